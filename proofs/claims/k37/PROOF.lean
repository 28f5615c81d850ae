import PyProof.Rows.All
import Wide.All
import OpenK.AllK
import Wide.FinOn
import HandS.ForMost
import HandS.ForExc
import HandS.Deep
import HandS.IsInst
import HandS.Wide
import HandS.SortInts
import HandS.More
import HandS.Walk
import HandS.TupAny
import HandS.Text
import HandS.Zip
import HandS.Defaults
import HandS.MakeKwOnly
import HandS.HeadHook2
import HandS.CallSlots
import KE.KStateDown
import HandS.Head0
import HandS.Head1
import HandS.Head2
import HandS.HeadEnd
import PyProof.P3In
import KE.LtData
import HandS.TupMul
import HandS.TupLe
import HandS.StrMore
import HandS.ExcIs
import HandS.TryOnly
import HandS.DictComp
import HandS.SetKeys
import HandS.Style
import HandS.Conv
import HandS.Flt
import KE.GoesRaise
import HandS.Star
import PySem.Challenge.RW_hornbook_k37_resolve
set_option Elab.async false
set_option linter.all false
set_option maxRecDepth 100000
/-! MA: values that never change (T), values of a def's frame (Val), what stands for them in the heap; a def's body as a plain function over them. -/
namespace MM
open PySem PySem.Spec PyProof.Rows L2

/-- a thing that never changes -/
inductive T where
  | non | bl (b : Bool) | int (i : Int) | str (s : Str) | tup (ts : List T) | ls (ts : List T)
/-- a value: such a thing, a list of them, a dict of them, a tuple or a list that holds any values -/
inductive Val where
  | im (t : T) | il (ts : List T) | dk (kvs : List (Key × T)) | dt (kvs : List (List Key × T)) | tup (vs : List Val) | lst (vs : List Val)

/-- a text that may be compared, indexed, measured -/
def sOk (x : Str) : Bool := PyData.strOk x && decide (x.length ≤ sizeLine)

mutual
inductive RepT (K : PySem.W.Frag) (H : Hp) : V → T → Prop
  | non : RepT K H .non .non
  | bl (b : Bool) : RepT K H (.bl b) (.bl b)
  | int (i : Int) : RepT K H (.int i) (.int i)
  | str (x : Str) : sOk x = true → RepT K H (.str x) (.str x)
  | tup {a : Addr} {xs : List V} {ts : List T} : SqT K H a xs → RepTs K H xs ts → RepT K H (.ref a) (.tup ts)
  | ls {a : Addr} {o : Obj} {xs : List V} {ts : List T} : H a = some (.frz o (.lst xs)) → RepTs K H xs ts → RepT K H (.ref a) (.ls ts)
inductive RepTs (K : PySem.W.Frag) (H : Hp) : List V → List T → Prop
  | nil : RepTs K H [] []
  | cons {v : V} {vs : List V} {t : T} {ts : List T} : RepT K H v t → RepTs K H vs ts → RepTs K H (v :: vs) (t :: ts)
end

/-- the tuples of H stand in H' -/
def Le (H H' : Hp) : Prop := (∀ a xs, H a = some (.tup xs) → H' a = some (.tup xs)) ∧ (∀ a o xs, H a = some (.frz o (.tup xs)) → H' a = some (.frz o (.tup xs))) ∧ ∀ a o xs, H a = some (.frz o (.lst xs)) → H' a = some (.frz o (.lst xs))
theorem Le.refl (H : Hp) : Le H H := ⟨fun _ _ h => h, fun _ _ _ h => h, fun _ _ _ h => h⟩
theorem Le.trans {H H1 H2 : Hp} (a : Le H H1) (b : Le H1 H2) : Le H H2 := ⟨fun c o h => b.1 c o (a.1 c o h), fun c o u h => b.2.1 c o u (a.2.1 c o u h), fun c o u h => b.2.2 c o u (a.2.2 c o u h)⟩
theorem Le.of_same {H H' : Hp} (h : Same H H') : Le H H' := ⟨fun _ _ e => h _ _ e, fun _ _ _ e => h _ _ e, fun _ _ _ e => h _ _ e⟩
theorem Le.sqt {K : PySem.W.Frag} {H H' : Hp} {a : Addr} {xs : List V} (e : Le H H') (h : SqT K H a xs) : SqT K H' a xs := by
  rcases h with (h | ⟨o, h⟩) | h
  · exact .inl (.inl (e.1 _ _ h))
  · exact .inl (.inr ⟨o, e.2.1 _ _ _ h⟩)
  · exact .inr h
theorem Le.upd {H : Hp} {a : Addr} {o u : HO} (h : H a = some u) (hu : ∀ xs, u ≠ .tup xs) (hf : ∀ ob xs, u ≠ .frz ob (.tup xs)) (hg : ∀ ob xs, u ≠ .frz ob (.lst xs)) : Le H (upd H a o) := by
  refine ⟨fun b xs e => ?_, fun b ob xs e => ?_, fun b ob xs e => ?_⟩
  · rw [upd_ne]; exact e
    rintro rfl; rw [h] at e; exact hu _ (Option.some.inj e)
  · rw [upd_ne]; exact e
    rintro rfl; rw [h] at e; exact hf _ _ (Option.some.inj e)
  · rw [upd_ne]; exact e
    rintro rfl; rw [h] at e; exact hg _ _ (Option.some.inj e)
theorem Le.upd_lst {H : Hp} {a : Addr} {o : HO} {xs : List V} (h : H a = some (.lst xs)) : Le H (L2.upd H a o) := .upd h (fun _ z => nomatch z) (fun _ _ z => nomatch z) fun _ _ z => nomatch z
theorem Le.upd_dK {H : Hp} {a : Addr} {o : HO} {xs} (h : H a = some (.dK xs)) : Le H (L2.upd H a o) := .upd h (fun _ z => nomatch z) (fun _ _ z => nomatch z) fun _ _ z => nomatch z
theorem Le.upd_dT {H : Hp} {a : Addr} {o : HO} {xs} (h : H a = some (.dT xs)) : Le H (L2.upd H a o) := .upd h (fun _ z => nomatch z) (fun _ _ z => nomatch z) fun _ _ z => nomatch z
theorem Same.upd_new {H : Hp} {p : Addr} {o : HO} (h : H p = none) : Same H (L2.upd H p o) := fun b x e => by rw [upd_ne (ne_of_none e h)]; exact e

mutual
theorem RepT.mono {K : PySem.W.Frag} {H H' : Hp} (e : Le H H') : ∀ {t : T} {v : V}, RepT K H v t → RepT K H' v t
  | .non, _, h => by cases h; exact .non
  | .bl b, _, h => by cases h; exact .bl b
  | .int i, _, h => by cases h; exact .int i
  | .str x, _, h => by cases h with | str _ h => exact .str x h
  | .tup ts, _, h => by cases h with | tup h1 h2 => exact .tup (e.sqt h1) (RepTs.mono e h2)
  | .ls ts, _, h => by cases h with | ls h1 h2 => exact .ls (e.2.2 _ _ _ h1) (RepTs.mono e h2)
theorem RepTs.mono {K : PySem.W.Frag} {H H' : Hp} (e : Le H H') : ∀ {ts : List T} {vs : List V}, RepTs K H vs ts → RepTs K H' vs ts
  | [], _, h => by cases h; exact .nil
  | t :: ts, _, h => by cases h with | cons h1 h2 => exact .cons (RepT.mono e h1) (RepTs.mono e h2)
end
theorem RepTs.length {K : PySem.W.Frag} {H : Hp} : ∀ {ts : List T} {vs : List V}, RepTs K H vs ts → vs.length = ts.length
  | [], _, h => by cases h; rfl
  | t :: ts, _, h => by cases h with | cons h1 h2 => simp [RepTs.length h2]
theorem RepTs.get {K : PySem.W.Frag} {H : Hp} : ∀ {ts : List T} {vs : List V} {i : Nat} {t : T}, RepTs K H vs ts → ts[i]? = some t → ∃ v, vs[i]? = some v ∧ RepT K H v t
  | [], _, _, _, h, e => by simp at e
  | t :: ts, _, 0, u, h, e => by
    cases h with
    | cons h1 h2 => simp at e; subst e; exact ⟨_, rfl, h1⟩
  | t :: ts, _, i + 1, u, h, e => by
    cases h with
    | cons h1 h2 =>
      obtain ⟨v, e1, e2⟩ := RepTs.get (i := i) (t := u) h2 (by simpa using e)
      exact ⟨v, by simpa using e1, e2⟩
theorem RepTs.getV {K : PySem.W.Frag} {H : Hp} : ∀ {ts : List T} {vs : List V} {i : Nat} {v : V}, RepTs K H vs ts → vs[i]? = some v → ∃ t, ts[i]? = some t ∧ RepT K H v t
  | [], _, _, _, h, e => by cases h; simp at e
  | t :: ts, _, 0, u, h, e => by
    cases h with
    | cons h1 h2 => simp at e; subst e; exact ⟨_, rfl, h1⟩
  | t :: ts, _, i + 1, u, h, e => by
    cases h with
    | cons h1 h2 =>
      obtain ⟨v, e1, e2⟩ := RepTs.getV (i := i) (v := u) h2 (by simpa using e)
      exact ⟨v, by simpa using e1, e2⟩
theorem RepTs.append {K : PySem.W.Frag} {H : Hp} : ∀ {ts us : List T} {vs ws : List V}, RepTs K H vs ts → RepTs K H ws us → RepTs K H (vs ++ ws) (ts ++ us)
  | [], _, _, _, h, g => by cases h; exact g
  | t :: ts, _, _, _, h, g => by cases h with | cons h1 h2 => exact .cons h1 (RepTs.append h2 g)
theorem RepTs.take {K : PySem.W.Frag} {H : Hp} : ∀ (n : Nat) {ts : List T} {vs : List V}, RepTs K H vs ts → RepTs K H (vs.take n) (ts.take n)
  | 0, _, _, _ => by simpa using .nil
  | n + 1, [], _, h => by cases h; simpa using .nil
  | n + 1, t :: ts, _, h => by cases h with | cons h1 h2 => simpa using .cons h1 (RepTs.take n h2)
theorem RepTs.drop {K : PySem.W.Frag} {H : Hp} : ∀ (n : Nat) {ts : List T} {vs : List V}, RepTs K H vs ts → RepTs K H (vs.drop n) (ts.drop n)
  | 0, _, _, h => by simpa using h
  | n + 1, [], _, h => by cases h; simpa using .nil
  | n + 1, t :: ts, _, h => by cases h with | cons h1 h2 => simpa using RepTs.drop n h2
theorem RepTs.set {K : PySem.W.Frag} {H : Hp} {v : V} {t : T} (r : RepT K H v t) : ∀ {ts : List T} {vs : List V} (i : Nat), RepTs K H vs ts → RepTs K H (vs.set i v) (ts.set i t)
  | [], _, _, h => by cases h; simpa using .nil
  | u :: ts, _, 0, h => by cases h with | cons h1 h2 => simpa using .cons r h2
  | u :: ts, _, i + 1, h => by cases h with | cons h1 h2 => simpa using .cons h1 (RepTs.set r i h2)
theorem RepTs.one {K : PySem.W.Frag} {H : Hp} {v : V} {t : T} (r : RepT K H v t) : RepTs K H [v] [t] := .cons r .nil

/-- a dict's rows -/
def RepK (K : PySem.W.Frag) (H : Hp) {κ : Type} (vs : List (κ × V)) (ts : List (κ × T)) : Prop := vs.map (·.1) = ts.map (·.1) ∧ RepTs K H (vs.map (·.2)) (ts.map (·.2))
theorem RepK.mono {K : PySem.W.Frag} {H H' : Hp} {κ : Type} {vs : List (κ × V)} {ts : List (κ × T)} (e : Le H H') (h : RepK K H vs ts) : RepK K H' vs ts := ⟨h.1, h.2.mono e⟩

/-- what belongs to one slot: the addresses of all that may be changed -/
inductive Own (K : PySem.W.Frag) (H : Hp) : V → Val → List Addr → Prop
  | im {v : V} {t : T} : RepT K H v t → Own K H v (.im t) []
  | il {a : Addr} {xs : List V} {ts : List T} : H a = some (.lst xs) → RepTs K H xs ts → Own K H (.ref a) (.il ts) [a]
  | dk {a : Addr} {xs : List (Key × V)} {ts : List (Key × T)} : H a = some (.dK xs) → RepK K H xs ts → Own K H (.ref a) (.dk ts) [a]
  | dt {a : Addr} {xs : List (List Key × V)} {ts : List (List Key × T)} : H a = some (.dT xs) → RepK K H xs ts → Own K H (.ref a) (.dt ts) [a]
  | tnil {a : Addr} : SqT K H a [] → Own K H (.ref a) (.tup []) []
  | tup {a : Addr} {xs : List V} {vs : List Val} (f : Nat → List Addr) : SqT K H a xs → xs.length = vs.length → (∀ (i : Nat) v x, xs[i]? = some v → vs[i]? = some x → Own K H v x (f i)) → Own K H (.ref a) (.tup vs) ((List.range xs.length).map f).flatten
  | lst {a : Addr} {xs : List V} {vs : List Val} (f : Nat → List Addr) : H a = some (.lst xs) → xs.length = vs.length → (∀ (i : Nat) v x, xs[i]? = some v → vs[i]? = some x → Own K H v x (f i)) → Own K H (.ref a) (.lst vs) (a :: ((List.range xs.length).map f).flatten)
/-- what is only read -/
inductive Bor (K : PySem.W.Frag) (H : Hp) : V → Val → Prop
  | im {v : V} {t : T} : RepT K H v t → Bor K H v (.im t)
  | il {a : Addr} {xs : List V} {ts : List T} : H a = some (.lst xs) → RepTs K H xs ts → Bor K H (.ref a) (.il ts)
  | dk {a : Addr} {xs : List (Key × V)} {ts : List (Key × T)} : Rd H a (.dK xs) → RepK K H xs ts → Bor K H (.ref a) (.dk ts)
  | dt {a : Addr} {xs : List (List Key × V)} {ts : List (List Key × T)} : Rd H a (.dT xs) → RepK K H xs ts → Bor K H (.ref a) (.dt ts)
  | tup {a : Addr} {xs : List V} {vs : List Val} : SqT K H a xs → xs.length = vs.length → (∀ (i : Nat) v x, xs[i]? = some v → vs[i]? = some x → Bor K H v x) → Bor K H (.ref a) (.tup vs)
  | lst {a : Addr} {xs : List V} {vs : List Val} : H a = some (.lst xs) → xs.length = vs.length → (∀ (i : Nat) v x, xs[i]? = some v → vs[i]? = some x → Bor K H v x) → Bor K H (.ref a) (.lst vs)

theorem Own.bor {K : PySem.W.Frag} {H : Hp} {v : V} {x : Val} {G : List Addr} (h : Own K H v x G) : Bor K H v x := by
  induction h with
  | im h => exact .im h
  | il h g => exact .il h g
  | dk h g => exact .dk (.inl h) g
  | dt h g => exact .dt (.inl h) g
  | tnil h => exact .tup h rfl fun i v x e => by simp at e
  | tup f h hl g ih => exact .tup h hl ih
  | lst f h hl g ih => exact .lst h hl ih
/-- all that is tracked in B stands in H -/
theorem Bor.mono {K : PySem.W.Frag} {B H : Hp} (e : Same B H) {v : V} {x : Val} (h : Bor K B v x) : Bor K H v x := by
  have le := Le.of_same e
  have rd : ∀ {a u}, Rd B a u → Rd H a u := fun {a u} r => r.elim (fun q => .inl (e _ _ q)) fun ⟨o, q⟩ => .inr ⟨o, e _ _ q⟩
  induction h with
  | im h => exact .im (h.mono le)
  | il h g => exact .il (e _ _ h) (g.mono le)
  | dk h g => exact .dk (rd h) (g.mono le)
  | dt h g => exact .dt (rd h) (g.mono le)
  | tup h hl g ih => exact .tup (le.sqt h) hl ih
  | lst h hl g ih => exact .lst (e _ _ h) hl ih
/-- the owned part stays, and the tuples -/
theorem Own.mono {K : PySem.W.Frag} {H H' : Hp} (le : Le H H') {v : V} {x : Val} {G : List Addr} (h : Own K H v x G) (k : ∀ a ∈ G, ∀ o, H a = some o → H' a = some o) : Own K H' v x G := by
  induction h with
  | im h => exact .im (h.mono le)
  | il h g => exact .il (k _ (by simp) _ h) (g.mono le)
  | dk h g => exact .dk (k _ (by simp) _ h) (g.mono le)
  | dt h g => exact .dt (k _ (by simp) _ h) (g.mono le)
  | tnil h => exact .tnil (le.sqt h)
  | @tup a xs vs f h hl g ih =>
    refine .tup f (le.sqt h) hl fun i v x e1 e2 => ih i v x e1 e2 fun b hb => k b ?_
    have hi : i < xs.length := (List.getElem?_eq_some_iff.mp e1).1
    exact List.mem_flatten.mpr ⟨f i, List.mem_map.mpr ⟨i, List.mem_range.mpr hi, rfl⟩, hb⟩
  | @lst a xs vs f h hl g ih =>
    refine .lst f (k _ (by simp) _ h) hl fun i v x e1 e2 => ih i v x e1 e2 fun b hb => k b ?_
    have hi : i < xs.length := (List.getElem?_eq_some_iff.mp e1).1
    exact List.mem_cons_of_mem _ (List.mem_flatten.mpr ⟨f i, List.mem_map.mpr ⟨i, List.mem_range.mpr hi, rfl⟩, hb⟩)
/-- it may be changed -/
def Mu : HO → Prop
  | .lst _ => True
  | .dK _ => True
  | .dT _ => True
  | _ => False
theorem Own.there {K : PySem.W.Frag} {H : Hp} {v : V} {x : Val} {G : List Addr} (h : Own K H v x G) : ∀ a ∈ G, ∃ o, H a = some o ∧ Mu o := by
  induction h with
  | im h => intro a ha; simp at ha
  | il h g => intro a ha; simp at ha; subst ha; exact ⟨_, h, True.intro⟩
  | dk h g => intro a ha; simp at ha; subst ha; exact ⟨_, h, True.intro⟩
  | dt h g => intro a ha; simp at ha; subst ha; exact ⟨_, h, True.intro⟩
  | tnil h => intro a ha; simp at ha
  | @tup a xs vs f h hl g ih =>
    intro b hb
    obtain ⟨l, hl1, hl2⟩ := List.mem_flatten.mp hb
    obtain ⟨i, hi, rfl⟩ := List.mem_map.mp hl1
    have hi := List.mem_range.mp hi
    exact ih i xs[i] vs[i] (List.getElem?_eq_getElem hi) (List.getElem?_eq_getElem (hl ▸ hi)) b hl2
  | @lst a xs vs f h hl g ih =>
    intro b hb
    rcases List.mem_cons.mp hb with rfl | hb
    · exact ⟨_, h, True.intro⟩
    obtain ⟨l, hl1, hl2⟩ := List.mem_flatten.mp hb
    obtain ⟨i, hi, rfl⟩ := List.mem_map.mp hl1
    have hi := List.mem_range.mp hi
    exact ih i xs[i] vs[i] (List.getElem?_eq_getElem hi) (List.getElem?_eq_getElem (hl ▸ hi)) b hl2
end MM

/-! MB: the state of a body by plain values; the judgements RE (an expression that is read), OE (one whose value is owned), RT (a test), RA (arguments). -/
namespace MM
open PySem PySem.Spec PyProof.Rows L2

/-- the law's stream of drawn numbers -/
structure Zs where
  ns : List Int
  cur : Int
  pos : Int
  mix : Int
/-- an error: its class's name, its field -/
structure Exc where
  nm : Str
  fld : Option (Str × T) := none
inductive Rs (α : Type) where
  | ok (a : α) (z : Zs) | ex (c : Exc) (z : Zs) | no
def Rs.bind {α β : Type} (r : Rs α) (f : α → Zs → Rs β) : Rs β := match r with
  | .ok a z => f a z
  | .ex c z => .ex c z
  | .no => .no
@[simp] theorem Rs.bind_ok {α β : Type} {a : α} {z : Zs} {f : α → Zs → Rs β} : (Rs.ok a z).bind f = f a z := rfl
@[simp] theorem Rs.bind_ex {α β : Type} {c : Exc} {z : Zs} {f : α → Zs → Rs β} : (Rs.ex c z).bind f = .ex c z := rfl
@[simp] theorem Rs.bind_no {α β : Type} {f : α → Zs → Rs β} : (Rs.no).bind f = .no := rfl

/-- a slot: nothing, a value that is read, one that is owned, the stream, a value that a loop walks -/
inductive Sv where
  | un | b (x : Val) | o (x : Val) | s | lk (x : Val)

def hid (st : Option Addr) (H : Hp) : Hp := fun a => if st = some a then none else H a
/-- all but the stream is as it was; the stream has the same numbers -/
structure SameX (st : Option Addr) (H H' : Hp) : Prop where
  k : ∀ a o, st ≠ some a → H a = some o → H' a = some o
  l : ∀ a x r, st = some a → H a = some (.lst (x :: r)) → ∃ r', H' a = some (.lst (x :: r'))
def Zr (K : PySem.W.Frag) (st : Option Addr) (z : Zs) (H : Hp) : Prop :=
  ∀ a, st = some a → ∃ l, H a = some (.lst [.ref l, .int z.cur, .int z.pos, .int z.mix]) ∧ l ≠ a ∧ H l = some (.lst (z.ns.map V.int)) ∧ 0 ≤ z.cur ∧ 0 ≤ z.pos ∧ 0 ≤ z.mix ∧ z.mix < 2147483647
theorem SameX.refl (st : Option Addr) (H : Hp) : SameX st H H := ⟨fun _ _ _ h => h, fun _ _ r _ h => ⟨r, h⟩⟩
theorem SameX.trans {st : Option Addr} {H H1 H2 : Hp} (a : SameX st H H1) (b : SameX st H1 H2) : SameX st H H2 := ⟨fun c o n h => b.k c o n (a.k c o n h), fun c x r e h => let ⟨r1, h1⟩ := a.l c x r e h; b.l c x r1 e h1⟩
theorem SameX.of_same {st : Option Addr} {H H' : Hp} (h : Same H H') : SameX st H H' := ⟨fun _ _ _ e => h _ _ e, fun _ _ r _ e => ⟨r, h _ _ e⟩⟩
theorem SameX.hid {st : Option Addr} {H H' : Hp} (h : SameX st H H') : Same (hid st H) (hid st H') := fun a o e => by
  unfold MM.hid at e ⊢
  by_cases c : st = some a
  · rw [if_pos c] at e; cases e
  · rw [if_neg c] at e ⊢; exact h.k a o c e
theorem hid_same (st : Option Addr) (H : Hp) : Same (hid st H) H := fun a o e => by
  unfold hid at e
  by_cases c : st = some a
  · rw [if_pos c] at e; cases e
  · rw [if_neg c] at e; exact e
theorem hid_of {st : Option Addr} {H : Hp} {a : Addr} {o : HO} (n : st ≠ some a) (e : H a = some o) : hid st H a = some o := by unfold hid; rw [if_neg n]; exact e
theorem hid_none {H : Hp} : hid none H = H := by funext a; unfold hid; rw [if_neg (by simp)]
/-- the stream's object is no tuple -/
theorem Zr.le {K : PySem.W.Frag} {st : Option Addr} {z : Zs} {H : Hp} (h : Zr K st z H) : Le H (hid st H) := by
  have nt : ∀ {a}, st = some a → ∃ xs, H a = some (.lst xs) := fun {a} e => let ⟨l, q, _⟩ := h a e; ⟨_, q⟩
  refine ⟨fun a xs e => hid_of (fun c => ?_) e, fun a o xs e => hid_of (fun c => ?_) e, fun a o xs e => hid_of (fun c => ?_) e⟩
  · obtain ⟨ys, q⟩ := nt c; rw [e] at q; cases q
  · obtain ⟨ys, q⟩ := nt c; rw [e] at q; cases q
  · obtain ⟨ys, q⟩ := nt c; rw [e] at q; cases q
theorem SameX.le {K : PySem.W.Frag} {st : Option Addr} {z : Zs} {H H' : Hp} (h : SameX st H H') (hz : Zr K st z H) : Le H H' :=
  hz.le.trans ((Le.of_same h.hid).trans (Le.of_same (hid_same st H')))

/-- the slots; Ls: what a loop walks, by its slot -/
inductive SlS (K : PySem.W.Frag) (st : Option Addr) (B H : Hp) : List (Option (V × Val)) → L2.St → List Sv → List Addr → Prop
  | nil : SlS K st B H [] [] [] []
  | un {l : Option (V × Val)} {u : Option V} {Ls : List (Option (V × Val))} {σ : L2.St} {S : List Sv} {G : List Addr} : SlS K st B H Ls σ S G → SlS K st B H (l :: Ls) (u :: σ) (.un :: S) G
  | b {l : Option (V × Val)} {v : V} {x : Val} {Ls : List (Option (V × Val))} {σ : L2.St} {S : List Sv} {G : List Addr} : Bor K B v x → SlS K st B H Ls σ S G → SlS K st B H (l :: Ls) (some v :: σ) (.b x :: S) G
  | o {l : Option (V × Val)} {v : V} {x : Val} {Ls : List (Option (V × Val))} {σ : L2.St} {S : List Sv} {G1 G : List Addr} : Own K H v x G1 → SlS K st B H Ls σ S G → SlS K st B H (l :: Ls) (some v :: σ) (.o x :: S) (G1 ++ G)
  | s {l : Option (V × Val)} {a : Addr} {Ls : List (Option (V × Val))} {σ : L2.St} {S : List Sv} {G : List Addr} : st = some a → SlS K st B H Ls σ S G → SlS K st B H (l :: Ls) (some (.ref a) :: σ) (.s :: S) G
  | lk {v : V} {x : Val} {Ls : List (Option (V × Val))} {σ : L2.St} {S : List Sv} {G : List Addr} : SlS K st B H Ls σ S G → SlS K st B H (some (v, x) :: Ls) (some v :: σ) (.lk x :: S) G

/-- the state: G what belongs to values on their way -/
structure Stt (K : PySem.W.Frag) (st : Option Addr) (H0 B : Hp) (Ls : List (Option (V × Val))) (G : List Addr) (S : List Sv) (z : Zs) (σ : L2.St) (H : Hp) : Prop where
  fr : SameX st H0 H
  zr : Zr K st z H
  ble : Same B H
  z0 : ∃ z, Zr K st z H0
  bst : ∀ a, st = some a → B a = none
  gt : ∀ a ∈ G, ∃ o, H a = some o ∧ Mu o
  lks : ∀ (j : Nat) v x, Ls[j]? = some (some (v, x)) → Bor K B v x
  ex : ∃ Gs, SlS K st (hid st H0) H Ls σ S Gs ∧ (G ++ Gs).Nodup ∧ ∀ a ∈ G ++ Gs, H0 a = none ∧ B a = none

section
variable {K : PySem.W.Frag} {st : Option Addr} {H0 B : Hp} {Ls : List (Option (V × Val))} {G : List Addr} {S : List Sv} {z z' : Zs} {σ : L2.St} {H H' : Hp}
theorem SlS.mono (le : Le H H') {Gs : List Addr} (h : SlS K st B H Ls σ S Gs) (k : ∀ a ∈ Gs, ∀ o, H a = some o → H' a = some o) : SlS K st B H' Ls σ S Gs := by
  induction h with
  | nil => exact .nil
  | un h ih => exact .un (ih k)
  | b h g ih => exact .b h (ih k)
  | o h g ih => exact .o (h.mono le fun a ha => k a (List.mem_append_left _ ha)) (ih fun a ha => k a (List.mem_append_right _ ha))
  | s h g ih => exact .s h (ih k)
  | lk g ih => exact .lk (ih k)
theorem SlS.length {Gs : List Addr} (h : SlS K st B H Ls σ S Gs) : σ.length = S.length := by
  induction h <;> simp_all
theorem SlS.lengthL {Gs : List Addr} (h : SlS K st B H Ls σ S Gs) : Ls.length = S.length := by
  induction h <;> simp_all
theorem SlS.there {Gs : List Addr} (h : SlS K st B H Ls σ S Gs) : ∀ a ∈ Gs, ∃ o, H a = some o ∧ Mu o := by
  induction h with
  | nil => intro a ha; simp at ha
  | un h ih => exact ih
  | b h g ih => exact ih
  | o h g ih =>
    intro a ha
    rcases List.mem_append.mp ha with q | q
    · exact h.there a q
    · exact ih a q
  | s h g ih => exact ih
  | lk g ih => exact ih
theorem Stt.nst (h : Stt K st H0 B Ls G S z σ H) {a : Addr} (e : H0 a = none) : st ≠ some a := fun c => by
  obtain ⟨z, hz⟩ := h.z0
  obtain ⟨l, q, _⟩ := hz a c
  rw [q] at e; cases e
theorem Stt.bhid (h : Stt K st H0 B Ls G S z σ H) : Same B (hid st H) := fun a o e => hid_of (fun c => by
  have q := h.bst a c
  rw [e] at q; cases q) (h.ble a o e)
/-- the heap grows, the stream turns -/
theorem Stt.grow (h : Stt K st H0 B Ls G S z σ H) (x : SameX st H H') (hz : Zr K st z' H') : Stt K st H0 B Ls G S z' σ H' := by
  obtain ⟨Gs, hs, nd, fr⟩ := h.ex
  refine ⟨h.fr.trans x, hz, fun a o e => ?_, h.z0, h.bst, fun a ha => let ⟨o, e, m⟩ := h.gt a ha; ⟨o, x.k a o (h.nst (fr a (List.mem_append_left _ ha)).1) e, m⟩, h.lks, Gs, hs.mono (x.le h.zr) (fun a ha o e => x.k a o (h.nst (fr a (List.mem_append_right _ ha)).1) e), nd, fr⟩
  exact x.k a o (fun c => by
    have q := h.bst a c
    rw [e] at q; cases q) (h.ble a o e)
/-- an owned value is readable -/
theorem Stt.own_bor (h : Stt K st H0 B Ls G S z σ H) {v : V} {x : Val} {G' : List Addr} (o : Own K H v x G') (n : ∀ a ∈ G', st ≠ some a) : Bor K (hid st H) v x :=
  (o.mono h.zr.le fun a ha _ e => hid_of (n a ha) e).bor
theorem SlS.get_b {i : Nat} {x : Val} {Gs : List Addr} (h : SlS K st B H Ls σ S Gs) : S[i]? = some (.b x) → ∃ v, σ[i]? = some (some v) ∧ Bor K B v x := by
  induction h generalizing i with
  | nil => intro e; simp at e
  | un h ih => intro e; cases i with | zero => simp at e | succ i => simpa using ih (by simpa using e)
  | b h g ih => intro e; cases i with | zero => simp at e; subst e; exact ⟨_, rfl, h⟩ | succ i => simpa using ih (by simpa using e)
  | o h g ih => intro e; cases i with | zero => simp at e | succ i => simpa using ih (by simpa using e)
  | s h g ih => intro e; cases i with | zero => simp at e | succ i => simpa using ih (by simpa using e)
  | lk g ih => intro e; cases i with | zero => simp at e | succ i => simpa using ih (by simpa using e)
theorem SlS.get_lk {i : Nat} {x : Val} {Gs : List Addr} (h : SlS K st B H Ls σ S Gs) : S[i]? = some (.lk x) → ∃ v, σ[i]? = some (some v) ∧ Ls[i]? = some (some (v, x)) := by
  induction h generalizing i with
  | nil => intro e; simp at e
  | un h ih => intro e; cases i with | zero => simp at e | succ i => simpa using ih (by simpa using e)
  | b h g ih => intro e; cases i with | zero => simp at e | succ i => simpa using ih (by simpa using e)
  | o h g ih => intro e; cases i with | zero => simp at e | succ i => simpa using ih (by simpa using e)
  | s h g ih => intro e; cases i with | zero => simp at e | succ i => simpa using ih (by simpa using e)
  | lk g ih => intro e; cases i with | zero => simp at e; subst e; exact ⟨_, rfl, rfl⟩ | succ i => simpa using ih (by simpa using e)
theorem SlS.get_s {i : Nat} {Gs : List Addr} (h : SlS K st B H Ls σ S Gs) : S[i]? = some .s → ∃ a, σ[i]? = some (some (.ref a)) ∧ st = some a := by
  induction h generalizing i with
  | nil => intro e; simp at e
  | un h ih => intro e; cases i with | zero => simp at e | succ i => simpa using ih (by simpa using e)
  | b h g ih => intro e; cases i with | zero => simp at e | succ i => simpa using ih (by simpa using e)
  | o h g ih => intro e; cases i with | zero => simp at e | succ i => simpa using ih (by simpa using e)
  | s h g ih => intro e; cases i with | zero => exact ⟨_, rfl, h⟩ | succ i => simpa using ih (by simpa using e)
  | lk g ih => intro e; cases i with | zero => simp at e | succ i => simpa using ih (by simpa using e)
theorem SlS.bmono {B' : Hp} (bm : Same B B') {Gs : List Addr} (h : SlS K st B H Ls σ S Gs) : SlS K st B' H Ls σ S Gs := by
  induction h with
  | nil => exact .nil
  | un h ih => exact .un ih
  | b h g ih => exact .b (h.mono bm) ih
  | o h g ih => exact .o h ih
  | s h g ih => exact .s h ih
  | lk g ih => exact .lk ih
/-- a slot alone -/
theorem SlS.put {l : Option (V × Val)} {w : Option V} {y : Sv} {G2 : List Addr} (s : SlS K st B H [l] [w] [y] G2) {Ls : List (Option (V × Val))} {σ : L2.St} {S : List Sv} {Gr : List Addr} (g' : SlS K st B H Ls σ S Gr) : SlS K st B H (l :: Ls) (w :: σ) (y :: S) (G2 ++ Gr) := by
  cases s with
  | un s => cases s; exact .un g'
  | b q s => cases s; exact .b q g'
  | o q s => cases s; simpa using .o q g'
  | s q s => cases s; exact .s q g'
  | lk s => cases s; exact .lk g'
/-- the i-th slot is owned: its part G1, and what the others have -/
theorem SlS.get_o {i : Nat} {x : Val} {Gs : List Addr} (h : SlS K st B H Ls σ S Gs) : S[i]? = some (.o x) → ∃ v G1 Ga Gb, σ[i]? = some (some v) ∧ Own K H v x G1 ∧ Gs = Ga ++ G1 ++ Gb ∧
    ∀ (B' H' : Hp) (l : Option (V × Val)) (y : Sv) (w : Option V) (G2 : List Addr), Same B B' → Le H H' → (∀ a ∈ Ga ++ Gb, ∀ o, H a = some o → H' a = some o) → SlS K st B' H' [l] [w] [y] G2 → SlS K st B' H' (Ls.set i l) (σ.set i w) (S.set i y) (Ga ++ G2 ++ Gb) := by
  induction h generalizing i with
  | nil => intro e; simp at e
  | un h ih =>
    intro e
    cases i with
    | zero => simp at e
    | succ i =>
      obtain ⟨v, G1, Ga, Gb, q1, q2, q3, q4⟩ := ih (i := i) (by simpa using e)
      exact ⟨v, G1, Ga, Gb, by simpa using q1, q2, q3, fun B' H' l y w G2 bm le k s => .un (q4 B' H' l y w G2 bm le k s)⟩
  | b h g ih =>
    intro e
    cases i with
    | zero => simp at e
    | succ i =>
      obtain ⟨v, G1, Ga, Gb, q1, q2, q3, q4⟩ := ih (i := i) (by simpa using e)
      exact ⟨v, G1, Ga, Gb, by simpa using q1, q2, q3, fun B' H' l y w G2 bm le k s => .b (h.mono bm) (q4 B' H' l y w G2 bm le k s)⟩
  | @o l0 v0 x0 Ls0 σ0 S0 G0 Gr h g ih =>
    intro e
    cases i with
    | zero =>
      simp at e; subst e
      refine ⟨v0, G0, [], Gr, rfl, h, by simp, fun B' H' l y w G2 bm le k s => ?_⟩
      have g' := (g.bmono bm).mono le (fun a ha => k a (by simpa using ha))
      simp only [List.set_cons_zero, List.nil_append]
      exact s.put g'
    | succ i =>
      obtain ⟨v, G1, Ga, Gb, q1, q2, q3, q4⟩ := ih (i := i) (by simpa using e)
      refine ⟨v, G1, G0 ++ Ga, Gb, by simpa using q1, q2, by rw [q3]; simp, fun B' H' l y w G2 bm le k s => ?_⟩
      have := SlS.o (l := l0) (h.mono le fun a ha => k a (by simp [ha])) (q4 B' H' l y w G2 bm le (fun a ha => k a (by simp at ha ⊢; rcases ha with q | q; exact .inr (.inl q); exact .inr (.inr q))) s)
      simpa using this
  | s h g ih =>
    intro e
    cases i with
    | zero => simp at e
    | succ i =>
      obtain ⟨v, G1, Ga, Gb, q1, q2, q3, q4⟩ := ih (i := i) (by simpa using e)
      exact ⟨v, G1, Ga, Gb, by simpa using q1, q2, q3, fun B' H' l y w G2 bm le k s => .s h (q4 B' H' l y w G2 bm le k s)⟩
  | lk g ih =>
    intro e
    cases i with
    | zero => simp at e
    | succ i =>
      obtain ⟨v, G1, Ga, Gb, q1, q2, q3, q4⟩ := ih (i := i) (by simpa using e)
      exact ⟨v, G1, Ga, Gb, by simpa using q1, q2, q3, fun B' H' l y w G2 bm le k s => .lk (q4 B' H' l y w G2 bm le k s)⟩
/-- any slot is written over -/
theorem SlS.set {i : Nat} {Gs : List Addr} (h : SlS K st B H Ls σ S Gs) (hi : i < S.length) {y : Sv} {w : Option V} {G2 : List Addr} (s : ∀ l, SlS K st B H [l] [w] [y] G2) :
    ∃ Ga Gm Gb, Gs = Ga ++ Gm ++ Gb ∧ SlS K st B H Ls (σ.set i w) (S.set i y) (Ga ++ G2 ++ Gb) := by
  induction h generalizing i with
  | nil => simp at hi
  | un h ih =>
    cases i with
    | zero => exact ⟨[], [], _, by simp; rfl, by simpa using (s _).put h⟩
    | succ i =>
      obtain ⟨Ga, Gm, Gb, e, q⟩ := ih (i := i) (by simpa using hi)
      exact ⟨Ga, Gm, Gb, e, .un q⟩
  | b h g ih =>
    cases i with
    | zero => exact ⟨[], [], _, by simp; rfl, by simpa using (s _).put g⟩
    | succ i =>
      obtain ⟨Ga, Gm, Gb, e, q⟩ := ih (i := i) (by simpa using hi)
      exact ⟨Ga, Gm, Gb, e, .b h q⟩
  | @o l0 v0 x0 Ls0 σ0 S0 G0 Gr h g ih =>
    cases i with
    | zero => exact ⟨[], G0, Gr, by simp, by simpa using (s _).put g⟩
    | succ i =>
      obtain ⟨Ga, Gm, Gb, e, q⟩ := ih (i := i) (by simpa using hi)
      exact ⟨G0 ++ Ga, Gm, Gb, by rw [e]; simp, by simpa using SlS.o (l := l0) h q⟩
  | s h g ih =>
    cases i with
    | zero => exact ⟨[], [], _, by simp; rfl, by simpa using (s _).put g⟩
    | succ i =>
      obtain ⟨Ga, Gm, Gb, e, q⟩ := ih (i := i) (by simpa using hi)
      exact ⟨Ga, Gm, Gb, e, .s h q⟩
  | lk g ih =>
    cases i with
    | zero => exact ⟨[], [], _, by simp; rfl, by simpa using (s _).put g⟩
    | succ i =>
      obtain ⟨Ga, Gm, Gb, e, q⟩ := ih (i := i) (by simpa using hi)
      exact ⟨Ga, Gm, Gb, e, .lk q⟩
end

/-- the error that was raised, as it lies -/
def ExR (K : PySem.W.Frag) (mg : Str → Option Value) (c : Exc) (cv : Value) (d : Option Addr) (H : Hp) : Prop :=
  (∃ C, mg c.nm = some (.ref C) ∧ cv = .ref C) ∧ match c.fld with
  | none => d = none
  | some (f, t) => ∃ dd v, d = some dd ∧ H dd = some (.xd [(f, v)]) ∧ RepT K H v t

/-- an outcome's wish -/
def Ct {α : Type} (X : Cx) (W : WX) (st : Option Addr) (σ : L2.St) (H : Hp) (r : Rs α) (k : α → Zs → Hp → Prop) : Prop := match r with
  | .ok x z' => ∀ H', SameX st H H' → Zr X.K st z' H' → k x z' H'
  | .ex c z' => ∀ cv d H', SameX st H H' → Zr X.K st z' H' → ExR X.K X.mg c cv d H' → W cv d σ H'
  | .no => False
section
variable {X : Cx} {W : WX} {st : Option Addr} {σ : L2.St} {H H1 : Hp}
theorem Ct.grow {α : Type} {r : Rs α} {k : α → Zs → Hp → Prop} (h : Ct X W st σ H r k) (x : SameX st H H1) : Ct X W st σ H1 r k := by
  cases r with
  | ok a z => exact fun H' y => h H' (x.trans y)
  | ex c z => exact fun cv d H' y => h cv d H' (x.trans y)
  | no => exact h
theorem Ct.bind {α β : Type} {r : Rs α} {f : α → Zs → Rs β} {k : β → Zs → Hp → Prop} {k' : α → Zs → Hp → Prop} (h : Ct X W st σ H (r.bind f) k)
    (g : ∀ a z1 H1, r = .ok a z1 → SameX st H H1 → Zr X.K st z1 H1 → Ct X W st σ H1 (f a z1) k → k' a z1 H1) : Ct X W st σ H r k' := by
  cases r with
  | ok a z => exact fun H' y hz => g a z H' rfl y hz (Ct.grow (show Ct X W st σ H (f a z) k from h) y)
  | ex c z => exact h
  | no => exact h
theorem Ct.imp {α : Type} {r : Rs α} {k k' : α → Zs → Hp → Prop} (h : Ct X W st σ H r k) (g : ∀ a z1 H1, r = .ok a z1 → SameX st H H1 → Zr X.K st z1 H1 → k a z1 H1 → k' a z1 H1) : Ct X W st σ H r k' := by
  cases r with
  | ok a z => exact fun H' y hz => g a z H' rfl y hz (h H' y hz)
  | ex c z => exact h
  | no => exact h
theorem Ct.ok {α : Type} {a : α} {z : Zs} {k : α → Zs → Hp → Prop} (h : Ct X W st σ H (.ok a z) k) (hz : Zr X.K st z H) : k a z H := h H (.refl _ _) hz
theorem Ct.okX {α : Type} {a : α} {z : Zs} {k : α → Zs → Hp → Prop} (h : Ct X W st σ H (.ok a z) k) (x : SameX st H H1) (hz : Zr X.K st z H1) : k a z H1 := h H1 x hz
end

abbrev ME := List Sv → Zs → Rs Val
abbrev MO := List Sv → Zs → Rs (Val × List Sv)
abbrev MT := List Sv → Zs → Rs Bool
abbrev MAs := List Sv → Zs → Rs (List Val)
def RE (X : Cx) (W : WX) (st : Option Addr) (e : Expr) (m : ME) : Prop := ∃ t, PE X e t ∧ ∀ H0 B Ls G S z σ H Q, Stt X.K st H0 B Ls G S z σ H →
  Ct X W st σ H (m S z) (fun x z' H' => ∀ v, Bor X.K (hid st H') v x → Q v H') → t σ H Q
def OE (X : Cx) (W : WX) (st : Option Addr) (e : Expr) (m : MO) : Prop := ∃ t, PE X e t ∧ ∀ H0 B Ls G S z σ H Q, Stt X.K st H0 B Ls G S z σ H →
  Ct X W st σ H (m S z) (fun x z' H' => ∀ v G', Own X.K H' v x.1 G' → Stt X.K st H0 B Ls (G' ++ G) x.2 z' σ H' → Q v H') → t σ H Q
def RT (X : Cx) (W : WX) (st : Option Addr) (e : Expr) (m : MT) : Prop := ∃ t, PT X e t ∧ ∀ H0 B Ls G S z σ H Q, Stt X.K st H0 B Ls G S z σ H →
  Ct X W st σ H (m S z) (fun x z' H' => Q x H') → t σ H Q
def BorS (K : PySem.W.Frag) (H : Hp) : List V → List Val → Prop := Paired (Bor K H)
def RA (X : Cx) (W : WX) (st : Option Addr) (es : List Expr) (m : MAs) : Prop := ∃ t, PA X es t ∧ ∀ H0 B Ls G S z σ H Q, Stt X.K st H0 B Ls G S z σ H →
  Ct X W st σ H (m S z) (fun xs z' H' => ∀ vs, BorS X.K (hid st H') vs xs → Q vs H') → t σ H Q

theorem BorS.mono {K : PySem.W.Frag} {B H : Hp} (e : Same B H) : ∀ {vs : List V} {xs : List Val}, BorS K B vs xs → BorS K H vs xs
  | _, _, .nil => .nil
  | _, _, .cons h t => .cons (h.mono e) (BorS.mono e t)
theorem BorS.length {K : PySem.W.Frag} {H : Hp} {vs : List V} {xs : List Val} (h : BorS K H vs xs) : vs.length = xs.length := Paired.length h

section
variable {X : Cx} {W : WX} {st : Option Addr} {pos : Pos}

/-! ### names, constants -/
@[simp] def eV (i : Nat) : ME := fun S z => match S[i]? with
  | some (.b x) => .ok x z
  | some (.o x) => .ok x z
  | some (.lk x) => .ok x z
  | _ => .no
theorem re_var (i : Nat) {x : Str} (hN : X.N[i]? = some x := by rfl) (hv : Vis X.env.scope x := by first | exact Or.inl rfl | exact Or.inr (Or.inl rfl) | exact Or.inr (Or.inr rfl)) (hd : (x == ("__debug__" : Str)) = false := by decide)
    (hcd : (x == ("__classdict__" : Str)) = false := by decide) : RE X W st (.Name x pos) (eV i) := by
  refine ⟨tVar i, pe_var hN hv hd hcd, fun H0 B Ls G S z σ H Q h hq => ?_⟩
  obtain ⟨Gs, hs, nd, fr⟩ := h.ex
  unfold eV at hq
  cases e : S[i]? with
  | none => rw [e] at hq; exact hq.elim
  | some y =>
    rw [e] at hq
    cases y with
    | un => exact hq.elim
    | s => exact hq.elim
    | b x =>
      obtain ⟨v, e1, e2⟩ := hs.get_b e
      exact ⟨v, e1, hq.ok h.zr v (e2.mono h.fr.hid)⟩
    | lk x =>
      obtain ⟨v, e1, e2⟩ := hs.get_lk e
      exact ⟨v, e1, hq.ok h.zr v ((h.lks i v x e2).mono h.bhid)⟩
    | o x =>
      obtain ⟨v, G1, Ga, Gb, e1, e2, e3, _⟩ := hs.get_o e
      exact ⟨v, e1, hq.ok h.zr v (h.own_bor e2 fun a ha => h.nst (fr a (by rw [e3]; simp [ha])).1)⟩
@[simp] def eC (t : T) : ME := fun _ z => .ok (.im t) z
theorem re_int {i : Int} {j} : RE X W st (.Constant (.int i) j pos) (eC (.int i)) :=
  ⟨tC (.int i), pe_int, fun H0 B Ls G S z σ H Q h hq => hq.ok h.zr _ (.im (.int i))⟩
theorem re_bl {b : Bool} {j} : RE X W st (.Constant (.bool b) j pos) (eC (.bl b)) :=
  ⟨tC (.bl b), pe_bl, fun H0 B Ls G S z σ H Q h hq => hq.ok h.zr _ (.im (.bl b))⟩
theorem re_non {j} : RE X W st (.Constant .none j pos) (eC .non) :=
  ⟨tC .non, pe_non, fun H0 B Ls G S z σ H Q h hq => hq.ok h.zr _ (.im .non)⟩
theorem re_str {x : Str} {j} (hx : sOk x = true := by decide +kernel) : RE X W st (.Constant (.str x) j pos) (eC (.str x)) :=
  ⟨tC (.str x), pe_str, fun H0 B Ls G S z σ H Q h hq => hq.ok h.zr _ (.im (.str x hx))⟩
/-- a module's constant -/
theorem re_glob {x : Str} {v : V} {u : Value} {t : T} (hg : Gl X x) (hm : X.mg x = some u) (r : RelV v u) (hr : ∀ H, RepT X.K H v t) (hd : (x == ("__debug__" : Str)) = false := by decide) : RE X W st (.Name x pos) (eC t) :=
  ⟨tC v, pe_glob hg hm r hd, fun H0 B Ls G S z σ H Q h hq => hq.ok h.zr _ (.im (hr _))⟩

/-! ### arguments, displays of things that never change -/
@[simp] def aNil : MAs := fun _ z => .ok [] z
@[simp] def aCons (m : ME) (ms : MAs) : MAs := fun S z => (m S z).bind fun x z => (ms S z).bind fun xs z => .ok (x :: xs) z
theorem ra_nil : RA X W st [] aNil := ⟨tNil, pa_nil, fun H0 B Ls G S z σ H Q h hq => hq.ok h.zr [] .nil⟩
theorem ra_cons {e : Expr} {es : List Expr} {m : ME} {ms : MAs} (he : RE X W st e m) (hr : RA X W st es ms) (hs : starEach (e :: es) X.env = (false, eval e X.env) :: starEach es X.env := by rfl) : RA X W st (e :: es) (aCons m ms) := by
  obtain ⟨t, p, f⟩ := he
  obtain ⟨ts, ps, fs⟩ := hr
  refine ⟨tCons t ts, pa_cons p ps hs, fun H0 B Ls G S z σ H Q h hq => ?_⟩
  refine f H0 B Ls G S z σ H _ h (hq.bind fun x z1 H1 _ x1 hz1 hq1 v hv => ?_)
  refine fs H0 B Ls G S z1 σ H1 _ (h.grow x1 hz1) (hq1.bind fun xs z2 H2 _ x2 hz2 hq2 vs hvs => ?_)
  exact hq2.ok hz2 (v :: vs) (.cons (hv.mono x2.hid) hvs)
/-- all of them never change -/
@[simp] def imS : List Val → Option (List T)
  | [] => some []
  | .im t :: vs => (imS vs).map (t :: ·)
  | _ => none
theorem imS_rep {K : PySem.W.Frag} {H : Hp} : ∀ {vs : List V} {xs : List Val} {ts : List T}, BorS K H vs xs → imS xs = some ts → RepTs K H vs ts
  | _, _, _, .nil, e => by cases e; exact .nil
  | _, _, _, .cons (b := x) h t, e => by
    cases x with
    | im u =>
      unfold imS at e
      cases q : imS _ with
      | none => rw [q] at e; cases e
      | some us =>
        rw [q] at e
        cases e
        cases h with
        | im h => exact .cons h (imS_rep t q)
    | _ => cases e
@[simp] def oTup (xs : List Val) (z : Zs) : Rs Val := match imS xs with
  | some ts => if ts.length ≤ sizeLine then .ok (.im (.tup ts)) z else .no
  | none => .no
@[simp] def eTup (ms : MAs) : ME := fun S z => (ms S z).bind oTup
theorem Zr.new {K : PySem.W.Frag} {st : Option Addr} {z : Zs} {H H' : Hp} (h : Zr K st z H) (e : Same H H') : Zr K st z H' := fun a q => by
  obtain ⟨l, h1, h2, h3, h4⟩ := h a q
  exact ⟨l, e _ _ h1, h2, e _ _ h3, h4⟩
theorem re_tup {es : List Expr} {ms : MAs} {x1} (ha : RA X W st es ms) : RE X W st (.Tuple es x1 pos) (eTup ms) := by
  obtain ⟨t, p, f⟩ := ha
  refine ⟨tTup t, pe_tup p, fun H0 B Ls G S z σ H Q h hq => ?_⟩
  refine f H0 B Ls G S z σ H _ h (hq.bind fun xs z1 H1 _ x1 hz1 hq1 vs hvs => ?_)
  unfold oTup at hq1
  cases e : imS xs with
  | none => rw [e] at hq1; exact hq1.elim
  | some ts =>
    rw [e] at hq1
    by_cases hl : ts.length ≤ sizeLine
    · simp only [hl, if_true] at hq1
      have r := imS_rep hvs e
      refine ⟨by rw [r.length]; exact hl, fun p np => ?_⟩
      have s1 : Same H1 (upd H1 p (.tup vs)) := Same.upd_new np
      have np' : st ≠ some p := fun c => by obtain ⟨l, q, _⟩ := hz1 p c; rw [np] at q; cases q
      have sx : SameX st H1 (upd H1 p (.tup vs)) := .of_same s1
      exact hq1.okX sx (hz1.new s1) _ (.im (.tup (.inl (.inl (hid_of np' upd_same))) (r.mono (Le.of_same sx.hid))))
    · simp only [hl, if_false] at hq1; exact hq1.elim
end
end MM

/-! MC: expressions. FE: an expression whose value is new (or never changes). -/
namespace MM
open PySem PySem.Spec PyProof.Rows L2

def FE (X : Cx) (W : WX) (st : Option Addr) (e : Expr) (m : ME) : Prop := ∃ t, PE X e t ∧ ∀ H0 B Ls G S z σ H Q, Stt X.K st H0 B Ls G S z σ H →
  Ct X W st σ H (m S z) (fun x z' H' => ∀ v G', Own X.K H' v x G' → Stt X.K st H0 B Ls (G' ++ G) S z' σ H' → Q v H') → t σ H Q

section
variable {K : PySem.W.Frag} {st : Option Addr} {H0 B : Hp} {Ls : List (Option (V × Val))} {G : List Addr} {S : List Sv} {z z' : Zs} {σ : L2.St} {H H' : Hp}
theorem Zr.free {a : Addr} (h : Zr K st z H) (e : H a = none) : st ≠ some a := fun c => by
  obtain ⟨l, q, _⟩ := h a c
  rw [e] at q; cases q
/-- new objects join -/
theorem Stt.add {G' : List Addr} (h : Stt K st H0 B Ls G S z σ H) (x : SameX st H H') (hz : Zr K st z' H') (nd : G'.Nodup) (fr : ∀ a ∈ G', H a = none) (nw : ∀ a ∈ G', ∃ o, H' a = some o ∧ Mu o) : Stt K st H0 B Ls (G' ++ G) S z' σ H' := by
  have h2 := h.grow x hz
  obtain ⟨Gs, hs, nd0, fr0⟩ := h.ex
  obtain ⟨Gs2, hs2, nd2, fr2⟩ := h2.ex
  have hz0 := h.zr
  have h0 : ∀ a, H a = none → H0 a = none := fun a e => by
    cases q : H0 a with
    | none => rfl
    | some o =>
      have := h.fr.k a o (hz0.free e) q
      rw [e] at this; cases this
  have hB : ∀ a, H a = none → B a = none := fun a e => by
    cases q : B a with
    | none => rfl
    | some o => have := h.ble a o q; rw [e] at this; cases this
  have hGs : ∀ a ∈ Gs, ∃ o, H a = some o ∧ Mu o := hs.there
  refine ⟨h2.fr, h2.zr, h2.ble, h2.z0, h2.bst, fun a ha => (List.mem_append.mp ha).elim (fun q => nw a q) (h2.gt a), h.lks, Gs, ?_, ?_, ?_⟩
  · exact hs.mono (x.le hz0) fun a ha o e => x.k a o (h.nst (fr0 a (List.mem_append_right _ ha)).1) e
  · rw [List.append_assoc]
    refine List.nodup_append.mpr ⟨nd, nd0, fun a ha b hb e => ?_⟩
    subst e
    rcases List.mem_append.mp hb with q | q
    · obtain ⟨o, e, _⟩ := h.gt a q
      rw [fr a ha] at e; cases e
    · obtain ⟨o, e, _⟩ := hGs a q
      rw [fr a ha] at e; cases e
  · intro a ha
    rw [List.append_assoc] at ha
    rcases List.mem_append.mp ha with q | q
    · exact ⟨h0 a (fr a q), hB a (fr a q)⟩
    · exact fr0 a q
end
section
variable {X : Cx} {W : WX} {st : Option Addr} {pos : Pos}
theorem re_fe {e : Expr} {m : ME} (h : FE X W st e m) : RE X W st e m := by
  obtain ⟨t, p, f⟩ := h
  refine ⟨t, p, fun H0 B Ls G S z σ H Q h hq => ?_⟩
  refine f H0 B Ls G S z σ H Q h (hq.imp fun x z1 H1 _ x1 hz1 q v G' o h1 => q v (h1.own_bor o fun a ha => ?_))
  obtain ⟨Gs, hs, nd, fr⟩ := h1.ex
  exact h1.nst (fr a (by simp [ha])).1
/-- a value that never changes -/
@[simp] def im1 (x : Val) (z : Zs) : Rs Val := match x with
  | .im t => .ok (.im t) z
  | _ => .no
@[simp] def eIm (m : ME) : ME := fun S z => (m S z).bind im1
theorem fe_re {e : Expr} {m : ME} (h : RE X W st e m) : FE X W st e (eIm m) := by
  obtain ⟨t, p, f⟩ := h
  refine ⟨t, p, fun H0 B Ls G S z σ H Q h hq => ?_⟩
  refine f H0 B Ls G S z σ H Q h (hq.bind fun x z1 H1 _ x1 hz1 hq1 v hv => ?_)
  cases x with
  | im u =>
    cases hv with
    | im r => exact hq1.ok hz1 v [] (.im (r.mono (Le.of_same (hid_same st H1)))) (h.grow x1 hz1)
  | _ => exact hq1.elim
/-- the usual end of a rule: new objects or none -/
theorem Ct.fin {H0 B : Hp} {Ls : List (Option (V × Val))} {G : List Addr} {S : List Sv} {z : Zs} {σ : L2.St} {H H1 : Hp} {Q : VK} {x : Val} (h : Stt X.K st H0 B Ls G S z σ H)
    (hq : Ct X W st σ H (.ok x z) (fun x z' H' => ∀ v G', Own X.K H' v x G' → Stt X.K st H0 B Ls (G' ++ G) S z' σ H' → Q v H')) {v : V} {G' : List Addr} (s : Same H H1) (o : Own X.K H1 v x G') (nd : G'.Nodup) (fr : ∀ a ∈ G', H a = none) : Q v H1 := by
  have hz := h.zr.new s
  exact hq.okX (.of_same s) hz v G' o (h.add (.of_same s) hz nd fr o.there)
@[simp] def lft {α : Type} (o : Option α) (z : Zs) : Rs α := match o with
  | some y => .ok y z
  | none => .no
@[simp] theorem lft_some {α : Type} {y : α} {z : Zs} : lft (some y) z = .ok y z := rfl
@[simp] theorem lft_none {α : Type} {z : Zs} : lft (none : Option α) z = .no := rfl

/-- what an operation of two values is worth -/
def Op2 (X : Cx) (st : Option Addr) (r : R2) (o : Val → Val → Option Val) : Prop := ∀ (H : Hp) (va vb : V) (xa xb y : Val) (Q : VK), Bor X.K (hid st H) va xa → Bor X.K (hid st H) vb xb → o xa xb = some y →
  (∀ v H' G', Same H H' → Own X.K H' v y G' → G'.Nodup → (∀ a ∈ G', H a = none) → Q v H') → r va vb H Q
@[simp] def eBin (o : Val → Val → Option Val) (ma mb : ME) : ME := fun S z => (ma S z).bind fun x z => (mb S z).bind fun y z => lft (o x y) z
theorem fe_op {op : Operator} {r : R2} {o : Val → Val → Option Val} {a b : Expr} {ma mb : ME} (ho : OpR X (binaryOp op) r) (sp : Op2 X st r o) (ha : RE X W st a ma) (hb : RE X W st b mb) : FE X W st (.BinOp a op b pos) (eBin o ma mb) := by
  obtain ⟨ta, pa, fa⟩ := ha
  obtain ⟨tb, pb, fb⟩ := hb
  refine ⟨tOp r ta tb, pe_op ho pa pb, fun H0 B Ls G S z σ H Q h hq => ?_⟩
  refine fa H0 B Ls G S z σ H _ h (hq.bind fun x z1 H1 _ x1 hz1 hq1 v hv => ?_)
  refine fb H0 B Ls G S z1 σ H1 _ (h.grow x1 hz1) (hq1.bind fun y z2 H2 _ x2 hz2 hq2 w hw => ?_)
  cases e : o x y with
  | none => rw [e] at hq2; exact hq2.elim
  | some u =>
    rw [e] at hq2
    exact sp H2 v w x y u Q (hv.mono x2.hid) hw e fun v' H' G' s ow nd fr => Ct.fin ((h.grow x1 hz1).grow x2 hz2) hq2 s ow nd fr
theorem fe_cmp {op : CmpOp} {r : R2} {o : Val → Val → Option Val} {a b : Expr} {ma mb : ME} (ho : OpR X (compareOp op) r) (sp : Op2 X st r o) (ha : RE X W st a ma) (hb : RE X W st b mb) (hm : behindInMarks op b = false := by first | exact nomark _ | rfl) : FE X W st (.Compare a [op] [b] pos) (eBin o ma mb) := by
  obtain ⟨ta, pa, fa⟩ := ha
  obtain ⟨tb, pb, fb⟩ := hb
  refine ⟨tOp r ta tb, pe_cmpR ho pa pb hm, fun H0 B Ls G S z σ H Q h hq => ?_⟩
  refine fa H0 B Ls G S z σ H _ h (hq.bind fun x z1 H1 _ x1 hz1 hq1 v hv => ?_)
  refine fb H0 B Ls G S z1 σ H1 _ (h.grow x1 hz1) (hq1.bind fun y z2 H2 _ x2 hz2 hq2 w hw => ?_)
  cases e : o x y with
  | none => rw [e] at hq2; exact hq2.elim
  | some u =>
    rw [e] at hq2
    exact sp H2 v w x y u Q (hv.mono x2.hid) hw e fun v' H' G' s ow nd fr => Ct.fin ((h.grow x1 hz1).grow x2 hz2) hq2 s ow nd fr
/-- a value's truth, where it is a bool -/
@[simp] def asB (x : Val) (z : Zs) : Rs Bool := match x with
  | .im (.bl b) => .ok b z
  | _ => .no
@[simp] def tCp (o : Val → Val → Option Val) (ma mb : ME) : MT := fun S z => ((ma S z).bind fun x z => (mb S z).bind fun y z => lft (o x y) z).bind asB
theorem rt_cmp {op : CmpOp} {r : R2} {o : Val → Val → Option Val} {a b : Expr} {ma mb : ME} (ho : OpR X (compareOp op) r) (sp : Op2 X st r o) (ha : RE X W st a ma) (hb : RE X W st b mb) (hm : behindInMarks op b = false := by first | exact nomark _ | rfl) : RT X W st (.Compare a [op] [b] pos) (tCp o ma mb) := by
  obtain ⟨ta, pa, fa⟩ := ha
  obtain ⟨tb, pb, fb⟩ := hb
  refine ⟨tTest (tOp r ta tb), pt_cmpR ho pa pb hm, fun H0 B Ls G S z σ H Q h hq => ?_⟩
  unfold tCp at hq
  replace hq : Ct X W st σ H ((ma S z).bind fun x z => ((mb S z).bind fun y z => lft (o x y) z).bind asB) (fun x z' H' => Q x H') := by
    cases e : ma S z <;> rw [e] at hq <;> exact hq
  refine fa H0 B Ls G S z σ H _ h (hq.bind fun x z1 H1 _ x1 hz1 hq1 v hv => ?_)
  replace hq1 : Ct X W st σ H1 ((mb S z1).bind fun y z => (lft (o x y) z).bind asB) (fun x z' H' => Q x H') := by
    cases e : mb S z1 <;> rw [e] at hq1 <;> exact hq1
  refine fb H0 B Ls G S z1 σ H1 _ (h.grow x1 hz1) (hq1.bind fun y z2 H2 _ x2 hz2 hq2 w hw => ?_)
  cases e : o x y with
  | none => rw [e] at hq2; exact hq2.elim
  | some u =>
    rw [e] at hq2
    refine sp H2 v w x y u _ (hv.mono x2.hid) hw e fun v' H' G' s ow nd fr => ?_
    cases ow with
    | im r =>
      cases r with
      | bl k => exact ⟨k, rfl, Ct.okX (k := fun x z' H' => Q x H') hq2 (.of_same s) (hz2.new s)⟩
      | _ => exact hq2.elim
    | _ => exact hq2.elim

/-! ### the operations -/
@[simp] def oII (f : Int → Int → T) (c : Int → Int → Bool) (x y : Val) : Option Val := match x, y with
  | .im (.int i), .im (.int j) => if c i j then some (.im (f i j)) else none
  | _, _ => none
theorem oII_some {f : Int → Int → T} {c : Int → Int → Bool} {x y u : Val} (h : oII f c x y = some u) : ∃ i j, x = .im (.int i) ∧ y = .im (.int j) ∧ c i j = true ∧ u = .im (f i j) := by
  unfold oII at h
  split at h
  · split at h
    · rename_i i j hc; cases h; exact ⟨i, j, rfl, rfl, hc, rfl⟩
    · cases h
  · cases h
theorem bor_int {K : PySem.W.Frag} {H : Hp} {v : V} {i : Int} (h : Bor K H v (.im (.int i))) : v = .int i := by
  cases h with | im h => cases h; rfl
theorem bor_str {K : PySem.W.Frag} {H : Hp} {v : V} {i : Str} (h : Bor K H v (.im (.str i))) : v = .str i ∧ sOk i = true := by
  cases h with | im h => cases h with | str _ h => exact ⟨rfl, h⟩
theorem bor_bl {K : PySem.W.Frag} {H : Hp} {v : V} {i : Bool} (h : Bor K H v (.im (.bl i))) : v = .bl i := by
  cases h with | im h => cases h; rfl
theorem op2_I {f : Int → Int → Int} {c : Int → Int → Bool} {C : Int → Int → Prop} (hc : ∀ i j, c i j = true → C i j) : Op2 X st (rI C fun i j => .int (f i j)) (oII (fun i j => .int (f i j)) c) := by
  intro H va vb xa xb y Q ha hb e q
  obtain ⟨i, j, rfl, rfl, hcc, rfl⟩ := oII_some e
  exact ⟨i, j, bor_int ha, bor_int hb, hc i j hcc, q _ H [] (Same.refl H) (.im (.int _)) List.nodup_nil (fun _ z => by cases z)⟩
theorem op2_I0 {f : Int → Int → Int} : Op2 X st (rI0 fun i j => .int (f i j)) (oII (fun i j => .int (f i j)) fun _ _ => true) := by
  intro H va vb xa xb y Q ha hb e q
  obtain ⟨i, j, rfl, rfl, hcc, rfl⟩ := oII_some e
  exact ⟨i, j, bor_int ha, bor_int hb, q _ H [] (Same.refl H) (.im (.int _)) List.nodup_nil (fun _ z => by cases z)⟩
theorem op2_B0 {f : Int → Int → Bool} : Op2 X st (rI0 fun i j => .bl (f i j)) (oII (fun i j => .bl (f i j)) fun _ _ => true) := by
  intro H va vb xa xb y Q ha hb e q
  obtain ⟨i, j, rfl, rfl, hcc, rfl⟩ := oII_some e
  exact ⟨i, j, bor_int ha, bor_int hb, q _ H [] (Same.refl H) (.im (.bl _)) List.nodup_nil (fun _ z => by cases z)⟩

/-! ### + of ints, texts, tuples, lists -/
theorem strOk_append {x y : Str} (hx : PyData.strOk x = true) (hy : PyData.strOk y = true) : PyData.strOk (x ++ y) = true := by
  unfold PyData.strOk at *
  show (x.cps ++ y.cps).all _ = true
  rw [Array.all_append, hx, hy]; rfl
theorem sOk_append {x y : Str} (hx : sOk x = true) (hy : sOk y = true) (hl : x.length + y.length ≤ sizeLine) : sOk (x ++ y) = true := by
  unfold sOk at *
  rw [Bool.and_eq_true] at *
  refine ⟨strOk_append hx.1 hy.1, decide_eq_true ?_⟩
  have : (x ++ y).length = x.length + y.length := by
    show (x.cps ++ y.cps).size = _
    rw [Array.size_append]; rfl
  omega
@[simp] def oAdd (x y : Val) : Option Val := match x, y with
  | .im (.int i), .im (.int j) => some (.im (.int (i + j)))
  | .im (.str i), .im (.str j) => if i.length + j.length ≤ sizeLine then some (.im (.str (i ++ j))) else none
  | .im (.tup i), .im (.tup j) => if i.length + j.length ≤ sizeLine then some (.im (.tup (i ++ j))) else none
  | .il i, .il j => if i.length + j.length ≤ sizeLine then some (.il (i ++ j)) else none
  | _, _ => none
abbrev rAddAll (K : PySem.W.Frag) : R2 := fun x y H Q => rI0 (fun i j => V.int (i + j)) x y H Q ∨ (∃ i j, x = .str i ∧ y = .str j ∧ i.length + j.length ≤ sizeLine ∧ Q (.str (i ++ j)) H) ∨ rCatA K x y H Q ∨ rCat x y H Q
theorem op_addAll : OpR X (binaryOp .Add) (rAddAll X.K) := op_add.or (op_add_str.or (op_catA.or op_cat))
theorem not_hid {st : Option Addr} {H : Hp} {a : Addr} {o : HO} (e : hid st H a = some o) : H a = some o := hid_same st H _ _ e
theorem rep_hid {K : PySem.W.Frag} {st : Option Addr} {H : Hp} {vs : List V} {ts : List T} (h : RepTs K (hid st H) vs ts) : RepTs K H vs ts := h.mono (Le.of_same (hid_same st H))
theorem repT_hid {K : PySem.W.Frag} {st : Option Addr} {H : Hp} {v : V} {t : T} (h : RepT K (hid st H) v t) : RepT K H v t := h.mono (Le.of_same (hid_same st H))
theorem sqt_hid {K : PySem.W.Frag} {st : Option Addr} {H : Hp} {a : Addr} {xs : List V} (h : SqT K (hid st H) a xs) : SqT K H a xs := (Le.of_same (hid_same st H)).sqt h
theorem op2_add : Op2 X st (rAddAll X.K) oAdd := by
  intro H va vb xa xb y Q ha hb e q
  unfold oAdd at e
  split at e
  · cases e
    exact .inl ⟨_, _, bor_int ha, bor_int hb, q _ H [] (Same.refl H) (.im (.int _)) List.nodup_nil (fun _ z => by cases z)⟩
  · rename_i i j
    split at e
    · rename_i hl
      cases e
      obtain ⟨rfl, oa⟩ := bor_str ha
      obtain ⟨rfl, ob⟩ := bor_str hb
      exact .inr (.inl ⟨_, _, rfl, rfl, hl, q _ H [] (Same.refl H) (.im (.str _ (sOk_append oa ob hl))) List.nodup_nil (fun _ z => by cases z)⟩)
    · cases e
  · rename_i i j
    split at e
    · rename_i hl
      cases e
      cases ha with
      | im ha =>
        cases ha with
        | @tup a xs _ sa ra =>
          cases hb with
          | im hb =>
            cases hb with
            | @tup b ys _ sb rb =>
              have key : ∀ p, H p = none → Q (.ref p) (upd H p (.tup (xs ++ ys))) := fun p np =>
                q _ _ [] (Same.upd_new np) (.im (.tup (.inl (.inl upd_same)) ((rep_hid (ra.append rb)).mono (Le.of_same (Same.upd_new np))))) List.nodup_nil (fun _ z => by cases z)
              refine .inr (.inr (.inl ⟨a, b, xs, ys, rfl, rfl, sqt_hid sa, sqt_hid sb, by rw [ra.length, rb.length]; exact hl, fun z => ?_, fun _ z => ?_, fun _ _ => key⟩))
              · subst z
                cases ra
                exact q _ H [] (Same.refl H) (.im (by rw [List.nil_append]; exact .tup (sqt_hid sb) (rep_hid rb))) List.nodup_nil (fun _ z => by cases z)
              · subst z
                cases rb
                exact q _ H [] (Same.refl H) (.im (by rw [List.append_nil]; exact .tup (sqt_hid sa) (rep_hid ra))) List.nodup_nil (fun _ z => by cases z)
    · cases e
  · rename_i i j
    split at e
    · rename_i hl
      cases e
      cases ha with
      | @il a xs _ sa ra =>
        cases hb with
        | @il b ys _ sb rb =>
          refine .inr (.inr (.inr ⟨a, b, xs, ys, rfl, rfl, not_hid sa, not_hid sb, by rw [ra.length, rb.length]; exact hl, fun p np => ?_⟩))
          exact q _ _ [p] (Same.upd_new np) (.il upd_same ((rep_hid (ra.append rb)).mono (Le.of_same (Same.upd_new np)))) (by simp) (fun a ha => by simp at ha; subst ha; exact np)
    · cases e
  · cases e
@[simp] def eAdd := eBin oAdd
theorem fe_add {a b : Expr} {ma mb : ME} (ha : RE X W st a ma) (hb : RE X W st b mb) : FE X W st (.BinOp a .Add b pos) (eAdd ma mb) := fe_op op_addAll op2_add ha hb
@[simp] def eSub := eBin (oII (fun i j => .int (i - j)) fun _ _ => true)
theorem fe_sub {a b : Expr} {ma mb : ME} (ha : RE X W st a ma) (hb : RE X W st b mb) : FE X W st (.BinOp a .Sub b pos) (eSub ma mb) := fe_op op_sub op2_I0 ha hb
def cMul (i j : Int) : Bool := (decide (-(2 ^ 64) < i) && decide (i < 2 ^ 64)) || (decide (-(2 ^ 64) < j) && decide (j < 2 ^ 64))
@[simp] def eMul := eBin (oII (fun i j => .int (i * j)) cMul)
theorem fe_mul {a b : Expr} {ma mb : ME} (ha : RE X W st a ma) (hb : RE X W st b mb) : FE X W st (.BinOp a .Mult b pos) (eMul ma mb) := fe_op op_mul (op2_I fun i j h => by
  unfold cMul at h
  simp only [Bool.or_eq_true, Bool.and_eq_true, decide_eq_true_eq] at h
  exact h) ha hb
def cDiv (_ j : Int) : Bool := decide (0 < j) && decide (j.natAbs.log2 < 9000)
@[simp] def eFdiv := eBin (oII (fun i j => .int (i / j)) cDiv)
@[simp] def eMod := eBin (oII (fun i j => .int (i % j)) fun _ j => decide (0 < j))
theorem fe_fdiv {a b : Expr} {ma mb : ME} (ha : RE X W st a ma) (hb : RE X W st b mb) : FE X W st (.BinOp a .FloorDiv b pos) (eFdiv ma mb) := fe_op op_fdivW (op2_I fun i j h => by
  unfold cDiv at h
  simp only [Bool.and_eq_true, decide_eq_true_eq] at h
  exact h) ha hb
theorem fe_mod {a b : Expr} {ma mb : ME} (ha : RE X W st a ma) (hb : RE X W st b mb) : FE X W st (.BinOp a .Mod b pos) (eMod ma mb) := fe_op op_mod (op2_I fun i j h => of_decide_eq_true h) ha hb
@[simp] def eLt := eBin (oII (fun i j => .bl (decide (i < j))) fun _ _ => true)
end
end MM

/-! MD: ==, in, places, slices, types, lengths. -/
namespace MM
open PySem PySem.Spec PyProof.Rows L2

mutual
def T.py : T → PyData
  | .non => .none
  | .bl b => .bool b
  | .int i => .int i
  | .str x => .str x
  | .tup ts => .tuple (T.pys ts)
  | .ls ts => .list (T.pys ts)
def T.pys : List T → List PyData
  | [] => []
  | t :: ts => t.py :: T.pys ts
end
theorem pys_map : ∀ ts : List T, T.pys ts = ts.map T.py
  | [] => rfl
  | t :: ts => by rw [T.pys, pys_map ts]; rfl
def T.eqv (a b : T) : Bool := PyData.eqv a.py b.py
def T.dep (a : T) : Nat := a.py.depth
def depS (ts : List T) : Nat := PyData.depthAll (T.pys ts)

mutual
theorem RepT.dp {K : PySem.W.Frag} {H : Hp} : ∀ {t : T} {v : V}, RepT K H v t → Dp K H v t.py ∧ t.py.canLay0 = true
  | .non, _, h => by cases h; exact ⟨by rw [T.py]; exact .non, by rw [T.py]; rfl⟩
  | .bl b, _, h => by cases h; exact ⟨by rw [T.py]; exact .bl b, by rw [T.py]; rfl⟩
  | .int i, _, h => by cases h; exact ⟨by rw [T.py]; exact .int i, by rw [T.py]; rfl⟩
  | .str x, _, h => by
    cases h with
    | str _ h =>
      unfold sOk at h
      exact ⟨by rw [T.py]; exact .str x, by rw [T.py]; simp only [PyData.canLay0]; exact (Bool.and_eq_true_iff.mp h).1⟩
  | .tup ts, _, h => by
    cases h with
    | tup h1 h2 =>
      obtain ⟨g1, g2⟩ := RepTs.dp h2
      exact ⟨by rw [T.py]; exact .tup h1 g1, by rw [T.py]; simp only [PyData.canLay0]; exact g2⟩
  | .ls ts, _, h => by
    cases h with
    | @ls a o xs _ h1 h2 =>
      obtain ⟨g1, g2⟩ := RepTs.dp h2
      exact ⟨by rw [T.py]; exact .lst (.inl (.inr ⟨o, h1⟩)) g1, by rw [T.py]; simp only [PyData.canLay0]; exact g2⟩
theorem RepTs.dp {K : PySem.W.Frag} {H : Hp} : ∀ {ts : List T} {vs : List V}, RepTs K H vs ts → DpAll K H vs (T.pys ts) ∧ PyData.canLayAll0 (T.pys ts) = true
  | [], _, h => by cases h; exact ⟨by rw [T.pys]; exact .nil, by rw [T.pys]; rfl⟩
  | t :: ts, _, h => by
    cases h with
    | cons h1 h2 =>
      obtain ⟨g1, g2⟩ := RepT.dp h1
      obtain ⟨g3, g4⟩ := RepTs.dp h2
      exact ⟨by rw [T.pys]; exact .cons g1 g3, by rw [T.pys]; simp only [PyData.canLayAll0]; rw [g2, g4]; rfl⟩
end
/-- data that == can compare: no dicts; tuples and lists of such things -/
def Val.flat : Val → Option (PyData)
  | .im t => some t.py
  | .il ts => some (.list (T.pys ts))
  | .tup vs => (flats vs).map .tuple
  | .lst vs => (flats vs).map .list
  | _ => none
where flats : List Val → Option (List PyData)
  | [] => some []
  | v :: vs => match v.flat, flats vs with
    | some a, some b => some (a :: b)
    | _, _ => none
theorem bor_dp {K : PySem.W.Frag} {H : Hp} {v : V} {x : Val} (h : Bor K H v x) : ∀ d, x.flat = some d → Dp K H v d ∧ d.canLay0 = true := by
  have all : ∀ (xs : List V) (vs : List Val) (ds : List PyData), xs.length = vs.length → (∀ (i : Nat) v x, xs[i]? = some v → vs[i]? = some x → ∀ d, x.flat = some d → Dp K H v d ∧ d.canLay0 = true) → Val.flat.flats vs = some ds → DpAll K H xs ds ∧ PyData.canLayAll0 ds = true := by
    intro xs vs
    induction vs generalizing xs with
    | nil =>
      intro ds hl _ e
      have : xs = [] := List.length_eq_zero_iff.mp hl
      subst this
      simp only [Val.flat.flats] at e
      cases e
      exact ⟨.nil, rfl⟩
    | cons y vs ih =>
      intro ds hl hi e
      cases xs with
      | nil => cases hl
      | cons w xs =>
        unfold Val.flat.flats at e
        split at e
        · rename_i a b ea eb
          cases e
          obtain ⟨h1, h2⟩ := hi 0 w y rfl rfl a ea
          obtain ⟨h3, h4⟩ := ih xs b (by simpa using hl) (fun i v x e1 e2 => hi (i + 1) v x (by simpa using e1) (by simpa using e2)) eb
          exact ⟨.cons h1 h3, by simp only [PyData.canLayAll0]; rw [h2, h4]; rfl⟩
        · cases e
  induction h with
  | im h => intro d e; simp only [Val.flat] at e; cases e; exact h.dp
  | il h g =>
    intro d e
    simp only [Val.flat] at e
    cases e
    obtain ⟨g1, g2⟩ := g.dp
    exact ⟨.lst (.of h) g1, by simp only [PyData.canLay0]; exact g2⟩
  | dk h g => intro d e; simp [Val.flat] at e
  | dt h g => intro d e; simp [Val.flat] at e
  | @tup a xs vs h hl g ih =>
    intro d e
    simp only [Val.flat] at e
    cases q : Val.flat.flats vs with
    | none => rw [q] at e; cases e
    | some ds =>
      rw [q] at e; cases e
      obtain ⟨h1, h2⟩ := all xs vs ds hl ih q
      exact ⟨.tup h h1, by simp only [PyData.canLay0]; exact h2⟩
  | @lst a xs vs h hl g ih =>
    intro d e
    simp only [Val.flat] at e
    cases q : Val.flat.flats vs with
    | none => rw [q] at e; cases e
    | some ds =>
      rw [q] at e; cases e
      obtain ⟨h1, h2⟩ := all xs vs ds hl ih q
      exact ⟨.lst (.of h) h1, by simp only [PyData.canLay0]; exact h2⟩
theorem bor_hid {K : PySem.W.Frag} {st : Option Addr} {H : Hp} {v : V} {x : Val} (h : Bor K (hid st H) v x) : Bor K H v x := h.mono (hid_same st H)

section
variable {X : Cx} {W : WX} {st : Option Addr} {pos : Pos}
/-- == of any data; one side is at most 64 deep -/
def rEqW (K : PySem.W.Frag) (n : Bool) : R2 := fun x y H Q => ∃ d e, Dp K H x d ∧ Dp K H y e ∧ d.canLay0 = true ∧ e.canLay0 = true ∧ min d.depth e.depth ≤ 64 ∧ Q (.bl (if n then !PyData.eqv d e else PyData.eqv d e)) H
theorem op_eqW (hu : X.A.units + 64 < cLine) : OpR X (compareOp .Eq) (rEqW X.K false) := by
  intro pins s σ H x y v u Q I rx ry h
  obtain ⟨d, e, hd, he, sd, se, hm, q⟩ := h
  obtain ⟨as, r1⟩ := Dp.reads I d x v hd rx
  obtain ⟨bs, r2⟩ := Dp.reads I e y u he ry
  exact SeqAt.compareEq_reads r1 r2 sd se (by omega) ⟨.bl _, H, I, rfl, q⟩
theorem op_neW (hu : X.A.units + 64 < cLine) : OpR X (compareOp .NotEq) (rEqW X.K true) := by
  intro pins s σ H x y v u Q I rx ry h
  obtain ⟨d, e, hd, he, sd, se, hm, q⟩ := h
  obtain ⟨as, r1⟩ := Dp.reads I d x v hd rx
  obtain ⟨bs, r2⟩ := Dp.reads I e y u he ry
  exact SeqAt.compareNe_reads r1 r2 sd se (by omega) ⟨.bl _, H, I, rfl, q⟩
def oEq (n : Bool) (x y : Val) : Option Val := match x.flat, y.flat with
  | some d, some e => if min d.depth e.depth ≤ 64 then some (.im (.bl (if n then !PyData.eqv d e else PyData.eqv d e))) else none
  | _, _ => none
theorem op2_eq {n : Bool} : Op2 X st (rEqW X.K n) (oEq n) := by
  intro H va vb xa xb y Q ha hb e q
  unfold oEq at e
  split at e
  · rename_i d d' e1 e2
    split at e
    · rename_i hl
      cases e
      obtain ⟨h1, h2⟩ := bor_dp (bor_hid ha) d e1
      obtain ⟨h3, h4⟩ := bor_dp (bor_hid hb) d' e2
      exact ⟨d, d', h1, h3, h2, h4, hl, q _ H [] (Same.refl H) (.im (.bl _)) List.nodup_nil (fun _ z => by cases z)⟩
    · cases e
  · cases e
@[simp] def eEq := eBin (oEq false)
@[simp] def eNe := eBin (oEq true)
theorem fe_eq {a b : Expr} {ma mb : ME} (hu : X.A.units + 64 < cLine) (ha : RE X W st a ma) (hb : RE X W st b mb) : FE X W st (.Compare a [.Eq] [b] pos) (eEq ma mb) := fe_cmp (op_eqW hu) op2_eq ha hb
theorem fe_ne {a b : Expr} {ma mb : ME} (hu : X.A.units + 64 < cLine) (ha : RE X W st a ma) (hb : RE X W st b mb) : FE X W st (.Compare a [.NotEq] [b] pos) (eNe ma mb) := fe_cmp (op_neW hu) op2_eq ha hb
@[simp] def tEq := tCp (oEq false)
@[simp] def tNe := tCp (oEq true)
theorem rt_eq {a b : Expr} {ma mb : ME} (hu : X.A.units + 64 < cLine) (ha : RE X W st a ma) (hb : RE X W st b mb) : RT X W st (.Compare a [.Eq] [b] pos) (tEq ma mb) := rt_cmp (op_eqW hu) op2_eq ha hb
theorem rt_ne {a b : Expr} {ma mb : ME} (hu : X.A.units + 64 < cLine) (ha : RE X W st a ma) (hb : RE X W st b mb) : RT X W st (.Compare a [.NotEq] [b] pos) (tNe ma mb) := rt_cmp (op_neW hu) op2_eq ha hb

/-! ### <, <=, >, >= of ints -/
/-- < of data that are alike place by place -/
def rLtD (K : PySem.W.Frag) : R2 := fun x y H Q => ∃ d e, Dp K H x d ∧ Dp K H y e ∧ PySem.W.alike d e = true ∧ d ≠ .none ∧ min d.depth e.depth ≤ 64 ∧ Q (.bl (PySem.W.dataLt d e)) H
theorem op_ltD (hu : X.A.units + 64 < cLine) : OpR X (compareOp .Lt) (rLtD X.K) := by
  intro pins s σ H x y v u Q I rx ry h
  obtain ⟨d, e, hd, he, al, nn, hm, q⟩ := h
  obtain ⟨as, r1⟩ := Dp.reads I d x v hd rx
  obtain ⟨bs, r2⟩ := Dp.reads I e y u he ry
  exact PySem.W.rcLt_alike d e X.A s v u as bs r1 r2 al nn (by omega) X.prog X.w _ _ ⟨.bl _, H, I, rfl, q⟩
def nnD : PyData → Bool
  | .none => false
  | _ => true
def oLt (x y : Val) : Option Val := match x.flat, y.flat with
  | some d, some e => if PySem.W.alike d e && nnD d && decide (min d.depth e.depth ≤ 64) then some (.im (.bl (PySem.W.dataLt d e))) else none
  | _, _ => none
theorem op2_ltD : Op2 X st (rLtD X.K) oLt := by
  intro H va vb xa xb y Q ha hb e q
  unfold oLt at e
  split at e
  · rename_i d d' e1 e2
    split at e
    · rename_i hl
      cases e
      simp only [Bool.and_eq_true, decide_eq_true_eq] at hl
      obtain ⟨h1, h2⟩ := bor_dp (bor_hid ha) d e1
      obtain ⟨h3, h4⟩ := bor_dp (bor_hid hb) d' e2
      exact ⟨d, d', h1, h3, hl.1.1, fun c => by rw [c] at hl; exact absurd hl.1.2 (by decide), hl.2, q _ H [] (Same.refl H) (.im (.bl _)) List.nodup_nil (fun _ z => by cases z)⟩
    · cases e
  · cases e
@[simp] theorem oLt_int (i j : Int) : oLt (.im (.int i)) (.im (.int j)) = some (.im (.bl (decide (i < j)))) := by
  simp [oLt, Val.flat, T.py, PySem.W.alike, nnD, PyData.depth, PySem.W.dataLt_int]
theorem oLt_str (i j : Str) : oLt (.im (.str i)) (.im (.str j)) = some (.im (.bl (decide (i.cps.toList < j.cps.toList)))) := by
  simp [oLt, Val.flat, T.py, PySem.W.alike, nnD, PyData.depth, PySem.W.dataLt_str]
abbrev oLe := oII (fun i j => .bl (decide (i ≤ j))) fun _ _ => true
abbrev oGt := oII (fun i j => .bl (decide (j < i))) fun _ _ => true
abbrev oGe := oII (fun i j => .bl (decide (j ≤ i))) fun _ _ => true
theorem fe_lt {a b : Expr} {ma mb : ME} (hu : X.A.units + 64 < cLine) (ha : RE X W st a ma) (hb : RE X W st b mb) : FE X W st (.Compare a [.Lt] [b] pos) (eBin oLt ma mb) := fe_cmp (op_ltD hu) op2_ltD ha hb
theorem fe_le {a b : Expr} {ma mb : ME} (ha : RE X W st a ma) (hb : RE X W st b mb) : FE X W st (.Compare a [.LtE] [b] pos) (eBin oLe ma mb) := fe_cmp op_le op2_B0 ha hb
theorem fe_gt {a b : Expr} {ma mb : ME} (ha : RE X W st a ma) (hb : RE X W st b mb) : FE X W st (.Compare a [.Gt] [b] pos) (eBin oGt ma mb) := fe_cmp op_gt op2_B0 ha hb
theorem fe_ge {a b : Expr} {ma mb : ME} (ha : RE X W st a ma) (hb : RE X W st b mb) : FE X W st (.Compare a [.GtE] [b] pos) (eBin oGe ma mb) := fe_cmp op_ge op2_B0 ha hb
theorem rt_lt {a b : Expr} {ma mb : ME} (hu : X.A.units + 64 < cLine) (ha : RE X W st a ma) (hb : RE X W st b mb) : RT X W st (.Compare a [.Lt] [b] pos) (tCp oLt ma mb) := rt_cmp (op_ltD hu) op2_ltD ha hb
theorem rt_le {a b : Expr} {ma mb : ME} (ha : RE X W st a ma) (hb : RE X W st b mb) : RT X W st (.Compare a [.LtE] [b] pos) (tCp oLe ma mb) := rt_cmp op_le op2_B0 ha hb
theorem rt_gt {a b : Expr} {ma mb : ME} (ha : RE X W st a ma) (hb : RE X W st b mb) : RT X W st (.Compare a [.Gt] [b] pos) (tCp oGt ma mb) := rt_cmp op_gt op2_B0 ha hb
theorem rt_ge {a b : Expr} {ma mb : ME} (ha : RE X W st a ma) (hb : RE X W st b mb) : RT X W st (.Compare a [.GtE] [b] pos) (tCp oGe ma mb) := rt_cmp op_ge op2_B0 ha hb

/-! ### is None, is True -/
@[simp] def oIsN (n : Bool) (x _y : Val) : Option Val := match x with
  | .im .non => some (.im (.bl (!n)))
  | _ => some (.im (.bl n))
theorem op2_isN : Op2 X st (fun x y H Q => y = .non ∧ Q (.bl (decide (x = .non))) H) (fun x y => match y with | .im .non => oIsN false x y | _ => none) := by
  intro H va vb xa xb y Q ha hb e q
  dsimp only at e
  split at e
  · cases hb with
    | im hb =>
      cases hb
      refine ⟨rfl, ?_⟩
      have fin : ∀ k, y = .im (.bl k) → Q (.bl k) H := fun k e => q _ H [] (Same.refl H) (by rw [e]; exact .im (.bl _)) List.nodup_nil (fun _ z => by cases z)
      cases ha with
      | im ha =>
        cases ha <;> (simp only [oIsN] at e; cases e; exact fin _ rfl)
      | _ => simp only [oIsN] at e; cases e; exact fin _ rfl
  · cases e
theorem op2_notN : Op2 X st (fun x y H Q => y = .non ∧ Q (.bl (!decide (x = .non))) H) (fun x y => match y with | .im .non => oIsN true x y | _ => none) := by
  intro H va vb xa xb y Q ha hb e q
  dsimp only at e
  split at e
  · cases hb with
    | im hb =>
      cases hb
      refine ⟨rfl, ?_⟩
      have fin : ∀ k, y = .im (.bl k) → Q (.bl k) H := fun k e => q _ H [] (Same.refl H) (by rw [e]; exact .im (.bl _)) List.nodup_nil (fun _ z => by cases z)
      cases ha with
      | im ha =>
        cases ha <;> (simp only [oIsN] at e; cases e; exact fin _ rfl)
      | _ => simp only [oIsN] at e; cases e; exact fin _ rfl
  · cases e
abbrev oIs : Val → Val → Option Val := fun x y => match y with | .im .non => oIsN false x y | _ => none
abbrev oIsnt : Val → Val → Option Val := fun x y => match y with | .im .non => oIsN true x y | _ => none
theorem fe_is {a b : Expr} {ma mb : ME} (ha : RE X W st a ma) (hb : RE X W st b mb) : FE X W st (.Compare a [.Is] [b] pos) (eBin oIs ma mb) := fe_cmp op_isN op2_isN ha hb
theorem rt_is {a b : Expr} {ma mb : ME} (ha : RE X W st a ma) (hb : RE X W st b mb) : RT X W st (.Compare a [.Is] [b] pos) (tCp oIs ma mb) := rt_cmp op_isN op2_isN ha hb
theorem fe_isnt {a b : Expr} {ma mb : ME} (ha : RE X W st a ma) (hb : RE X W st b mb) : FE X W st (.Compare a [.IsNot] [b] pos) (eBin oIsnt ma mb) := fe_cmp op_notN op2_notN ha hb
theorem rt_isnt {a b : Expr} {ma mb : ME} (ha : RE X W st a ma) (hb : RE X W st b mb) : RT X W st (.Compare a [.IsNot] [b] pos) (tCp oIsnt ma mb) := rt_cmp op_notN op2_notN ha hb

/-! ### in -/
def rInW (K : PySem.W.Frag) (n : Bool) : R2 := fun x y H Q => ∃ d ds, Dp K H x d ∧ (Dp K H y (.list ds) ∨ Dp K H y (.tuple ds)) ∧ d.canLay0 = true ∧ PyData.canLayAll0 ds = true ∧ min (PyData.depthAll ds) d.depth ≤ 64 ∧ Q (.bl (if n then !(ds.any fun z => PyData.eqv z d) else ds.any fun z => PyData.eqv z d)) H
theorem op_inW (hu : X.A.units + 65 < cLine) : OpR X (compareOp .In) (rInW X.K false) := by
  intro pins s σ H x y v u Q I rx ry h
  obtain ⟨d, ds, hd, he, sd, se, hm, q⟩ := h
  obtain ⟨as, r1⟩ := Dp.reads I d x v hd rx
  rcases he with he | he
  · obtain ⟨bs, r2⟩ := Dp.reads I _ y u he ry
    exact SeqAt.in_list_reads r2 r1 se sd (by omega) ⟨.bl _, H, I, rfl, q⟩
  · obtain ⟨bs, r2⟩ := Dp.reads I _ y u he ry
    exact SeqAt.in_tuple_reads r2 r1 se sd (by omega) ⟨.bl _, H, I, rfl, q⟩
theorem op_notInW (hu : X.A.units + 65 < cLine) : OpR X (compareOp .NotIn) (rInW X.K true) := by
  intro pins s σ H x y v u Q I rx ry h
  obtain ⟨d, ds, hd, he, sd, se, hm, q⟩ := h
  obtain ⟨as, r1⟩ := Dp.reads I d x v hd rx
  rcases he with he | he
  · obtain ⟨bs, r2⟩ := Dp.reads I _ y u he ry
    exact SeqAt.notIn_list_reads r2 r1 se sd (by omega) ⟨.bl _, H, I, rfl, q⟩
  · obtain ⟨bs, r2⟩ := Dp.reads I _ y u he ry
    exact SeqAt.notIn_tuple_reads r2 r1 se sd (by omega) ⟨.bl _, H, I, rfl, q⟩
end
end MM

/-! ME: in, places, slices, types, lengths, tests. -/
namespace MM
open PySem PySem.Spec PyProof.Rows L2

/-! ### keys -/
def kT : Key → T
  | .inl i => .int i
  | .inr x => .str x
def T.key? : T → Option Key
  | .int i => some (.inl i)
  | .str x => some (.inr x)
  | _ => none
def keys? : List T → Option (List Key)
  | [] => some []
  | t :: ts => match t.key?, keys? ts with
    | some k, some ks => some (k :: ks)
    | _, _ => none
theorem rep_key {K : PySem.W.Frag} {H : Hp} {v : V} {t : T} {k : Key} (h : RepT K H v t) (e : t.key? = some k) : v = kV k := by
  cases h <;> simp [T.key?] at e <;> subst e <;> rfl
theorem rep_keys {K : PySem.W.Frag} {H : Hp} : ∀ {ts : List T} {vs : List V} {ks : List Key}, RepTs K H vs ts → keys? ts = some ks → vs = ks.map kV
  | [], _, _, h, e => by cases h; cases e; rfl
  | t :: ts, _, _, h, e => by
    cases h with
    | cons h1 h2 =>
      unfold keys? at e
      split at e
      · rename_i k ks e1 e2
        cases e
        rw [rep_key h1 e1, rep_keys h2 e2]; rfl
      · cases e
/-- the value at a key -/
def look {κ : Type} [DecidableEq κ] (kvs : List (κ × T)) (k : κ) : Option T := (kvs.find? fun kv => decide (kv.1 = k)).map (·.2)
theorem repK_look {K : PySem.W.Frag} {H : Hp} {κ : Type} [DecidableEq κ] (k : κ) : ∀ {vs : List (κ × V)} {ts : List (κ × T)}, RepK K H vs ts → match look ts k with
    | some t => ∃ v, valV vs k = some v ∧ RepT K H v t
    | none => valV vs k = none := by
  intro vs ts h
  obtain ⟨h1, h2⟩ := h
  induction ts generalizing vs with
  | nil =>
    have : vs = [] := by cases vs; rfl; cases h1
    subst this
    rfl
  | cons p ts ih =>
    cases vs with
    | nil => cases h1
    | cons q vs =>
      simp only [List.map_cons] at h1 h2
      injection h1 with e1 e2
      cases h2 with
      | cons g1 g2 =>
        unfold look
        rw [List.find?_cons]
        by_cases c : p.1 = k
        · rw [decide_eq_true c]
          exact ⟨q.2, valV_pos (e1.trans c), g1⟩
        · rw [decide_eq_false c]
          have := ih e2 g2
          rw [valV_neg (fun z => c (e1.symm.trans z))]
          exact this

section
variable {X : Cx} {W : WX} {st : Option Addr} {pos : Pos}
/-- a tuple of ints and texts is a key -/
theorem key_ofW {pins : List (Addr × Obj)} {σ : L2.St} {H : Hp} {s : Shared} {b : Addr} {ks : List Key} (I : Inv X pins σ H s) (h : SqT X.K H b (ks.map kV)) : (tupleKind (mixKind X.prog X.w)).is s.heap ks b := by
  obtain ⟨its, r, ⟨o, h1, h2, n, h3⟩, _⟩ := I.tuple h
  exact ⟨o, its.toArray, n, h1, h2, h3, by simpa using items_are r⟩
/-- what a dict holds -/
def DG (K : PySem.W.Frag) (H : Hp) (a : Addr) (y : V) (r : Option V) : Prop :=
  (∃ kvs k, Rd H a (.dK kvs) ∧ y = kV k ∧ r = valV kvs k) ∨ ∃ kvs k b, Rd H a (.dT kvs) ∧ y = .ref b ∧ SqT K H b (k.map kV) ∧ r = valV kvs k
def rDIn (K : PySem.W.Frag) (n : Bool) : R2 := fun y x H Q => ∃ a o, x = .ref a ∧ DG K H a y o ∧ Q (.bl (if n then !o.isSome else o.isSome)) H
theorem op_inDict (hu : X.A.units + 1 < cLine) : OpR X (compareOp .In) (rDIn X.K false) := by
  intro pins s σ H y x u v Q I ry rx h
  obtain ⟨a, o, rfl, g, q⟩ := h
  cases rx
  rcases g with ⟨kvs, k, e, ey, l⟩ | ⟨kvs, k, b, e, ey, eb, l⟩
  · subst ey
    obtain ⟨z, hd, vs, rel, dd⟩ := dk_rd I.hok e
    refine wpAny_in_of (kV_is ry) hd dd.mapOf ?_
    rw [← (rel.val k).isSome_eq, ← l]
    exact ⟨.bl _, H, I.tok _, rfl, q⟩
  · subst ey
    cases (show u = Value.ref b from ry)
    obtain ⟨z, hd, xs, rel, dd⟩ := dt_rd I.hok e
    refine wpAny_in_heap (tupleKind_room_in1 hu) (key_ofW I eb) hd dd ?_
    have q' := (rel.val k).isSome_eq
    rw [Option.isSome_map] at q'
    rw [← q', ← l]
    exact ⟨.bl _, H, I.tok _, rfl, q⟩
theorem op_notInDict (hu : X.A.units + 1 < cLine) : OpR X (compareOp .NotIn) (rDIn X.K true) := by
  intro pins s σ H y x u v Q I ry rx h
  obtain ⟨a, o, rfl, g, q⟩ := h
  cases rx
  rcases g with ⟨kvs, k, e, ey, l⟩ | ⟨kvs, k, b, e, ey, eb, l⟩
  · subst ey
    obtain ⟨z, hd, vs, rel, dd⟩ := dk_rd I.hok e
    refine wpAny_notIn_of (kV_is ry) hd dd.mapOf ?_
    rw [← (rel.val k).isSome_eq, ← l]
    exact ⟨.bl _, H, I.tok _, rfl, q⟩
  · subst ey
    cases (show u = Value.ref b from ry)
    obtain ⟨z, hd, xs, rel, dd⟩ := dt_rd I.hok e
    refine wpAny_notIn_heap (tupleKind_room_in1 hu) (key_ofW I eb) hd dd ?_
    have q' := (rel.val k).isSome_eq
    rw [Option.isSome_map] at q'
    rw [← q', ← l]
    exact ⟨.bl _, H, I.tok _, rfl, q⟩
def rStrIn (n : Bool) : R2 := fun x y H Q => ∃ (c : Nat) (z : Str), x = .str ⟨#[c]⟩ ∧ y = .str z ∧ Q (.bl (if n then !decide (c ∈ z.cps.toList) else decide (c ∈ z.cps.toList))) H
abbrev rInAll (K : PySem.W.Frag) (n : Bool) : R2 := fun x y H Q => rInW K n x y H Q ∨ rDIn K n x y H Q ∨ rStrIn n x y H Q
theorem op_inAll (hu : X.A.units + 65 < cLine) : OpR X (compareOp .In) (rInAll X.K false) := (op_inW hu).or ((op_inDict (by omega)).or op_in_sign)
theorem op_notInAll (hu : X.A.units + 65 < cLine) : OpR X (compareOp .NotIn) (rInAll X.K true) := (op_notInW hu).or ((op_notInDict (by omega)).or op_notIn_sign)
@[simp] def oIn (n : Bool) (x y : Val) : Option Val := match y with
  | .im (.tup ts) => match x with
    | .im t => if min (depS ts) t.dep ≤ 64 then some (.im (.bl (if n then !(ts.any fun z => T.eqv z t) else ts.any fun z => T.eqv z t))) else none
    | _ => none
  | .il ts => match x with
    | .im t => if min (depS ts) t.dep ≤ 64 then some (.im (.bl (if n then !(ts.any fun z => T.eqv z t) else ts.any fun z => T.eqv z t))) else none
    | _ => none
  | .dk kvs => match x with
    | .im t => match t.key? with
      | some k => some (.im (.bl (if n then !(look kvs k).isSome else (look kvs k).isSome)))
      | none => none
    | _ => none
  | .dt kvs => match x with
    | .im (.tup ts) => match keys? ts with
      | some k => some (.im (.bl (if n then !(look kvs k).isSome else (look kvs k).isSome)))
      | none => none
    | _ => none
  | .im (.str z) => match x with
    | .im (.str c) => if c.length = 1 then some (.im (.bl (if n then !decide (c.cps.getD 0 0 ∈ z.cps.toList) else decide (c.cps.getD 0 0 ∈ z.cps.toList)))) else none
    | _ => none
  | _ => none
theorem any_pys (ts : List T) (t : T) : ((T.pys ts).any fun z => PyData.eqv z t.py) = ts.any fun z => T.eqv z t := by
  rw [pys_map, List.any_map]; rfl
theorem str_one {c : Str} (h : c.length = 1) : c = ⟨#[c.cps.getD 0 0]⟩ := by
  obtain ⟨cps⟩ := c
  have h' : cps.size = 1 := h
  obtain ⟨l⟩ := cps
  simp only [List.size_toArray] at h'
  match l, h' with
  | [a], _ => rfl
theorem sq_none {K : PySem.W.Frag} {H : Hp} {κ : Type} [DecidableEq κ] {vs : List (κ × V)} {ts : List (κ × T)} (k : κ) (h : RepK K H vs ts) : (valV vs k).isSome = (look ts k).isSome := by
  have := repK_look k h
  cases e : look ts k with
  | none => rw [e] at this; rw [this]; rfl
  | some t => rw [e] at this; obtain ⟨v, q, _⟩ := this; rw [q]; rfl
theorem rd_hid {st : Option Addr} {H : Hp} {a : Addr} {u : HO} (h : Rd (hid st H) a u) : Rd H a u := h.elim (fun q => .inl (not_hid q)) fun ⟨o, q⟩ => .inr ⟨o, not_hid q⟩
theorem op2_in {n : Bool} : Op2 X st (rInAll X.K n) (oIn n) := by
  intro H va vb xa xb y Q ha hb e q
  have fin : ∀ k, y = .im (.bl k) → Q (.bl k) H := fun k e => q _ H [] (Same.refl H) (by rw [e]; exact .im (.bl _)) List.nodup_nil (fun _ z => by cases z)
  unfold oIn at e
  split at e
  · rename_i ts
    split at e
    · rename_i t
      split at e
      · rename_i hm
        cases e
        have hb' := bor_hid hb
        have ha' := bor_hid ha
        cases ha' with
        | im ha' =>
          obtain ⟨d1, c1⟩ := ha'.dp
          obtain ⟨d2, c2⟩ := bor_dp hb' (.tuple (T.pys ts)) (by simp only [Val.flat, T.py])
          have c2' : PyData.canLayAll0 (T.pys ts) = true := by simpa only [PyData.canLay0] using c2
          exact .inl ⟨_, _, d1, .inr d2, c1, c2', hm, by rw [any_pys]; exact fin _ rfl⟩
      · cases e
    · cases e
  · rename_i ts
    split at e
    · rename_i t
      split at e
      · rename_i hm
        cases e
        have hb' := bor_hid hb
        have ha' := bor_hid ha
        cases ha' with
        | im ha' =>
          obtain ⟨d1, c1⟩ := ha'.dp
          obtain ⟨d2, c2⟩ := bor_dp hb' (.list (T.pys ts)) (by simp only [Val.flat])
          have c2' : PyData.canLayAll0 (T.pys ts) = true := by simpa only [PyData.canLay0] using c2
          exact .inl ⟨_, _, d1, .inl d2, c1, c2', hm, by rw [any_pys]; exact fin _ rfl⟩
      · cases e
    · cases e
  · rename_i kvs
    split at e
    · rename_i t
      split at e
      · rename_i k ek
        cases e
        cases ha with
        | im ha =>
          cases hb with
          | @dk b xs _ hb rb =>
            exact .inr (.inl ⟨b, _, rfl, .inl ⟨xs, k, rd_hid hb, rep_key ha ek, rfl⟩, by rw [sq_none k rb]; exact fin _ rfl⟩)
      · cases e
    · cases e
  · rename_i kvs
    split at e
    · rename_i ts
      split at e
      · rename_i k ek
        cases e
        cases ha with
        | im ha =>
          cases ha with
          | @tup b1 xs1 _ h1 h2 =>
            cases hb with
            | @dt b xs _ hb rb =>
              have ek' := rep_keys h2 ek
              subst ek'
              exact .inr (.inl ⟨b, _, rfl, .inr ⟨xs, k, b1, rd_hid hb, rfl, sqt_hid h1, rfl⟩, by rw [sq_none k rb]; exact fin _ rfl⟩)
      · cases e
    · cases e
  · rename_i z
    split at e
    · rename_i c
      split at e
      · rename_i hc
        cases e
        obtain ⟨rfl, _⟩ := bor_str ha
        obtain ⟨rfl, _⟩ := bor_str hb
        exact .inr (.inr ⟨c.cps.getD 0 0, z, by rw [← str_one hc], rfl, fin _ rfl⟩)
      · cases e
    · cases e
  · cases e
theorem fe_in {a b : Expr} {ma mb : ME} (hu : X.A.units + 65 < cLine) (ha : RE X W st a ma) (hb : RE X W st b mb) (hm : behindInMarks .In b = false := by rfl) : FE X W st (.Compare a [.In] [b] pos) (eBin (oIn false) ma mb) := fe_cmp (op_inAll hu) op2_in ha hb hm
theorem rt_in {a b : Expr} {ma mb : ME} (hu : X.A.units + 65 < cLine) (ha : RE X W st a ma) (hb : RE X W st b mb) (hm : behindInMarks .In b = false := by rfl) : RT X W st (.Compare a [.In] [b] pos) (tCp (oIn false) ma mb) := rt_cmp (op_inAll hu) op2_in ha hb hm
theorem fe_nin {a b : Expr} {ma mb : ME} (hu : X.A.units + 65 < cLine) (ha : RE X W st a ma) (hb : RE X W st b mb) (hm : behindInMarks .NotIn b = false := by rfl) : FE X W st (.Compare a [.NotIn] [b] pos) (eBin (oIn true) ma mb) := fe_cmp (op_notInAll hu) op2_in ha hb hm
theorem rt_nin {a b : Expr} {ma mb : ME} (hu : X.A.units + 65 < cLine) (ha : RE X W st a ma) (hb : RE X W st b mb) (hm : behindInMarks .NotIn b = false := by rfl) : RT X W st (.Compare a [.NotIn] [b] pos) (tCp (oIn true) ma mb) := rt_cmp (op_notInAll hu) op2_in ha hb hm

/-! ### a[b] -/
def rIxD (K : PySem.W.Frag) : R2 := fun x y H Q => ∃ a v, x = .ref a ∧ DG K H a y (some v) ∧ Q v H
theorem ix_dict (hu : X.A.units + 1 < cLine) : IxR X (rIxD X.K) := by
  intro value slice pins s σ H x y v u Q I rx ry h hs
  obtain ⟨a, z, rfl, g, q⟩ := h
  cases rx
  have hT : s.TypeIs (.ref a) "dict" := by
    rcases g with ⟨kvs, k, e, _, _⟩ | ⟨kvs, k, b, e, _, _, _⟩
    · obtain ⟨_, _, vs, _, dd⟩ := dk_rd I.hok e
      exact dd.typeIs
    · obtain ⟨_, _, xs, _, dd⟩ := dt_rd I.hok e
      exact dd.typeIs
  have go : wpAny (model X.prog X.w) X.A (getItem (.ref a) u) (EP X pins σ Q) X.xe s := by
    rcases g with ⟨kvs, k, e, ey, l⟩ | ⟨kvs, k, b, e, ey, eb, l⟩
    · subst ey
      obtain ⟨_, hd, vs, rel, dd⟩ := dk_rd I.hok e
      obtain ⟨w', hw, rw'⟩ := RelO.some_of (v := z) (o := valueAt vs k) (by rw [l]; exact rel.val k)
      exact wpAny_getItem_of (kV_is ry) dd.mapOf hw ⟨z, H, I.tok _, rw', q⟩
    · subst ey
      cases (show u = Value.ref b from ry)
      obtain ⟨_, hd, xs, rel, dd⟩ := dt_rd I.hok e
      obtain ⟨w', hw, rw'⟩ := RelO.some_of (v := z) (o := (atKey xs k).map (·.2)) (by rw [l]; exact rel.val k)
      obtain ⟨p, hp, hp2⟩ := Option.map_eq_some_iff.mp hw
      refine wpAny_getItem_heap (tupleKind_room_in1 hu) (key_ofW I eb) dd hp ?_
      rw [hp2]
      exact ⟨z, H, I.tok _, rw', q⟩
  unfold subscriptTail
  refine wpAny_bind ?_
  rw [getitemInPython_of_ne hT.not_modules]
  refine wpAny_bind (wpAny_specialOf hT PySem.F.slot_dict_getitem.lookup ?_)
  have fin : wpAny (model X.prog X.w) X.A (subscripted slice false (.ref a) u) (fun r s₃ => wpAny (model X.prog X.w) X.A (letTemporaryGo value (.ref a) r >>= fun _ => pure r) (EP X pins σ Q) X.xe s₃) X.xe s := by
    rw [hs]
    exact wpAny_operating (wpAny_mono go (fun r s₃ h₃ => wpAny_bind (wpAny_letTemporaryGo (wpAny_pure h₃))) fun _ _ x => x)
  first
    | exact wpAny_pure (wpAny_bind fin)
    | exact wpAny_bind (wpAny_pure (wpAny_bind fin))
    | exact wpAny_bind fin
abbrev rIxAll (K : PySem.W.Frag) : R2 := fun x y H Q => rIx K x y H Q ∨ rIxD K x y H Q
theorem ix_all (hu : X.A.units + 1 < cLine) : IxR X (rIxAll X.K) := ix_seq.or (ix_dict hu)
@[simp] def oIx (x y : Val) : Option Val := match x, y with
  | .im (.tup ts), .im (.int i) => (atI ts i).map .im
  | .im (.ls ts), .im (.int i) => (atI ts i).map .im
  | .il ts, .im (.int i) => (atI ts i).map .im
  | .tup vs, .im (.int i) => atI vs i
  | .lst vs, .im (.int i) => atI vs i
  | .im (.str z), .im (.int i) => (atI z.cps.toList i).map fun c => .im (.str ⟨#[c]⟩)
  | .dk kvs, .im t => match t.key? with
    | some k => (look kvs k).map .im
    | none => none
  | .dt kvs, .im (.tup ts) => match keys? ts with
    | some k => (look kvs k).map .im
    | none => none
  | _, _ => none
theorem atI_rep {K : PySem.W.Frag} {H : Hp} {vs : List V} {ts : List T} {i : Int} {t : T} (r : RepTs K H vs ts) (h : atI ts i = some t) : ∃ v, atI vs i = some v ∧ RepT K H v t := by
  unfold atI at h ⊢
  rw [r.length]
  cases e : ixN ts.length i with
  | none => rw [e] at h; cases h
  | some j =>
    rw [e] at h
    exact r.get h
theorem atI_bor {K : PySem.W.Frag} {H : Hp} {xs : List V} {vs : List Val} {i : Int} {x : Val} (hl : xs.length = vs.length) (g : ∀ (i : Nat) v x, xs[i]? = some v → vs[i]? = some x → Bor K H v x) (h : atI vs i = some x) : ∃ v, atI xs i = some v ∧ Bor K H v x := by
  unfold atI at h ⊢
  rw [hl]
  cases e : ixN vs.length i with
  | none => rw [e] at h; cases h
  | some j =>
    rw [e] at h
    have h' : vs[j]? = some x := h
    obtain ⟨hj, _⟩ := List.getElem?_eq_some_iff.mp h'
    refine ⟨xs[j], List.getElem?_eq_getElem (by omega), g j _ x (List.getElem?_eq_getElem (by omega)) h'⟩
theorem strOk_mem {z : Str} {c : Nat} (h : PyData.strOk z = true) (hc : c ∈ z.cps.toList) : PyData.strOk ⟨#[c]⟩ = true := by
  unfold PyData.strOk at *
  have := (Array.all_eq_true_iff_forall_mem.mp h) c (by simpa using hc)
  simpa using this
theorem ixR {H : Hp} {va vb : V} {xa xb u : Val} {Q : VK} (ha : Bor X.K (hid st H) va xa) (hb : Bor X.K (hid st H) vb xb) (e : oIx xa xb = some u) (q : ∀ v, Bor X.K (hid st H) v u → Q v H) : rIxAll X.K va vb H Q := by
  unfold oIx at e
  split at e
  · rename_i ts i
    cases e1 : atI ts i with
    | none => rw [e1] at e; cases e
    | some t =>
      rw [e1] at e; cases e
      cases ha with
      | im ha =>
        cases ha with
        | @tup a xs _ h1 h2 =>
          have := bor_int hb
          subst this
          obtain ⟨v', g1, g2⟩ := atI_rep h2 e1
          exact .inl (.inr (.inl ⟨a, xs, i, v', rfl, rfl, sqt_hid h1, g1, q v' (.im g2)⟩))
  · rename_i ts i
    cases e1 : atI ts i with
    | none => rw [e1] at e; cases e
    | some t =>
      rw [e1] at e; cases e
      cases ha with
      | im ha =>
        cases ha with
        | @ls a o xs _ h1 h2 =>
          have := bor_int hb
          subst this
          obtain ⟨v', g1, g2⟩ := atI_rep h2 e1
          exact .inl (.inl ⟨a, xs, i, v', rfl, rfl, .inl (.inr ⟨o, not_hid h1⟩), g1, q v' (.im g2)⟩)
  · rename_i ts i
    cases e1 : atI ts i with
    | none => rw [e1] at e; cases e
    | some t =>
      rw [e1] at e; cases e
      cases ha with
      | @il a xs _ h1 h2 =>
        have := bor_int hb
        subst this
        obtain ⟨v', g1, g2⟩ := atI_rep h2 e1
        exact .inl (.inl ⟨a, xs, i, v', rfl, rfl, .of (not_hid h1), g1, q v' (.im g2)⟩)
  · rename_i vs i
    cases ha with
    | @tup a xs _ h1 hl g =>
      have := bor_int hb
      subst this
      obtain ⟨v', g1, g2⟩ := atI_bor hl g e
      exact .inl (.inr (.inl ⟨a, xs, i, v', rfl, rfl, sqt_hid h1, g1, q v' g2⟩))
  · rename_i vs i
    cases ha with
    | @lst a xs _ h1 hl g =>
      have := bor_int hb
      subst this
      obtain ⟨v', g1, g2⟩ := atI_bor hl g e
      exact .inl (.inl ⟨a, xs, i, v', rfl, rfl, .of (not_hid h1), g1, q v' g2⟩)
  · rename_i zz i
    cases e1 : atI zz.cps.toList i with
    | none => rw [e1] at e; cases e
    | some c =>
      rw [e1] at e; cases e
      obtain ⟨rfl, ok⟩ := bor_str ha
      have := bor_int hb
      subst this
      unfold sOk at ok
      simp only [Bool.and_eq_true, decide_eq_true_eq] at ok
      obtain ⟨j, _, hj, _⟩ := atI_get e1
      refine .inl (.inr (.inr ⟨zz, i, c, rfl, rfl, ok.2, e1, q _ (.im (.str _ ?_))⟩))
      unfold sOk
      rw [strOk_mem ok.1 (List.mem_of_getElem? hj)]
      show decide (1 ≤ sizeLine) = true
      decide
  · rename_i kvs t
    split at e
    · rename_i k ek
      cases e1 : look kvs k with
      | none => rw [e1] at e; cases e
      | some t =>
        rw [e1] at e; cases e
        cases hb with
        | im hb =>
          cases ha with
          | @dk b xs _ hd rb =>
            have := repK_look k rb
            rw [e1] at this
            obtain ⟨v', g1, g2⟩ := this
            exact .inr ⟨b, v', rfl, .inl ⟨xs, k, rd_hid hd, rep_key hb ek, g1.symm⟩, q v' (.im g2)⟩
    · cases e
  · rename_i kvs ts
    split at e
    · rename_i k ek
      cases e1 : look kvs k with
      | none => rw [e1] at e; cases e
      | some t =>
        rw [e1] at e; cases e
        cases hb with
        | im hb =>
          cases hb with
          | @tup b1 xs1 _ h1 h2 =>
            cases ha with
            | @dt b xs _ hd rb =>
              have := repK_look k rb
              rw [e1] at this
              obtain ⟨v', g1, g2⟩ := this
              have ek' := rep_keys h2 ek
              subst ek'
              exact .inr ⟨b, v', rfl, .inr ⟨xs, k, b1, rd_hid hd, rfl, sqt_hid h1, g1.symm⟩, q v' (.im g2)⟩
    · cases e
  · cases e
@[simp] def eIx := eBin oIx
theorem re_ix {a b : Expr} {ma mb : ME} (hu : X.A.units + 1 < cLine) (ha : RE X W st a ma) (hb : RE X W st b mb) (hs : PlainIx b := by exact fun _ _ => rfl) : RE X W st (.Subscript a b pos) (eIx ma mb) := by
  obtain ⟨ta, pa, fa⟩ := ha
  obtain ⟨tb, pb, fb⟩ := hb
  refine ⟨tOp _ ta tb, pe_ix (ix_all hu) pa pb hs, fun H0 B Ls G S z σ H Q h hq => ?_⟩
  refine fa H0 B Ls G S z σ H _ h (hq.bind fun x z1 H1 _ x1 hz1 hq1 v hv => ?_)
  refine fb H0 B Ls G S z1 σ H1 _ (h.grow x1 hz1) (hq1.bind fun y z2 H2 _ x2 hz2 hq2 w hw => ?_)
  cases e : oIx x y with
  | none => rw [e] at hq2; exact hq2.elim
  | some u =>
    rw [e] at hq2
    exact ixR (hv.mono x2.hid) hw e (Ct.ok hq2 hz2)
end
end MM

/-! MF: slices, built-in functions, tests, calls of the text's own defs. -/
namespace MM
open PySem PySem.Spec PyProof.Rows L2
section
variable {X : Cx} {W : WX} {st : Option Addr} {pos : Pos}

/-! ### a built-in's call -/
def Fn (X : Cx) (st : Option Addr) (r : List V → Hp → VK → Prop) (o : List Val → Option Val) : Prop := ∀ (H : Hp) (vs : List V) (xs : List Val) (y : Val) (Q : VK), BorS X.K (hid st H) vs xs → o xs = some y →
  (∀ v H' G', Same H H' → Own X.K H' v y G' → G'.Nodup → (∀ a ∈ G', H a = none) → Q v H') → r vs H Q
@[simp] def eFn (o : List Val → Option Val) (ms : MAs) : ME := fun S z => (ms S z).bind fun xs z => lft (o xs) z
theorem fe_callB {x : Str} {p : Pos} {e : Expr} {es : List Expr} {ms : MAs} {id : String} {r : List V → Hp → VK → Prop} {o : List Val → Option Val} (hc : CallR X (.builtin id) r) (sp : Fn X st r o) (hg : Gl X x) (hm : X.mg x = none) (hv : bootBuiltins x = some (.builtin id)) (ha : RA X W st (e :: es) ms)
    (hn : x ≠ "__name__" := by decide) (hdb : (x == ("__debug__" : Str)) = false := by decide)
    (he : starEach (e :: es) X.env = (false, eval e X.env) :: starEach es X.env := by rfl) (hpl : (backTo pos (starEach es X.env)).any (·.1) = false := by rfl) : FE X W st (.Call (.Name x p) (e :: es) [] pos) (eFn o ms) := by
  obtain ⟨t, pa, f⟩ := ha
  refine ⟨tCB r t, pe_callB hc hg hm hv pa hn hdb he hpl, fun H0 B Ls G S z σ H Q h hq => ?_⟩
  refine f H0 B Ls G S z σ H _ h (hq.bind fun xs z1 H1 _ x1 hz1 hq1 vs hvs => ?_)
  cases e1 : o xs with
  | none => rw [e1] at hq1; exact hq1.elim
  | some u =>
    rw [e1] at hq1
    exact sp H1 vs xs u Q hvs e1 fun v' H' G' s ow nd fr => Ct.fin (h.grow x1 hz1) hq1 s ow nd fr
theorem fe_callTy {x : Str} {p : Pos} {e : Expr} {es : List Expr} {ms : MAs} {id : String} {r : List V → Hp → VK → Prop} {o : List Val → Option Val} (hc : CallR X (.type id) r) (sp : Fn X st r o) (hg : Gl X x) (hm : X.mg x = none) (hv : bootBuiltins x = some (.type id)) (ha : RA X W st (e :: es) ms)
    (hn : x ≠ "__name__" := by decide) (hdb : (x == ("__debug__" : Str)) = false := by decide)
    (he : starEach (e :: es) X.env = (false, eval e X.env) :: starEach es X.env := by rfl) (hpl : (backTo pos (starEach es X.env)).any (·.1) = false := by rfl) : FE X W st (.Call (.Name x p) (e :: es) [] pos) (eFn o ms) := by
  obtain ⟨t, pa, f⟩ := ha
  refine ⟨tCB r t, pe_callTy hc hg hm hv pa hn hdb he hpl, fun H0 B Ls G S z σ H Q h hq => ?_⟩
  refine f H0 B Ls G S z σ H _ h (hq.bind fun xs z1 H1 _ x1 hz1 hq1 vs hvs => ?_)
  cases e1 : o xs with
  | none => rw [e1] at hq1; exact hq1.elim
  | some u =>
    rw [e1] at hq1
    exact sp H1 vs xs u Q hvs e1 fun v' H' G' s ow nd fr => Ct.fin (h.grow x1 hz1) hq1 s ow nd fr
theorem BorS.one {K : PySem.W.Frag} {H : Hp} {vs : List V} {x : Val} (h : BorS K H vs [x]) : ∃ v, vs = [v] ∧ Bor K H v x := by
  cases h with | cons h t => cases t; exact ⟨_, rfl, h⟩
theorem BorS.two {K : PySem.W.Frag} {H : Hp} {vs : List V} {x y : Val} (h : BorS K H vs [x, y]) : ∃ v w, vs = [v, w] ∧ Bor K H v x ∧ Bor K H w y := by
  cases h with | cons h t => cases t with | cons g t => cases t; exact ⟨_, _, rfl, h, g⟩
/-- int(n), int(flag) -/
@[simp] def oInt : List Val → Option Val
  | [.im (.int i)] => some (.im (.int i))
  | [.im (.bl b)] => some (.im (.int (if b then 1 else 0)))
  | _ => none
theorem fn_int : Fn X st (fun xs H Q => (∃ i, xs = [.int i] ∧ Q (.int i) H) ∨ ∃ k, xs = [.bl k] ∧ Q (.int (if k then 1 else 0)) H) oInt := by
  intro H vs xs y Q hv e q
  unfold oInt at e
  split at e
  · cases e
    obtain ⟨v, rfl, h⟩ := hv.one
    have := bor_int h
    subst this
    exact .inl ⟨_, rfl, q _ H [] (Same.refl H) (.im (.int _)) List.nodup_nil (fun _ z => by cases z)⟩
  · cases e
    obtain ⟨v, rfl, h⟩ := hv.one
    have := bor_bl h
    subst this
    exact .inr ⟨_, rfl, q _ H [] (Same.refl H) (.im (.int _)) List.nodup_nil (fun _ z => by cases z)⟩
  · cases e
@[simp] def oAbs : List Val → Option Val
  | [.im (.int i)] => some (.im (.int (if i < 0 then -i else i)))
  | _ => none
theorem fn_abs : Fn X st (fun xs H Q => ∃ i, xs = [.int i] ∧ Q (.int (if i < 0 then -i else i)) H) oAbs := by
  intro H vs xs y Q hv e q
  unfold oAbs at e
  split at e
  · cases e
    obtain ⟨v, rfl, h⟩ := hv.one
    have := bor_int h
    subst this
    exact ⟨_, rfl, q _ H [] (Same.refl H) (.im (.int _)) List.nodup_nil (fun _ z => by cases z)⟩
  · cases e
@[simp] def oMax : List Val → Option Val
  | [.im (.int i), .im (.int j)] => some (.im (.int (if j > i then j else i)))
  | _ => none
@[simp] def oMin : List Val → Option Val
  | [.im (.int i), .im (.int j)] => some (.im (.int (if j < i then j else i)))
  | _ => none
theorem fn_max : Fn X st (fun xs H Q => ∃ i j, xs = [.int i, .int j] ∧ Q (.int (if j > i then j else i)) H) oMax := by
  intro H vs xs y Q hv e q
  unfold oMax at e
  split at e
  · cases e
    obtain ⟨v, w, rfl, h, g⟩ := hv.two
    have := bor_int h
    have := bor_int g
    subst_vars
    exact ⟨_, _, rfl, q _ H [] (Same.refl H) (.im (.int _)) List.nodup_nil (fun _ z => by cases z)⟩
  · cases e
theorem fn_min : Fn X st (fun xs H Q => ∃ i j, xs = [.int i, .int j] ∧ Q (.int (if j < i then j else i)) H) oMin := by
  intro H vs xs y Q hv e q
  unfold oMin at e
  split at e
  · cases e
    obtain ⟨v, w, rfl, h, g⟩ := hv.two
    have := bor_int h
    have := bor_int g
    subst_vars
    exact ⟨_, _, rfl, q _ H [] (Same.refl H) (.im (.int _)) List.nodup_nil (fun _ z => by cases z)⟩
  · cases e
/-- len -/
@[simp] def oLen : List Val → Option Val
  | [.im (.ls ts)] => some (.im (.int ts.length))
  | [.im (.tup ts)] => some (.im (.int ts.length))
  | [.il ts] => some (.im (.int ts.length))
  | [.im (.str x)] => some (.im (.int x.length))
  | [.tup vs] => some (.im (.int vs.length))
  | [.lst vs] => some (.im (.int vs.length))
  | [.dk kvs] => some (.im (.int kvs.length))
  | _ => none
theorem call_len_dict : CallR X (.builtin "len") (fun xs H Q => ∃ p kvs, xs = [.ref p] ∧ Rd H p (.dK kvs) ∧ Q (.int kvs.length) H) := by
  intro pins s σ H xs us Q I r h
  obtain ⟨p, kvs, rfl, hd, q⟩ := h
  obtain ⟨u, rfl, ru⟩ := Vals.one r
  obtain rfl : u = Value.ref p := ru
  exact d_len I hd fun t s' I' => ⟨.int _, H, I', ⟨t, rfl⟩, q⟩
abbrev rLenAll (K : PySem.W.Frag) : List V → Hp → VK → Prop := fun xs H Q => (∃ p ys, xs = [.ref p] ∧ (SqL K H p ys ∨ SqT K H p ys) ∧ Q (.int ys.length) H) ∨ (∃ z, xs = [.str z] ∧ z.length ≤ sizeLine ∧ Q (.int z.length) H) ∨ ∃ p kvs, xs = [.ref p] ∧ Rd H p (.dK kvs) ∧ Q (.int kvs.length) H
theorem call_lenAll : CallR X (.builtin "len") (rLenAll X.K) := call_len_seq.or (call_len_str.or call_len_dict)
theorem fn_len : Fn X st (rLenAll X.K) oLen := by
  intro H vs xs y Q hv e q
  have fin : ∀ n : Nat, y = .im (.int n) → Q (.int n) H := fun n e => q _ H [] (Same.refl H) (by rw [e]; exact .im (.int _)) List.nodup_nil (fun _ z => by cases z)
  unfold oLen at e
  split at e
  · cases e
    obtain ⟨v, rfl, h⟩ := hv.one
    cases h with | im h => cases h with | @ls a o xs _ h1 h2 => exact .inl ⟨_, _, rfl, .inl (.inl (.inr ⟨o, not_hid h1⟩)), by rw [h2.length]; exact fin _ rfl⟩
  · cases e
    obtain ⟨v, rfl, h⟩ := hv.one
    cases h with | im h => cases h with | tup h1 h2 => exact .inl ⟨_, _, rfl, .inr (sqt_hid h1), by rw [h2.length]; exact fin _ rfl⟩
  · cases e
    obtain ⟨v, rfl, h⟩ := hv.one
    cases h with | il h1 h2 => exact .inl ⟨_, _, rfl, .inl (.of (not_hid h1)), by rw [h2.length]; exact fin _ rfl⟩
  · cases e
    obtain ⟨v, rfl, h⟩ := hv.one
    obtain ⟨rfl, ok⟩ := bor_str h
    unfold sOk at ok
    simp only [Bool.and_eq_true, decide_eq_true_eq] at ok
    exact .inr (.inl ⟨_, rfl, ok.2, fin _ rfl⟩)
  · cases e
    obtain ⟨v, rfl, h⟩ := hv.one
    cases h with | tup h1 hl g => exact .inl ⟨_, _, rfl, .inr (sqt_hid h1), by rw [hl]; exact fin _ rfl⟩
  · cases e
    obtain ⟨v, rfl, h⟩ := hv.one
    cases h with | lst h1 hl g => exact .inl ⟨_, _, rfl, .inl (.of (not_hid h1)), by rw [hl]; exact fin _ rfl⟩
  · cases e
    obtain ⟨v, rfl, h⟩ := hv.one
    cases h with
    | dk h1 h2 =>
      have := congrArg List.length h2.1
      rw [List.length_map, List.length_map] at this
      exact .inr (.inr ⟨_, _, rfl, rd_hid h1, by rw [this]; exact fin _ rfl⟩)
  · cases e
/-- tuple(xs), list(xs) -/
@[simp] def oTuple : List Val → Option Val
  | [.im (.tup ts)] => some (.im (.tup ts))
  | [.il ts] => some (.im (.tup ts))
  | _ => none
theorem fn_tuple : Fn X st (fun xs H Q => ∃ p ys, xs = [.ref p] ∧ ((SqL X.K H p ys ∧ ∀ l, H l = none → Q (.ref l) (upd H l (.tup ys))) ∨ (SqT X.K H p ys ∧ Q (.ref p) H))) oTuple := by
  intro H vs xs y Q hv e q
  unfold oTuple at e
  split at e
  · cases e
    obtain ⟨v, rfl, h⟩ := hv.one
    cases h with | im h => cases h with | tup h1 h2 => exact ⟨_, _, rfl, .inr ⟨sqt_hid h1, q _ H [] (Same.refl H) (.im (.tup (sqt_hid h1) (rep_hid h2))) List.nodup_nil (fun _ z => by cases z)⟩⟩
  · cases e
    obtain ⟨v, rfl, h⟩ := hv.one
    cases h with
    | il h1 h2 => exact ⟨_, _, rfl, .inl ⟨.of (not_hid h1), fun l nl => q _ _ [] (Same.upd_new nl) (.im (.tup (.inl (.inl upd_same)) ((rep_hid h2).mono (Le.of_same (Same.upd_new nl))))) List.nodup_nil (fun _ z => by cases z)⟩⟩
  · cases e
@[simp] def oList : List Val → Option Val
  | [.im (.tup ts)] => some (.il ts)
  | [.il ts] => some (.il ts)
  | _ => none
theorem fn_list : Fn X st (fun xs H Q => ∃ p ys, xs = [.ref p] ∧ (SqL X.K H p ys ∨ SqT X.K H p ys) ∧ ∀ l, H l = none → Q (.ref l) (upd H l (.lst ys))) oList := by
  intro H vs xs y Q hv e q
  unfold oList at e
  split at e
  · cases e
    obtain ⟨v, rfl, h⟩ := hv.one
    cases h with
    | im h => cases h with | tup h1 h2 => exact ⟨_, _, rfl, .inr (sqt_hid h1), fun l nl => q _ _ [l] (Same.upd_new nl) (.il upd_same ((rep_hid h2).mono (Le.of_same (Same.upd_new nl)))) (by simp) (fun a ha => by simp at ha; subst ha; exact nl)⟩
  · cases e
    obtain ⟨v, rfl, h⟩ := hv.one
    cases h with
    | il h1 h2 => exact ⟨_, _, rfl, .inl (.of (not_hid h1)), fun l nl => q _ _ [l] (Same.upd_new nl) (.il upd_same ((rep_hid h2).mono (Le.of_same (Same.upd_new nl)))) (by simp) (fun a ha => by simp at ha; subst ha; exact nl)⟩
  · cases e
@[simp] def eInt := eFn oInt
@[simp] def eAbs := eFn oAbs
@[simp] def eMax := eFn oMax
@[simp] def eMin := eFn oMin
@[simp] def eLen := eFn oLen
@[simp] def eTuple := eFn oTuple
@[simp] def eList := eFn oList
section
variable {p : Pos} {e : Expr} {es : List Expr} {ms : MAs}
theorem fe_len (hg : Gl X "len") (hm : X.mg "len" = none) (ha : RA X W st [e] ms) (he : starEach [e] X.env = (false, eval e X.env) :: starEach [] X.env := by rfl) : FE X W st (.Call (.Name "len" p) [e] [] pos) (eLen ms) := fe_callB call_lenAll fn_len hg hm PySem.boot_len ha (he := he)
theorem fe_int (hg : Gl X "int") (hm : X.mg "int" = none) (ha : RA X W st [e] ms) (he : starEach [e] X.env = (false, eval e X.env) :: starEach [] X.env := by rfl) : FE X W st (.Call (.Name "int" p) [e] [] pos) (eInt ms) := fe_callTy call_int1 fn_int hg hm (by decide +kernel) ha (he := he)
theorem fe_abs (hg : Gl X "abs") (hm : X.mg "abs" = none) (ha : RA X W st [e] ms) (he : starEach [e] X.env = (false, eval e X.env) :: starEach [] X.env := by rfl) : FE X W st (.Call (.Name "abs" p) [e] [] pos) (eAbs ms) := fe_callB call_abs fn_abs hg hm (by decide +kernel) ha (he := he)
theorem fe_tuple (hg : Gl X "tuple") (hm : X.mg "tuple" = none) (ha : RA X W st [e] ms) (he : starEach [e] X.env = (false, eval e X.env) :: starEach [] X.env := by rfl) : FE X W st (.Call (.Name "tuple" p) [e] [] pos) (eTuple ms) := fe_callTy call_tuple_of fn_tuple hg hm (by decide +kernel) ha (he := he)
theorem fe_list (hg : Gl X "list") (hm : X.mg "list" = none) (ha : RA X W st [e] ms) (he : starEach [e] X.env = (false, eval e X.env) :: starEach [] X.env := by rfl) : FE X W st (.Call (.Name "list" p) [e] [] pos) (eList ms) := fe_callTy call_list_of fn_list hg hm (by decide +kernel) ha (he := he)
theorem fe_max {e2 : Expr} (hc : X.calm = true) (hg : Gl X "max") (hm : X.mg "max" = none) (ha : RA X W st [e, e2] ms) (he : starEach [e, e2] X.env = (false, eval e X.env) :: starEach [e2] X.env := by rfl) (hpl : (backTo pos (starEach [e2] X.env)).any (·.1) = false := by rfl) : FE X W st (.Call (.Name "max" p) [e, e2] [] pos) (eMax ms) := fe_callB (call_max2 hc) fn_max hg hm (by decide +kernel) ha (he := he) (hpl := hpl)
theorem fe_min {e2 : Expr} (hc : X.calm = true) (hg : Gl X "min") (hm : X.mg "min" = none) (ha : RA X W st [e, e2] ms) (he : starEach [e, e2] X.env = (false, eval e X.env) :: starEach [e2] X.env := by rfl) (hpl : (backTo pos (starEach [e2] X.env)).any (·.1) = false := by rfl) : FE X W st (.Call (.Name "min" p) [e, e2] [] pos) (eMin ms) := fe_callB (call_min2 hc) fn_min hg hm (by decide +kernel) ha (he := he) (hpl := hpl)
end

/-! ### isinstance -/
inductive Ty where
  | int | bool | str | tuple | list | dict
def Ty.nm : Ty → String
  | .int => "int" | .bool => "bool" | .str => "str" | .tuple => "tuple" | .list => "list" | .dict => "dict"
@[simp] def isi (c : Ty) (x : Val) : Bool := match c, x with
  | .int, .im (.int _) => true
  | .int, .im (.bl _) => true
  | .bool, .im (.bl _) => true
  | .str, .im (.str _) => true
  | .tuple, .im (.tup _) => true
  | .tuple, .tup _ => true
  | .list, .il _ => true
  | .list, .im (.ls _) => true
  | .list, .lst _ => true
  | .dict, .dk _ => true
  | .dict, .dt _ => true
  | _, _ => false
def tyN : Val → String
  | .im .non => "NoneType" | .im (.bl _) => "bool" | .im (.int _) => "int" | .im (.str _) => "str" | .im (.tup _) => "tuple" | .im (.ls _) => "list"
  | .il _ => "list" | .lst _ => "list" | .tup _ => "tuple" | .dk _ => "dict" | .dt _ => "dict"
theorem kit_facts : ∀ c : Ty, kitB "NoneType" c.nm = some false ∧ kitB "bool" c.nm = some (match c with | .int | .bool => true | _ => false) ∧ kitB "int" c.nm = some (match c with | .int => true | _ => false) ∧
    kitB "str" c.nm = some (match c with | .str => true | _ => false) ∧ kitB "tuple" c.nm = some (match c with | .tuple => true | _ => false) ∧ kitB "list" c.nm = some (match c with | .list => true | _ => false) ∧ kitB "dict" c.nm = some (match c with | .dict => true | _ => false) := by
  intro c
  cases c <;> decide +kernel
theorem isi_kit (c : Ty) (x : Val) : kitB (tyN x) c.nm = some (isi c x) := by
  obtain ⟨h0, h1, h2, h3, h4, h5, h6⟩ := kit_facts c
  cases x with
  | im t => cases t <;> (unfold tyN; first | (rw [h0]; cases c <;> rfl) | (rw [h1]; cases c <;> rfl) | (rw [h2]; cases c <;> rfl) | (rw [h3]; cases c <;> rfl) | (rw [h4]; cases c <;> rfl) | (rw [h5]; cases c <;> rfl))
  | il ts => unfold tyN; rw [h5]; cases c <;> rfl
  | lst ts => unfold tyN; rw [h5]; cases c <;> rfl
  | tup ts => unfold tyN; rw [h4]; cases c <;> rfl
  | dk ts => unfold tyN; rw [h6]; cases c <;> rfl
  | dt ts => unfold tyN; rw [h6]; cases c <;> rfl
theorem sqt_ty {K : PySem.W.Frag} {H : Hp} {a : Addr} {xs : List V} (h : SqT K H a xs) : TyX K H (.ref a) (.type "tuple") := by
  rcases h with (h | ⟨o, h⟩) | ⟨o, its, n, h, hc, _⟩
  · exact .base (.tup h)
  · exact .fTuple h
  · exact .kTuple h hc
theorem bor_ty {K : PySem.W.Frag} {H : Hp} {v : V} {x : Val} (h : Bor K H v x) (ne : ∀ ts, x ≠ .dt ts) : TyX K H v (.type (tyN x)) := by
  cases h with
  | im h =>
    cases h with
    | non => exact (.base .non)
    | bl b => exact (.base (.bl b))
    | int i => exact (.base (.int i))
    | str x _ => exact (.base (.str x))
    | tup h1 _ => exact (sqt_ty h1)
    | ls h1 _ => exact (.base (.frz h1))
  | il h _ => exact (.base (.lst h))
  | lst h _ _ => exact (.base (.lst h))
  | tup h _ _ => exact (sqt_ty h)
  | dk h _ =>
    rcases h with h | ⟨o, h⟩
    · exact (.base (.dK h))
    · exact (.fDict h)
  | dt h _ => exact absurd rfl (ne _)
@[simp] def eIsi (c : Ty) (m : ME) : ME := fun S z => (m S z).bind fun x z => match x with
  | .dt _ => .no
  | x => .ok (.im (.bl (isi c x))) z
theorem fe_isi (c : Ty) {x : Str} {p q : Pos} {e : Expr} {m : ME} (hg : Gl X "isinstance") (hm : X.mg "isinstance" = none) (hg2 : Gl X x) (hm2 : X.mg x = none) (hv2 : bootBuiltins x = some (.type c.nm)) (ha : RE X W st e m) (hn : x ≠ "__name__" := by decide) (hd : (x == ("__debug__" : Str)) = false := by decide)
    (he : starEach [e, .Name x q] X.env = (false, eval e X.env) :: starEach [.Name x q] X.env := by rfl) (hpl : (backTo pos (starEach [.Name x q] X.env)).any (·.1) = false := by rfl) (he2 : starEach [Expr.Name x q] X.env = (false, eval (.Name x q) X.env) :: starEach [] X.env := by rfl) : FE X W st (.Call (.Name "isinstance" p) [e, .Name x q] [] pos) (eIsi c m) := by
  obtain ⟨t, pa, f⟩ := ha
  refine ⟨tCB (rIsi X.K) (tCons t (tCons (tC (.ty c.nm)) tNil)), pe_callB call_isi hg hm (by decide +kernel) (pa_cons pa (pa_cons (pe_bltn hg2 hm2 hv2 rfl hn hd) pa_nil he2) he) (he := he) (hpl := hpl), fun H0 B Ls G S z σ H Q h hq => ?_⟩
  refine f H0 B Ls G S z σ H _ h (hq.bind fun y z1 H1 _ x1 hz1 hq1 v hv => ?_)
  have go : (∀ ts, y ≠ .dt ts) → Ct X W st σ H1 (.ok (.im (.bl (isi c y))) z1) (fun x z' H' => ∀ (v : V) (G' : List Addr), Own X.K H' v x G' → Stt X.K st H0 B Ls (G' ++ G) S z' σ H' → Q v H') → rIsi X.K [v, .ty c.nm] H1 Q := fun ne hq1 => by
    refine ⟨v, .ty c.nm, .type (tyN y), .type c.nm, isi c y, rfl, ?_, ?_, kit_ty (isi_kit c y), ?_⟩
    · first | exact .ty _ | exact ClsV.ty | constructor
    · exact bor_ty (bor_hid hv) ne
    · exact hq1.ok hz1 _ [] (.im (.bl _)) (h.grow x1 hz1)
  cases y with
  | dt ts => exact hq1.elim
  | im u => exact go (fun _ z => nomatch z) hq1
  | il u => exact go (fun _ z => nomatch z) hq1
  | dk u => exact go (fun _ z => nomatch z) hq1
  | tup u => exact go (fun _ z => nomatch z) hq1
  | lst u => exact go (fun _ z => nomatch z) hq1

/-! ### slices -/
abbrev MPo := List Sv → Zs → Rs (Option Int)
def RPo (X : Cx) (W : WX) (st : Option Addr) (e : Option Expr) (m : MPo) : Prop := ∃ t, PO X e t ∧ ∀ H0 B Ls G S z σ H Q, Stt X.K st H0 B Ls G S z σ H →
  Ct X W st σ H (m S z) (fun x z' H' => Q x H') → t σ H Q
@[simp] def pNone : MPo := fun _ z => .ok none z
@[simp] def asI (x : Val) (z : Zs) : Rs (Option Int) := match x with
  | .im (.int i) => .ok (some i) z
  | _ => .no
@[simp] def pSome (m : ME) : MPo := fun S z => (m S z).bind asI
theorem rpo_none : RPo X W st none pNone := ⟨tNoPart, po_none, fun H0 B Ls G S z σ H Q h hq => hq.ok h.zr⟩
theorem rpo_some {e : Expr} {m : ME} (he : RE X W st e m) : RPo X W st (some e) (pSome m) := by
  obtain ⟨t, p, f⟩ := he
  refine ⟨tPart t, po_some p, fun H0 B Ls G S z σ H Q h hq => ?_⟩
  refine f H0 B Ls G S z σ H _ h (hq.bind fun x z1 H1 _ x1 hz1 hq1 v hv => ?_)
  unfold asI at hq1
  split at hq1
  · have := bor_int hv
    subst this
    exact ⟨_, rfl, Ct.ok (k := fun x z' H' => Q x H') hq1 hz1⟩
  · exact hq1.elim

/-- the whole of a tuple is the tuple itself -/
def rSlTw (K : PySem.W.Frag) : V → Option Int → Option Int → Hp → VK → Prop := fun x lo hi H Q => ∃ a xs, x = .ref a ∧ SqT K H a xs ∧ (HT.sIx xs.length 0 lo = 0 ∧ HT.sIx xs.length xs.length hi = xs.length) ∧ Q (.ref a) H
theorem whole_tup {prog : Program} {w : World} {A : Around} {E : Value → Shared → Prop} {s : Shared} {t sl : Addr} {items : Array Value} {vl vu : Value} {lo hi : Option Int} {Q : Value → Shared → Prop} (ht : IsTup s.heap t items) (hs : s.heap.IsSliceOf sl vl vu .none) (pl : IsPart vl lo) (pu : IsPart vu hi)
    (hw : HT.sIx items.size 0 lo = 0 ∧ HT.sIx items.size items.size hi = items.size) (h : Q (.ref t) s) : wpAny (model prog w) A (getItem (.ref t) (.ref sl)) Q E s := by
  obtain ⟨os, hos, hcs, hds⟩ := id hs
  have hTs : s.TypeIs (.ref sl) "slice" := ⟨os, hos, hcs⟩
  unfold getItem
  try with_reducible refine wpAny_holding ?_
  first | refine wpAny_bind (wpAny_pure ?_) | skip
  refine wpAny_bind (wpAny_sequenceKey ht.typeIs (by decide) ?_)
  refine wpAny_bind (wpAny_callSpecial?_slot (name := Str.ofString "__getitem__") ht.typeIs PyProof.Rows.slot_tuple_getitem
    (wpAny_call_entry PyProof.Rows.slot_tuple_getitem ht.typeIs entry_tuple_getitem ?_ (args_tuple_getitem _ _)))
  show wpAny _ _ (Builtin.Tuple.tupleItemsOf (.ref t) >>= _) _ _ s
  refine wpAny_bind (tupleItemsOf_ ht ?_)
  refine wpAny_bind (wpAny_typeOf hTs ?_)
  rw [if_pos (by decide)]
  refine wpAny_bind (HT.sliceApplied_gen hs pl pu ?_)
  have yes : (((HT.sIx items.size 0 lo : Nat) : Int) == 0 && (1 : Int) == 1 && (HT.sIx items.size items.size hi - HT.sIx items.size 0 lo) == items.size) = true := by
    rw [hw.1, hw.2]
    simp
  show wpAny _ _ (if (((HT.sIx items.size 0 lo : Nat) : Int) == 0 && (1 : Int) == 1 && (HT.sIx items.size items.size hi - HT.sIx items.size 0 lo) == items.size) = true then _ else _) _ _ s
  rw [if_pos yes]
  have hx : wpAny (model prog w) A.in1 (Builtin.Tuple.tupleIsExact (.ref t)) (fun b s' => b = true ∧ s' = s) E s := by
    unfold Builtin.Tuple.tupleIsExact
    exact wpAny_bind (wpAny_typeOf ht.typeIs (wpAny_pure ⟨by decide, rfl⟩))
  refine wpAny_bind (thn hx fun b s' hb => ?_)
  obtain ⟨rfl, rfl⟩ := hb
  rw [if_pos rfl]
  exact wpAny_bind (wpAny_rule (wpAny_pure ⟨_, rfl, wpAny_pure h⟩))
theorem sl_tupw : SlR X (rSlTw X.K) := by
  intro pins s σ H x v vl vu lo hi sl Q I rx hs pl pu h
  obtain ⟨a, xs, rfl, hx, hw, q⟩ := h
  cases rx
  obtain ⟨its, r, ht, hz⟩ := I.tuple hx
  have hlen : its.toArray.size = xs.length := by rw [List.size_toArray]; exact r.length.symm
  refine ⟨"tuple", _, PyProof.Rows.slot_tuple_getitem.lookup, ht.typeIs, ?_⟩
  exact whole_tup ht hs pl pu (by rw [hlen]; exact hw) ⟨.ref a, H, I, rfl, q⟩
abbrev rSlAll (K : PySem.W.Frag) : V → Option Int → Option Int → Hp → VK → Prop := fun x lo hi H Q => rSlT K x lo hi H Q ∨ rSlTw K x lo hi H Q ∨ rSlL K x lo hi H Q ∨ rSlS x lo hi H Q
theorem sl_all : SlR X (rSlAll X.K) := sl_tup.or (sl_tupw.or (sl_list.or sl_str))
/-- the items of ts[lo:hi] -/
def cut {α : Type} (xs : List α) (lo hi : Option Int) : List α := (xs.drop (HT.sIx xs.length 0 lo)).take (HT.sIx xs.length xs.length hi - HT.sIx xs.length 0 lo)
@[simp] def oSl (x : Val) (lo hi : Option Int) : Option Val := match x with
  | .im (.tup ts) => some (.im (.tup (cut ts lo hi)))
  | .il ts => some (.il (cut ts lo hi))
  | .im (.str z) => some (.im (.str (cutS z lo hi)))
  | _ => none
theorem rep_cut {K : PySem.W.Frag} {H : Hp} {vs : List V} {ts : List T} (h : RepTs K H vs ts) (lo hi : Option Int) : RepTs K H (cutV vs lo hi) (cut ts lo hi) := by
  unfold cutV cut
  rw [h.length]
  exact (h.drop _).take _
theorem sOk_cut {z : Str} (h : sOk z = true) (lo hi : Option Int) : sOk (cutS z lo hi) = true := by
  unfold sOk at *
  simp only [Bool.and_eq_true, decide_eq_true_eq] at *
  refine ⟨?_, Nat.le_trans (cutS_length z lo hi) h.2⟩
  have h1 := h.1
  unfold PyData.strOk at *
  rw [Array.all_eq_true_iff_forall_mem] at *
  intro c hc
  refine h1 c ?_
  have : c ∈ ((z.cps.toList.drop (HT.sIx z.length 0 lo)).take (HT.sIx z.length z.length hi - HT.sIx z.length 0 lo)) := by
    have hc' := Array.mem_toList_iff.mpr hc
    exact hc'
  exact Array.mem_toList_iff.mp (List.mem_of_mem_drop (List.mem_of_mem_take this))
@[simp] def eSl (m : ME) (ml mh : MPo) : ME := fun S z => (m S z).bind fun x z => (ml S z).bind fun lo z => (mh S z).bind fun hi z => lft (oSl x lo hi) z
theorem fe_sl {e : Expr} {lo hi : Option Expr} {p2 : Pos} {m : ME} {ml mh : MPo} (he : RE X W st e m) (hl : RPo X W st lo ml) (hh : RPo X W st hi mh) : FE X W st (.Subscript e (.Slice lo hi none p2) pos) (eSl m ml mh) := by
  obtain ⟨t, p, f⟩ := he
  obtain ⟨tl, pl, fl⟩ := hl
  obtain ⟨th, ph, fh⟩ := hh
  refine ⟨tSl _ t tl th, pe_slice sl_all p pl ph, fun H0 B Ls G S z σ H Q h hq => ?_⟩
  refine f H0 B Ls G S z σ H _ h (hq.bind fun x z1 H1 _ x1 hz1 hq1 v hv => ?_)
  have h1 := h.grow x1 hz1
  refine fl H0 B Ls G S z1 σ H1 _ h1 (hq1.bind fun lo z2 H2 _ x2 hz2 hq2 => ?_)
  have h2 := h1.grow x2 hz2
  refine fh H0 B Ls G S z2 σ H2 _ h2 (hq2.bind fun hi z3 H3 _ x3 hz3 hq3 => ?_)
  have h3 := h2.grow x3 hz3
  have hv := (hv.mono x2.hid).mono x3.hid
  cases x with
  | im u =>
    cases u with
    | tup ts =>
      cases hv with
      | im hv =>
        cases hv with
        | @tup a xs _ s1 s2 =>
          by_cases c : HT.sIx xs.length 0 lo = 0 ∧ HT.sIx xs.length xs.length hi = xs.length
          · refine .inr (.inl ⟨a, xs, rfl, sqt_hid s1, c, ?_⟩)
            refine Ct.fin h3 hq3 (v := .ref a) (G' := []) (Same.refl H3) (.im ?_) List.nodup_nil (fun _ z => by cases z)
            have e : cut ts lo hi = ts := by
              unfold cut
              rw [← s2.length, c.1, c.2, List.drop_zero, Nat.sub_zero, s2.length, List.take_length]
            rw [e]
            exact .tup (sqt_hid s1) (rep_hid s2)
          · refine .inl ⟨a, xs, rfl, sqt_hid s1, c, fun p np => ?_⟩
            exact Ct.fin h3 hq3 (v := .ref p) (G' := []) (Same.upd_new np) (.im (.tup (.inl (.inl upd_same)) ((rep_hid (rep_cut s2 lo hi)).mono (Le.of_same (Same.upd_new np))))) List.nodup_nil (fun _ z => by cases z)
    | str zz =>
      obtain ⟨rfl, ok⟩ := bor_str hv
      have ok2 := ok
      unfold sOk at ok2
      simp only [Bool.and_eq_true, decide_eq_true_eq] at ok2
      exact .inr (.inr (.inr ⟨zz, rfl, ok2.2, Ct.fin h3 hq3 (G' := []) (Same.refl H3) (.im (.str _ (sOk_cut ok lo hi))) List.nodup_nil (fun _ z => by cases z)⟩))
    | _ => exact hq3.elim
  | il ts =>
    cases hv with
    | @il a xs _ s1 s2 =>
      refine .inr (.inr (.inl ⟨a, xs, rfl, .of (not_hid s1), fun p np => ?_⟩))
      exact Ct.fin h3 hq3 (v := .ref p) (G' := [p]) (Same.upd_new np) (.il upd_same ((rep_hid (rep_cut s2 lo hi)).mono (Le.of_same (Same.upd_new np)))) (by simp) (fun a ha => by simp at ha; subst ha; exact np)
  | _ => exact hq3.elim

/-! ### tests -/
@[simp] def tB' (m : ME) : MT := fun S z => (m S z).bind asB
theorem bor_asB {x : Val} {z z1 : Zs} {k : Bool} (h : asB x z = .ok k z1) : x = .im (.bl k) ∧ z1 = z := by
  unfold asB at h
  split at h
  · cases h; exact ⟨rfl, rfl⟩
  · cases h
/-- an expression whose value is a bool -/
theorem rt_val {e : Expr} {m : ME} (he : RE X W st e m) (hw : ∀ whole, isTrue e X.env whole = (do let v ← whole; standAt e.pos; holding [v] (truthy v)) := by intro _; rfl) : RT X W st e (tB' m) := by
  obtain ⟨t, p, f⟩ := he
  refine ⟨tB t, pt_val p hw, fun H0 B Ls G S z σ H Q h hq => ?_⟩
  refine f H0 B Ls G S z σ H _ h (hq.bind fun x z1 H1 _ x1 hz1 hq1 v hv => ?_)
  unfold asB at hq1
  split at hq1
  · exact ⟨_, bor_bl hv, Ct.ok (k := fun x z' H' => Q x H') hq1 hz1⟩
  · exact hq1.elim
/-- by its truth -/
@[simp] def tru (x : Val) (z : Zs) : Rs Bool := match x with
  | .im .non => .ok false z
  | .im (.bl b) => .ok b z
  | .im (.int i) => .ok (i != 0) z
  | .im (.str s) => .ok ((s.length : Int) != 0) z
  | .im (.tup ts) => .ok (!ts.isEmpty) z
  | .il ts => .ok (!ts.isEmpty) z
  | .lst ts => .ok (!ts.isEmpty) z
  | _ => .no
@[simp] def tTru (m : ME) : MT := fun S z => (m S z).bind tru
theorem isEmpty_len {α β : Type} : ∀ {xs : List α} {ys : List β}, xs.length = ys.length → xs.isEmpty = ys.isEmpty
  | [], [], _ => rfl
  | _ :: _, _ :: _, _ => rfl
theorem rt_tru {e : Expr} {m : ME} (he : RE X W st e m) (hw : ∀ whole, isTrue e X.env whole = (do let v ← whole; standAt e.pos; holding [v] (truthy v)) := by intro _; rfl) : RT X W st e (tTru m) := by
  obtain ⟨t, p, f⟩ := he
  refine ⟨_, pt_truth p hw, fun H0 B Ls G S z σ H Q h hq => ?_⟩
  refine f H0 B Ls G S z σ H _ h (hq.bind fun x z1 H1 _ x1 hz1 hq1 v hv => ?_)
  have hv := bor_hid hv
  unfold tru at hq1
  split at hq1
  · cases hv with | im hv => cases hv; exact ⟨_, rfl, Ct.ok (k := fun x z' H' => Q x H') hq1 hz1⟩
  · cases hv with | im hv => cases hv; exact ⟨_, rfl, Ct.ok (k := fun x z' H' => Q x H') hq1 hz1⟩
  · cases hv with | im hv => cases hv; exact ⟨_, rfl, Ct.ok (k := fun x z' H' => Q x H') hq1 hz1⟩
  · obtain ⟨rfl, ok⟩ := bor_str hv
    unfold sOk at ok
    simp only [Bool.and_eq_true, decide_eq_true_eq] at ok
    exact ⟨_, ⟨ok.2, rfl⟩, Ct.ok (k := fun x z' H' => Q x H') hq1 hz1⟩
  · cases hv with
    | im hv => cases hv with | @tup a xs _ h1 h2 => exact ⟨_, .inr (.inl ⟨xs, h1, by rw [isEmpty_len h2.length]⟩), Ct.ok (k := fun x z' H' => Q x H') hq1 hz1⟩
  · cases hv with
    | @il a xs _ h1 h2 => exact ⟨_, .inl ⟨xs, .of h1, by rw [isEmpty_len h2.length]⟩, Ct.ok (k := fun x z' H' => Q x H') hq1 hz1⟩
  · cases hv with
    | @lst a xs _ h1 hl h2 => exact ⟨_, .inl ⟨xs, .of h1, by rw [isEmpty_len hl]⟩, Ct.ok (k := fun x z' H' => Q x H') hq1 hz1⟩
  · exact hq1.elim
@[simp] def tNt (m : MT) : MT := fun S z => (m S z).bind fun b z => .ok (!b) z
theorem rt_not {e : Expr} {m : MT} (he : RT X W st e m) : RT X W st (.UnaryOp .Not e pos) (tNt m) := by
  obtain ⟨t, p, f⟩ := he
  refine ⟨tNot t, pt_not p, fun H0 B Ls G S z σ H Q h hq => ?_⟩
  exact f H0 B Ls G S z σ H _ h (hq.bind fun b z1 H1 _ x1 hz1 hq1 => Ct.ok (k := fun x z' H' => Q x H') hq1 hz1)
def RW (X : Cx) (W : WX) (st : Option Addr) (e : Expr) (m : MT) : Prop := ∃ t, PW X e t ∧ ∀ H0 B Ls G S z σ H Q, Stt X.K st H0 B Ls G S z σ H →
  Ct X W st σ H (m S z) (fun x z' H' => Q x H') → t σ H Q
theorem rt_rw {e : Expr} {m : MT} (h : RW X W st e m) : RT X W st e m := let ⟨t, p, f⟩ := h; ⟨t, p.pt, f⟩
@[simp] def tAn (a b : MT) : MT := fun S z => (a S z).bind fun c z => if c = true then b S z else .ok false z
@[simp] def tOr' (a b : MT) : MT := fun S z => (a S z).bind fun c z => if c = true then .ok true z else b S z
section
variable {a b : Expr} {ma mb : MT} {rest : List Expr}
theorem rw_and1 (ha : RT X W st a ma) : RW X W st (.BoolOp .And [a] pos) ma := let ⟨t, p, f⟩ := ha; ⟨t, pw_and1 p, f⟩
theorem rw_or1 (ha : RT X W st a ma) : RW X W st (.BoolOp .Or [a] pos) ma := let ⟨t, p, f⟩ := ha; ⟨t, pw_or1 p, f⟩
theorem rw_and (ha : RT X W st a ma) (hb : RW X W st (.BoolOp .And (b :: rest) pos) mb) : RW X W st (.BoolOp .And (a :: b :: rest) pos) (tAn ma mb) := by
  obtain ⟨t, p, f⟩ := ha
  obtain ⟨u, q, g⟩ := hb
  refine ⟨tAnd t u, pw_and p q, fun H0 B Ls G S z σ H Q h hq => ?_⟩
  refine f H0 B Ls G S z σ H _ h (hq.bind fun c z1 H1 _ x1 hz1 hq1 => ?_)
  cases c with
  | true => exact iteT (g H0 B Ls G S z1 σ H1 Q (h.grow x1 hz1) hq1)
  | false => exact iteF (Ct.ok (k := fun x z' H' => Q x H') hq1 hz1)
theorem rw_or (ha : RT X W st a ma) (hb : RW X W st (.BoolOp .Or (b :: rest) pos) mb) : RW X W st (.BoolOp .Or (a :: b :: rest) pos) (tOr' ma mb) := by
  obtain ⟨t, p, f⟩ := ha
  obtain ⟨u, q, g⟩ := hb
  refine ⟨tOr t u, pw_or p q, fun H0 B Ls G S z σ H Q h hq => ?_⟩
  refine f H0 B Ls G S z σ H _ h (hq.bind fun c z1 H1 _ x1 hz1 hq1 => ?_)
  cases c with
  | false => exact iteF (g H0 B Ls G S z1 σ H1 Q (h.grow x1 hz1) hq1)
  | true => exact iteT (Ct.ok (k := fun x z' H' => Q x H') hq1 hz1)
end
/-! .. as values -/
@[simp] def eNot (m : ME) : ME := fun S z => ((m S z).bind asB).bind fun b z => .ok (.im (.bl (!b))) z
@[simp] def eAn (a b : ME) : ME := fun S z => ((a S z).bind asB).bind fun c z => if c = true then b S z else .ok (.im (.bl false)) z
@[simp] def eOr (a b : ME) : ME := fun S z => ((a S z).bind asB).bind fun c z => if c = true then .ok (.im (.bl true)) z else b S z
theorem Ct.asB {α : Type} {σ : L2.St} {H : Hp} {r : Rs Val} {f : Bool → Zs → Rs α} {k : α → Zs → Hp → Prop} {k' : Val → Zs → Hp → Prop} (h : Ct X W st σ H ((r.bind MM.asB).bind f) k)
    (g : ∀ b z1 H1, SameX st H H1 → Zr X.K st z1 H1 → Ct X W st σ H1 (f b z1) k → k' (.im (.bl b)) z1 H1) : Ct X W st σ H r k' := by
  cases r with
  | ok x z =>
    simp only [Rs.bind_ok] at h
    unfold MM.asB at h
    split at h
    · exact fun H' x hz => g _ _ H' x hz (Ct.grow h x)
    · exact h.elim
  | ex c z => exact h
  | no => exact h
section
variable {a b : Expr} {ma mb : ME} {rest : List Expr}
theorem fe_not (ha : RE X W st a ma) : FE X W st (.UnaryOp .Not a pos) (eNot ma) := by
  obtain ⟨t, p, f⟩ := ha
  refine ⟨tNotV t, pe_not p, fun H0 B Ls G S z σ H Q h hq => ?_⟩
  refine f H0 B Ls G S z σ H _ h (Ct.asB hq fun c z1 H1 x1 hz1 hq1 v hv => ?_)
  exact ⟨c, bor_bl hv, Ct.fin (h.grow x1 hz1) hq1 (G' := []) (Same.refl H1) (.im (.bl _)) List.nodup_nil (fun _ z => by cases z)⟩
theorem fe_one {op} (ha : FE X W st a ma) : FE X W st (.BoolOp op [a] pos) ma := let ⟨t, p, f⟩ := ha; ⟨t, pe_one p, f⟩
theorem fe_and (ha : RE X W st a ma) (hb : FE X W st (.BoolOp .And (b :: rest) pos) mb) : FE X W st (.BoolOp .And (a :: b :: rest) pos) (eAn ma mb) := by
  obtain ⟨t, p, f⟩ := ha
  obtain ⟨u, q, g⟩ := hb
  refine ⟨tAndV t u, pe_and p q, fun H0 B Ls G S z σ H Q h hq => ?_⟩
  refine f H0 B Ls G S z σ H _ h (Ct.asB hq fun c z1 H1 x1 hz1 hq1 v hv => ⟨c, bor_bl hv, ?_⟩)
  cases c with
  | true => exact iteT (g H0 B Ls G S z1 σ H1 Q (h.grow x1 hz1) hq1)
  | false => exact iteF (Ct.fin (h.grow x1 hz1) hq1 (G' := []) (Same.refl H1) (.im (.bl _)) List.nodup_nil (fun _ z => by cases z))
theorem fe_or (ha : RE X W st a ma) (hb : FE X W st (.BoolOp .Or (b :: rest) pos) mb) : FE X W st (.BoolOp .Or (a :: b :: rest) pos) (eOr ma mb) := by
  obtain ⟨t, p, f⟩ := ha
  obtain ⟨u, q, g⟩ := hb
  refine ⟨tOrV t u, pe_or p q, fun H0 B Ls G S z σ H Q h hq => ?_⟩
  refine f H0 B Ls G S z σ H _ h (Ct.asB hq fun c z1 H1 x1 hz1 hq1 v hv => ⟨c, bor_bl hv, ?_⟩)
  cases c with
  | false => exact iteF (g H0 B Ls G S z1 σ H1 Q (h.grow x1 hz1) hq1)
  | true => exact iteT (Ct.fin (h.grow x1 hz1) hq1 (G' := []) (Same.refl H1) (.im (.bl _)) List.nodup_nil (fun _ z => by cases z))
@[simp] def eIf (c : MT) (a b : ME) : ME := fun S z => (c S z).bind fun k z => if k = true then a S z else b S z
theorem fe_if {c : Expr} {mc : MT} (hc : RT X W st c mc) (ha : FE X W st a ma) (hb : FE X W st b mb) : FE X W st (.IfExp c a b pos) (eIf mc ma mb) := by
  obtain ⟨t, p, f⟩ := hc
  obtain ⟨ta, pa, fa⟩ := ha
  obtain ⟨tb, pb, fb⟩ := hb
  refine ⟨tIf t ta tb, pe_ifExp p pa pb, fun H0 B Ls G S z σ H Q h hq => ?_⟩
  refine f H0 B Ls G S z σ H _ h (hq.bind fun c z1 H1 _ x1 hz1 hq1 => ?_)
  cases c with
  | true => exact iteT (fa H0 B Ls G S z1 σ H1 Q (h.grow x1 hz1) hq1)
  | false => exact iteF (fb H0 B Ls G S z1 σ H1 Q (h.grow x1 hz1) hq1)
end
/-! a < b < c, of ints -/
@[simp] def eCh (o o' : Val → Val → Option Val) (ma mb mc : ME) : ME := fun S z => (ma S z).bind fun x z => (mb S z).bind fun y z => ((lft (o x y) z).bind asB).bind fun k z =>
  if k = true then (mc S z).bind fun w z => lft (o' y w) z else .ok (.im (.bl false)) z
section
variable {a b c : Expr} {ma mb mc : ME} {op op' : CmpOp} {r r' : R2} {o o' : Val → Val → Option Val}
theorem chain_core (sp : Op2 X st r o) (sp' : Op2 X st r' o') {ta tb tc : TE}
    (fa : ∀ H0 B Ls G S z σ H Q, Stt X.K st H0 B Ls G S z σ H → Ct X W st σ H (ma S z) (fun x z' H' => ∀ v, Bor X.K (hid st H') v x → Q v H') → ta σ H Q)
    (fb : ∀ H0 B Ls G S z σ H Q, Stt X.K st H0 B Ls G S z σ H → Ct X W st σ H (mb S z) (fun x z' H' => ∀ v, Bor X.K (hid st H') v x → Q v H') → tb σ H Q)
    (fc : ∀ H0 B Ls G S z σ H Q, Stt X.K st H0 B Ls G S z σ H → Ct X W st σ H (mc S z) (fun x z' H' => ∀ v, Bor X.K (hid st H') v x → Q v H') → tc σ H Q)
    {H0 B Ls G S z σ H Q} (h : Stt X.K st H0 B Ls G S z σ H)
    (hq : Ct X W st σ H (eCh o o' ma mb mc S z) (fun x z' H' => ∀ v G', Own X.K H' v x G' → Stt X.K st H0 B Ls (G' ++ G) S z' σ H' → Q v H')) : tChain r r' ta tb tc σ H Q := by
  refine fa H0 B Ls G S z σ H _ h (hq.bind fun x z1 H1 _ x1 hz1 hq1 v hv => ?_)
  have h1 := h.grow x1 hz1
  refine fb H0 B Ls G S z1 σ H1 _ h1 (hq1.bind fun y z2 H2 _ x2 hz2 hq2 w hw => ?_)
  have h2 := h1.grow x2 hz2
  cases e : o x y with
  | none => rw [e] at hq2; exact hq2.elim
  | some u =>
    rw [e] at hq2
    refine sp H2 v w x y u _ (hv.mono x2.hid) hw e fun v' H' G' s ow nd fr => ?_
    have hz' := hz2.new s
    have h3 := h2.grow (.of_same s) hz'
    cases ow with
    | im rr =>
      cases rr with
      | bl k =>
        refine ⟨k, rfl, ?_⟩
        cases k with
        | false => exact iteF (Ct.fin (H1 := H') h3 (Ct.grow hq2 (.of_same s)) (G' := []) (Same.refl H') (.im (.bl _)) List.nodup_nil (fun _ z => by cases z))
        | true =>
          have hq3 : Ct X W st σ H' ((mc S z2).bind fun w z => lft (o' y w) z) (fun x z' H' => ∀ v G', Own X.K H' v x G' → Stt X.K st H0 B Ls (G' ++ G) S z' σ H' → Q v H') := Ct.grow hq2 (.of_same s)
          refine iteT (fc H0 B Ls G S z2 σ H' _ h3 (hq3.bind fun t z4 H4 _ x4 hz4 hq4 vt ht => ?_))
          cases e' : o' y t with
          | none => rw [e'] at hq4; exact hq4.elim
          | some u' =>
            rw [e'] at hq4
            exact sp' H4 w vt y t u' Q ((hw.mono (SameX.of_same (st := st) s).hid).mono x4.hid) ht e' fun v'' H'' G'' s' ow' nd' fr' => Ct.fin (h3.grow x4 hz4) hq4 s' ow' nd' fr'
      | _ => exact hq2.elim
    | _ => exact hq2.elim
theorem fe_chain (ho : OpR X (compareOp op) r) (ho' : OpR X (compareOp op') r') (sp : Op2 X st r o) (sp' : Op2 X st r' o') (ha : RE X W st a ma) (hb : RE X W st b mb) (hc : RE X W st c mc)
    (hm : lastMarks [op, op'] [b, c] = false := by with_unfolding_all rfl) : FE X W st (.Compare a [op, op'] [b, c] pos) (eCh o o' ma mb mc) := by
  obtain ⟨ta, pa, fa⟩ := ha
  obtain ⟨tb, pb, fb⟩ := hb
  obtain ⟨tc, pc, fc⟩ := hc
  exact ⟨tChain r r' ta tb tc, pe_chain ho ho' pa pb pc hm, fun H0 B Ls G S z σ H Q h hq => chain_core sp sp' fa fb fc h hq⟩
theorem rt_chain (ho : OpR X (compareOp op) r) (ho' : OpR X (compareOp op') r') (sp : Op2 X st r o) (sp' : Op2 X st r' o') (ha : RE X W st a ma) (hb : RE X W st b mb) (hc : RE X W st c mc)
    (hm : lastMarks [op, op'] [b, c] = false := by with_unfolding_all rfl) : RT X W st (.Compare a [op, op'] [b, c] pos) (tB' (eCh o o' ma mb mc)) := by
  obtain ⟨ta, pa, fa⟩ := ha
  obtain ⟨tb, pb, fb⟩ := hb
  obtain ⟨tc, pc, fc⟩ := hc
  refine ⟨tTest (tChain r r' ta tb tc), pt_chain ho ho' pa pb pc hm, fun H0 B Ls G S z σ H Q h hq => ?_⟩
  refine chain_core (Q := fun x H' => ∃ k, x = .bl k ∧ Q k H') sp sp' fa fb fc h (hq.bind fun x z1 H1 _ x1 hz1 hq1 v G' ow h1 => ?_)
  unfold asB at hq1
  split at hq1
  · exact ⟨_, bor_bl ow.bor, Ct.ok (k := fun x z' H' => Q x H') hq1 hz1⟩
  · exact hq1.elim
end
end
end MM

/-! MG: what a def promises, calls; statements. -/
namespace MM
open PySem PySem.Spec PyProof.Rows L2

abbrev MF := List Val → Rs Val
abbrev MZ := List Val → Zs → Rs Val
/-- a def without a stream -/
def spP (K : PySem.W.Frag) (mg : Str → Option Value) (m : MF) : Sp := fun vs H Q E => ∃ xs, BorS K H vs xs ∧ match m xs with
  | .ok x _ => ∀ v H' G, Same H H' → Own K H' v x G → G.Nodup → (∀ a ∈ G, H a = none) → Q v H'
  | .ex c _ => ∀ cv d H', Same H H' → ExR K mg c cv d H' → E cv d H'
  | .no => False
/-- a def whose first argument is the stream -/
def spZ (K : PySem.W.Frag) (mg : Str → Option Value) (m : MZ) : Sp := fun vs H Q E => ∃ a ws z xs, vs = .ref a :: ws ∧ Zr K (some a) z H ∧ BorS K (hid (some a) H) ws xs ∧ match m xs z with
  | .ok x z' => ∀ v H' G, SameX (some a) H H' → Zr K (some a) z' H' → Own K H' v x G → G.Nodup → (∀ b ∈ G, H b = none) → Q v H'
  | .ex c z' => ∀ cv d H', SameX (some a) H H' → Zr K (some a) z' H' → ExR K mg c cv d H' → E cv d H'
  | .no => False

section
variable {X : Cx} {W : WX} {st : Option Addr} {pos : Pos}
theorem BorS.hid {K : PySem.W.Frag} {st : Option Addr} {H : Hp} {vs : List V} {xs : List Val} (h : BorS K (hid st H) vs xs) : BorS K H vs xs := h.mono (hid_same st H)
@[simp] def eCall (m : MF) (ms : MAs) : ME := fun S z => (ms S z).bind fun xs z => match m xs with
  | .ok x _ => .ok x z
  | .ex c _ => .ex c z
  | .no => .no
section
variable {k : Nat} {f : Addr} {fd : FuncData} {ps : List Str} {x : Str} {p : Pos} {e : Expr} {es : List Expr} {ms : MAs}
theorem fe_call {m : MF} (F : FnOk X.prog X.w X.K X.mg X.base (L2.CX X.prog X.w) k f fd ps (spP X.K X.mg m)) (hr : Room k X.A) (hg : Gl X x) (hm : X.mg x = some (.ref f)) (hk : PySem.W.keepIn X.K (.ref f) = true) (hb : Binds X.K fd ps []) (tk : Takes X W)
    (ha : RA X W st (e :: es) ms) (hdb : (x == ("__debug__" : Str)) = false := by decide) (he : starEach (e :: es) X.env = (false, eval e X.env) :: starEach es X.env := by rfl) (hpl : (backTo pos (starEach es X.env)).any (·.1) = false := by rfl) :
    FE X W st (.Call (.Name x p) (e :: es) [] pos) (eCall m ms) := by
  obtain ⟨t, pa, g⟩ := ha
  refine ⟨tCallS _ (WE W) t, pe_callS F hr hg hm hk hb (fun σ => passAt tk σ) pa hdb he hpl, fun H0 B Ls G S z σ H Q h hq => ?_⟩
  refine g H0 B Ls G S z σ H _ h (hq.bind fun xs z1 H1 _ x1 hz1 hq1 vs hvs => ?_)
  refine ⟨xs, hvs.hid, ?_⟩
  have h1 := h.grow x1 hz1
  split at hq1
  · rename_i y _ em
    exact fun v H' G' s ow nd fr => Ct.fin h1 hq1 s ow nd fr
  · rename_i c _ em
    exact fun cv d H' s xr => hq1 cv d H' (.of_same s) (hz1.new s) xr
  · exact hq1.elim
theorem fe_call0 {m : MF} (F : FnOk X.prog X.w X.K X.mg X.base (L2.CX X.prog X.w) k f fd ps (spP X.K X.mg m)) (hr : Room k X.A) (hg : Gl X x) (hm : X.mg x = some (.ref f)) (hk : PySem.W.keepIn X.K (.ref f) = true) (hb : Binds X.K fd ps [])
    (hne : ∀ c z, m [] ≠ .ex c z) (hdb : (x == ("__debug__" : Str)) = false := by decide) : FE X W st (.Call (.Name x p) [] [] pos) (eCall m aNil) := by
  refine ⟨tCall _ [] E0 tNil, pe_call0 F hr hg hm hk hb .nil passL hdb, fun H0 B Ls G S z σ H Q h hq => ?_⟩
  refine ⟨[], .nil, ?_⟩
  unfold eCall aNil at hq
  simp only [Rs.bind_ok] at hq
  split at hq
  · rename_i y _ em
    exact fun v H' G' s ow nd fr => Ct.fin h hq s ow nd fr
  · rename_i c _ em
    exact absurd em (hne _ _)
  · exact hq.elim
/-- with the stream at slot i -/
@[simp] def eCallZ (i : Nat) (m : MZ) (ms : MAs) : ME := fun S z => match S[i]? with
  | some .s => (ms S z).bind m
  | _ => .no
theorem fe_callZ {m : MZ} (i : Nat) {y : Str} {q : Pos} (F : FnOk X.prog X.w X.K X.mg X.base (L2.CX X.prog X.w) k f fd ps (spZ X.K X.mg m)) (hr : Room k X.A) (hg : Gl X x) (hm : X.mg x = some (.ref f)) (hk : PySem.W.keepIn X.K (.ref f) = true) (hb : Binds X.K fd ps []) (tk : Takes X W)
    (ha : RA X W st es ms) (hN : X.N[i]? = some y := by rfl) (hv : Vis X.env.scope y := by first | exact Or.inl rfl | exact Or.inr (Or.inl rfl) | exact Or.inr (Or.inr rfl)) (hd : (y == ("__debug__" : Str)) = false := by decide)
    (hcd : (y == ("__classdict__" : Str)) = false := by decide) (hdb : (x == ("__debug__" : Str)) = false := by decide) (he : starEach (.Name y q :: es) X.env = (false, eval (.Name y q) X.env) :: starEach es X.env := by rfl) (hpl : (backTo pos (starEach es X.env)).any (·.1) = false := by rfl) :
    FE X W st (.Call (.Name x p) (.Name y q :: es) [] pos) (eCallZ i m ms) := by
  obtain ⟨t, pa, g⟩ := ha
  refine ⟨tCallS _ (WE W) (tCons (tVar i) t), pe_callS F hr hg hm hk hb (fun σ => passAt tk σ) (pa_cons (pe_var hN hv hd hcd) pa he) hdb he hpl, fun H0 B Ls G S z σ H Q h hq => ?_⟩
  unfold eCallZ at hq
  split at hq
  · rename_i e1
    obtain ⟨Gs, hs, _⟩ := h.ex
    obtain ⟨a, ea, est⟩ := hs.get_s e1
    refine ⟨.ref a, ea, ?_⟩
    refine g H0 B Ls G S z σ H _ h (hq.bind fun xs z1 H1 _ x1 hz1 hq1 vs hvs => ?_)
    have h1 := h.grow x1 hz1
    subst est
    refine ⟨a, vs, z1, xs, rfl, hz1, hvs, ?_⟩
    cases em : m xs z1 with
    | ok y z2 =>
      rw [em] at hq1
      exact fun v H' G' s hz' ow nd fr => hq1.okX s hz' v G' ow (h1.add s hz' nd fr ow.there)
    | ex c z2 =>
      rw [em] at hq1
      exact fun cv d H' s hz' xr => hq1 cv d H' s hz' xr
    | no => rw [em] at hq1; exact hq1
  · exact hq.elim
end

/-! ### statements -/
inductive Ro where
  | nx (S : List Sv) (z : Zs) | rt (x : Val) (z : Zs) | bk (S : List Sv) (z : Zs) | ct (S : List Sv) (z : Zs) | xc (c : Exc) (S : List Sv) (z : Zs) | no
abbrev MS := List Sv → Zs → Ro
/-- an outcome's wish -/
def Cs (X : Cx) (W : WX) (st : Option Addr) (H0 B : Hp) (Ls : List (Option (V × Val))) (D : Ends) : Ro → Prop
  | .nx S z => ∀ σ H, Stt X.K st H0 B Ls [] S z σ H → D.nx σ H
  | .rt x z => ∀ v H G, SameX st H0 H → Same B H → Zr X.K st z H → Own X.K H v x G → G.Nodup → (∀ a ∈ G, H0 a = none) → D.rt v H
  | .bk S z => ∀ σ H, Stt X.K st H0 B Ls [] S z σ H → D.bk σ H
  | .ct S z => ∀ σ H, Stt X.K st H0 B Ls [] S z σ H → D.ct σ H
  | .xc c S z => ∀ cv d σ H, Stt X.K st H0 B Ls [] S z σ H → ExR X.K X.mg c cv d H → W cv d σ H
  | .no => False
def SE (X : Cx) (W : WX) (st : Option Addr) (s : Stmt) (m : MS) : Prop := ∃ t, PS X s t ∧ ∀ H0 B Ls S z σ H D, Stt X.K st H0 B Ls [] S z σ H → Cs X W st H0 B Ls D (m S z) → t D σ H
def SEs (X : Cx) (W : WX) (st : Option Addr) (s : List Stmt) (m : MS) : Prop := ∃ t, PSs X s t ∧ ∀ H0 B Ls S z σ H D, Stt X.K st H0 B Ls [] S z σ H → Cs X W st H0 B Ls D (m S z) → t D σ H
def Rs.go {α : Type} (r : Rs α) (S : List Sv) (f : α → Zs → Ro) : Ro := match r with
  | .ok a z => f a z
  | .ex c z => .xc c S z
  | .no => .no
@[simp] theorem Rs.go_ok {α : Type} {a : α} {z : Zs} {S : List Sv} {f : α → Zs → Ro} : (Rs.ok a z).go S f = f a z := rfl
@[simp] theorem Rs.go_ex {α : Type} {c : Exc} {z : Zs} {S : List Sv} {f : α → Zs → Ro} : (Rs.ex c z : Rs α).go S f = .xc c S z := rfl
@[simp] theorem Rs.go_no {α : Type} {S : List Sv} {f : α → Zs → Ro} : (Rs.no : Rs α).go S f = .no := rfl
/-- an expression within a statement -/
theorem Cs.go {α : Type} {H0 B H : Hp} {Ls : List (Option (V × Val))} {D : Ends} {S : List Sv} {z : Zs} {σ : L2.St} {r : Rs α} {f : α → Zs → Ro} {k' : α → Zs → Hp → Prop} (h : Stt X.K st H0 B Ls [] S z σ H) (hq : Cs X W st H0 B Ls D (r.go S f))
    (g : ∀ a z1 H1, r = .ok a z1 → SameX st H H1 → Zr X.K st z1 H1 → Cs X W st H0 B Ls D (f a z1) → k' a z1 H1) : Ct X W st σ H r k' := by
  cases r with
  | ok a z => exact fun H' y hz => g a z H' rfl y hz hq
  | ex c z1 => exact fun cv d H' y hz xr => hq cv d σ H' (h.grow y hz) xr
  | no => exact hq
@[simp] def sSeq (a b : MS) : MS := fun S z => match a S z with
  | .nx S z => b S z
  | r => r
@[simp] def sNil : MS := fun S z => .nx S z
theorem ss_nil : SEs X W st [] sNil := ⟨tNext, pss_nil, fun H0 B Ls S z σ H D h hq => hq σ H h⟩
theorem ss_one {s : Stmt} {m : MS} (h : SE X W st s m) : SEs X W st [s] m := let ⟨t, p, f⟩ := h; ⟨t, pss_one p, f⟩
theorem ss_cons {s : Stmt} {r : List Stmt} {a b : MS} (h : SE X W st s a) (hr : SEs X W st r b) : SEs X W st (s :: r) (sSeq a b) := by
  obtain ⟨t, p, f⟩ := h
  obtain ⟨u, q, g⟩ := hr
  refine ⟨tSeq t u, pss_cons p q, fun H0 B Ls S z σ H D h hq => ?_⟩
  refine f H0 B Ls S z σ H { D with nx := u D } h ?_
  unfold sSeq at hq
  cases e : a S z with
  | nx S1 z1 => rw [e] at hq; exact fun σ1 H1 h1 => g H0 B Ls S1 z1 σ1 H1 D h1 hq
  | rt x z1 => rw [e] at hq; exact hq
  | bk S1 z1 => rw [e] at hq; exact hq
  | ct S1 z1 => rw [e] at hq; exact hq
  | xc c S1 z1 => rw [e] at hq; exact hq
  | no => rw [e] at hq; exact hq
theorem se_pass : SE X W st (.Pass pos) sNil := ⟨tNext, ps_pass, fun H0 B Ls S z σ H D h hq => hq σ H h⟩
theorem se_break : SE X W st (.Break pos) (fun S z => .bk S z) := ⟨tBreak, ps_break, fun H0 B Ls S z σ H D h hq => hq σ H h⟩
theorem se_continue : SE X W st (.Continue pos) (fun S z => .ct S z) := ⟨tCont, ps_continue, fun H0 B Ls S z σ H D h hq => hq σ H h⟩
@[simp] def sBk : MS := fun S z => .bk S z
@[simp] def sCt : MS := fun S z => .ct S z
/-- if -/
@[simp] def sIf (c : MT) (a b : MS) : MS := fun S z => (c S z).go S fun k z => if k = true then a S z else b S z
theorem se_if {c : Expr} {a b : List Stmt} {mc : MT} {ma mb : MS} (hc : RT X W st c mc) (ha : SEs X W st a ma) (hb : SEs X W st b mb) : SE X W st (.If c a b pos) (sIf mc ma mb) := by
  obtain ⟨tc, pc, fc⟩ := hc
  obtain ⟨ta, pa, fa⟩ := ha
  obtain ⟨tb, pb, fb⟩ := hb
  refine ⟨tIfS tc ta tb, ps_if pc pa pb, fun H0 B Ls S z σ H D h hq => ?_⟩
  refine fc H0 B Ls [] S z σ H _ h (Cs.go h hq fun k z1 H1 _ x1 hz1 hq1 => ?_)
  cases k with
  | true => exact iteT (fa H0 B Ls S z1 σ H1 D (h.grow x1 hz1) hq1)
  | false => exact iteF (fb H0 B Ls S z1 σ H1 D (h.grow x1 hz1) hq1)
/-- an expression alone -/
@[simp] def sExpr (m : ME) : MS := fun S z => (m S z).go S fun _ z => .nx S z
theorem Stt.drop {K : PySem.W.Frag} {H0 B H : Hp} {Ls : List (Option (V × Val))} {G G' : List Addr} {S : List Sv} {z : Zs} {σ : L2.St} (h : Stt K st H0 B Ls (G' ++ G) S z σ H) : Stt K st H0 B Ls G S z σ H := by
  obtain ⟨Gs, hs, nd, fr⟩ := h.ex
  rw [List.append_assoc] at nd fr
  exact ⟨h.fr, h.zr, h.ble, h.z0, h.bst, fun a ha => h.gt a (List.mem_append_right _ ha), h.lks, Gs, hs, (List.nodup_append.mp nd).2.1, fun a ha => fr a (List.mem_append_right _ ha)⟩
theorem se_expr {e : Expr} {m : ME} (he : FE X W st e m) (hs : swapsWith e none pos.line X.env = pure false := by rfl) : SE X W st (.Expr e pos) (sExpr m) := by
  obtain ⟨t, p, f⟩ := he
  refine ⟨tDrop t, ps_expr p hs, fun H0 B Ls S z σ H D h hq => ?_⟩
  exact f H0 B Ls [] S z σ H _ h (Cs.go h hq fun x z1 H1 _ x1 hz1 hq1 v G' ow h1 => hq1 σ H1 h1.drop)
/-- return -/
@[simp] def sRet (m : ME) : MS := fun S z => (m S z).go S fun x z => .rt x z
theorem se_ret {e : Expr} {m : ME} (he : FE X W st e m) : SE X W st (.Return (some e) pos) (sRet m) := by
  obtain ⟨t, p, f⟩ := he
  refine ⟨tRet t, ps_ret p, fun H0 B Ls S z σ H D h hq => ?_⟩
  refine f H0 B Ls [] S z σ H _ h (Cs.go h hq fun x z1 H1 _ x1 hz1 hq1 v G' ow h1 => ?_)
  obtain ⟨Gs, hs, nd, fr⟩ := h1.ex
  rw [List.append_nil] at nd fr
  exact hq1 v H1 G' h1.fr h1.ble hz1 ow (List.nodup_append.mp nd).1 fun a ha => (fr a (List.mem_append_left _ ha)).1
@[simp] def sRetN : MS := fun _ z => .rt (.im .non) z
theorem se_retN : SE X W st (.Return none pos) sRetN := ⟨tRetN, ps_retN, fun H0 B Ls S z σ H D h hq => hq _ H [] h.fr h.ble h.zr (.im .non) List.nodup_nil (fun _ z => by cases z)⟩
/-- return of a slot: what it owns goes with it -/
@[simp] def sRetV (i : Nat) : MS := fun S z => match S[i]? with
  | some (.o x) => .rt x z
  | some (.b (.im t)) => .rt (.im t) z
  | some (.lk (.im t)) => .rt (.im t) z
  | _ => .no
theorem se_retV (i : Nat) {x : Str} {p : Pos} (hN : X.N[i]? = some x := by rfl) (hv : Vis X.env.scope x := by first | exact Or.inl rfl | exact Or.inr (Or.inl rfl) | exact Or.inr (Or.inr rfl)) (hd : (x == ("__debug__" : Str)) = false := by decide)
    (hcd : (x == ("__classdict__" : Str)) = false := by decide) : SE X W st (.Return (some (.Name x p)) pos) (sRetV i) := by
  refine ⟨tRet (tVar i), ps_ret (pe_var hN hv hd hcd), fun H0 B Ls S z σ H D h hq => ?_⟩
  obtain ⟨Gs, hs, nd, fr⟩ := h.ex
  rw [List.nil_append] at nd fr
  unfold sRetV at hq
  split at hq
  · rename_i y e
    obtain ⟨v, G1, Ga, Gb, e1, ow, eg, _⟩ := hs.get_o e
    refine ⟨v, e1, hq v H G1 h.fr h.ble h.zr ow ?_ fun a ha => (fr a (by rw [eg]; simp [ha])).1⟩
    rw [eg] at nd
    exact (List.nodup_append.mp (List.nodup_append.mp nd).1).2.1
  · rename_i t e
    obtain ⟨v, e1, bw⟩ := hs.get_b e
    cases bw with
    | im r => exact ⟨v, e1, hq v H [] h.fr h.ble h.zr (.im ((r.mono (Le.of_same h.fr.hid)).mono (Le.of_same (hid_same st H)))) List.nodup_nil (fun _ z => by cases z)⟩
  · rename_i t e
    obtain ⟨v, e1, el⟩ := hs.get_lk e
    cases h.lks i v _ el with
    | im r => exact ⟨v, e1, hq v H [] h.fr h.ble h.zr (.im (r.mono (Le.of_same h.ble))) List.nodup_nil (fun _ z => by cases z)⟩
  · exact hq.elim
/-- name = e -/
@[simp] def sSet (i : Nat) (m : ME) : MS := fun S z => if i < S.length then (m S z).go S fun x z => .nx (S.set i (.o x)) z else .no
theorem nodup_mid {α : Type} {G' Ga Gm Gb : List α} (h : (G' ++ (Ga ++ Gm ++ Gb)).Nodup) : (Ga ++ G' ++ Gb).Nodup := by
  have h1 : (G' ++ (Ga ++ Gb)).Nodup := h.sublist (List.Sublist.append_left (List.Sublist.append_right (List.sublist_append_left Ga Gm) Gb) G')
  have p : List.Perm (G' ++ (Ga ++ Gb)) (Ga ++ G' ++ Gb) := by
    rw [← List.append_assoc]
    exact List.Perm.append_right Gb List.perm_append_comm
  exact p.nodup_iff.mp h1
theorem Stt.put {K : PySem.W.Frag} {H0 B H : Hp} {Ls : List (Option (V × Val))} {G' G : List Addr} {S : List Sv} {z : Zs} {σ : L2.St} {v : V} {x : Val} {i : Nat} (h : Stt K st H0 B Ls (G' ++ G) S z σ H) (ow : Own K H v x G') (hi : i < S.length) : Stt K st H0 B Ls G (S.set i (.o x)) z (σ.set i (some v)) H := by
  obtain ⟨Gs, hs, nd, fr⟩ := h.ex
  obtain ⟨Ga, Gm, Gb, e, q⟩ := hs.set hi (y := .o x) (w := some v) (G2 := G') fun l => by simpa using SlS.o (l := l) ow .nil
  refine ⟨h.fr, h.zr, h.ble, h.z0, h.bst, fun a ha => h.gt a (List.mem_append_right _ ha), h.lks, _, q, ?_, fun a ha => fr a ?_⟩
  · rw [e] at nd
    have nd2 : (G' ++ (G ++ (Ga ++ Gm ++ Gb))).Nodup := by rw [← List.append_assoc]; exact nd
    have nd3 := nodup_mid (G' := G') (Ga := G ++ Ga) (Gm := Gm) (Gb := Gb) (by simpa only [List.append_assoc] using nd2)
    simpa only [List.append_assoc] using nd3
  · rw [e]
    simp only [List.mem_append] at ha ⊢
    rcases ha with q | (q | q) | q
    · exact .inl (.inr q)
    · exact .inr (.inl (.inl q))
    · exact .inl (.inl q)
    · exact .inr (.inr q)
theorem se_set (i : Nat) {x : Str} {e : Expr} {m : ME} {pos' : Pos} (hN : X.N.Nodup) (hi : X.N[i]? = some x) (hx : Loc X.env.scope x) (he : FE X W st e m) (hs : swapsWith e (some (.Name x pos')) pos.line X.env = pure false := by rfl) (hf : X.fn x = true ∨ X.env.scope.names.lookup x = some .local := by first | exact .inl rfl | exact .inr rfl | assumption) :
    SE X W st (.Assign [.Name x pos'] e pos) (sSet i m) := by
  obtain ⟨t, p, f⟩ := he
  refine ⟨tAsg t (gName i), ps_set hN hi hx p hs hf, fun H0 B Ls S z σ H D h hq => ?_⟩
  unfold sSet at hq
  split at hq
  · rename_i hl
    refine f H0 B Ls [] S z σ H _ h (Cs.go h hq fun y z1 H1 _ x1 hz1 hq1 v G' ow h1 => ?_)
    exact hq1 _ H1 (h1.put ow hl)
  · exact hq.elim
end
end MM

/-! MH: statements that change a list or a dict of the frame; loops. -/
namespace MM
open PySem PySem.AutoSeq1
theorem ext_tup (l : Addr) (items : Array Value) (n : Nat) (b : Addr) (items2 : Array Value) (n2 : Nat) (dd : Option Addr) (sl : Array (Option Value)) (h0 : ¬(!items.isEmpty && Builtin.List.listTooLong (items.size + items2.size)) = true) (h1 : items.size ≤ sizeLine) (h2 : items.size + items2.size ≤ sizeLine + 1) :
    Meets (Builtin.«list.extend» ⟨[.ref l, .ref b], []⟩) (fun _ R s => s.heap.get? l = some { cls := .type "list", dict := none, data := .seq items n, slots := #[] } ∧ s.heap.get? b = some { cls := .type "tuple", dict := dd, data := .seq items2 n2, slots := sl } ∧
      R (.ok (.ret Value.none)) { s with heap := s.heap.update l (Obj.mapSeq fun x => x ++ items2), toks := s.toks }) :=
  .of_wp fun prog w A R s h => by
    obtain ⟨hp, g, d, tk, os⟩ := s
    obtain ⟨hl, hb, h⟩ := h
    have f1 := idx_int
    have f2 := sub_tuple_tuple
    have f3 := sub_list_list
    have f4 := sub_tuple_list
    have f5 := sub_list_tuple
    have hz' : (items ++ items2).size ≤ sizeLine + 1 := by rw [Array.size_append]; exact h2
    wp_walk using (wpAny_updateSeq hl rfl (hz := h1) (_hz' := hz')), wpAny_loadPart' hl, wpAny_loadPart' hb
    exact ⟨_, rfl, h⟩
end MM
namespace MM
open PySem PySem.Spec PyProof.Rows L2
/-- xs.extend(t), t a tuple -/
def rExtT (K : PySem.W.Frag) : V → List V → Hp → VK → Prop := fun x vs H Q => ∃ l b xs zs, x = .ref l ∧ vs = [.ref b] ∧ H l = some (.lst xs) ∧ SqT K H b zs ∧ xs.length + zs.length ≤ sizeLine ∧ Q .non (upd H l (.lst (xs ++ zs)))
theorem mt_extT {X : Cx} : MtM X "list.extend" (rExtT X.K) := by
  intro pins s σ H x vs v us Q I rx rv h
  obtain ⟨l, b, xs, zs, rfl, rfl, hH, hB, hz, q⟩ := h
  cases rx
  obtain ⟨u, rfl, ru⟩ := L2.Vals.one rv
  cases ru
  obtain ⟨z, its, n, r, hl, e⟩ := I.lstM hH
  obtain ⟨its2, r2, ⟨⟨oc, od, odat, osl⟩, e2, hc, n2, hdat⟩, hl2⟩ := I.tuple hB
  simp only at hc hdat
  subst hc hdat
  have k1 := r.length
  have k2 := r2.length
  have hsz : its.toArray.size + its2.toArray.size ≤ sizeLine := by rw [List.size_toArray, List.size_toArray]; omega
  have hlong : ¬ (!its.toArray.isEmpty && Builtin.List.listTooLong (its.toArray.size + its2.toArray.size)) = true := by
    rw [notLongL hsz, Bool.and_false]
    exact Bool.false_ne_true
  refine call_meets PySem.F.slot_list_extend ⟨_, e, rfl⟩ PySem.F.entry_list_extend (PySem.F.args_list_extend_2 _ _)
    (ext_tup l its.toArray n b its2.toArray n2 od osl hlong (by rw [List.size_toArray]; omega) (by omega)) ⟨e, e2, ?_⟩
  refine ⟨.non, _, I.lset (its' := its ++ its2) hH e (by simp) (r.append r2) ?_, rfl, q⟩
  rw [List.length_append]
  omega
theorem MtM.or {X : Cx} {id : String} {r r' : V → List V → Hp → VK → Prop} (h : MtM X id r) (h' : MtM X id r') : MtM X id (fun x xs H Q => r x xs H Q ∨ r' x xs H Q) := fun pins s σ H x xs v us Q I rx rs q => q.elim (h pins s σ H x xs v us Q I rx rs) (h' pins s σ H x xs v us Q I rx rs)

section
variable {X : Cx} {W : WX} {st : Option Addr} {pos : Pos}
theorem Mu.ntup {u : HO} (m : Mu u) : (∀ xs, u ≠ .tup xs) ∧ (∀ ob xs, u ≠ .frz ob (.tup xs)) ∧ ∀ ob xs, u ≠ .frz ob (.lst xs) := by
  refine ⟨fun xs e => ?_, fun ob xs e => ?_, fun ob xs e => ?_⟩
  · rw [e] at m; exact m
  · rw [e] at m; exact m
  · rw [e] at m; exact m
/-- an object that is owned is changed -/
theorem SameX.upd {K : PySem.W.Frag} {H0 B H : Hp} {Ls : List (Option (V × Val))} {G : List Addr} {S : List Sv} {z : Zs} {σ : L2.St} (h : Stt K st H0 B Ls G S z σ H) {l : Addr} (o : HO) (h0 : H0 l = none) : SameX st H0 (L2.upd H l o) ∧ Zr K st z (L2.upd H l o) := by
  have nl := h.nst h0
  refine ⟨⟨fun a u n e => ?_, fun a x r e ha => ?_⟩, fun a e => ?_⟩
  · rw [upd_ne (ne_of_none e h0)]
    exact h.fr.k a u n e
  · rw [upd_ne (ne_of_none ha h0)]
    exact h.fr.l a x r e ha
  · obtain ⟨z0, hz0⟩ := h.z0
    obtain ⟨l0, q0, q1, q2, _⟩ := hz0 a e
    obtain ⟨r', q3⟩ := h.fr.l a _ _ e q0
    obtain ⟨l1, p0, p1, p2, p3⟩ := h.zr a e
    rw [q3] at p0
    injection p0 with p0
    injection p0 with p0
    injection p0 with p0 p4
    injection p0 with p0
    subst p0
    refine ⟨l0, ?_, p1, ?_, p3⟩
    · rw [upd_ne (ne_of_none q0 h0), q3, p4]
    · rw [upd_ne (ne_of_none q2 h0)]; exact p2
theorem Le.upd_mu {H : Hp} {l : Addr} {o u : HO} (e : H l = some u) (m : Mu u) : Le H (L2.upd H l o) := Le.upd e m.ntup.1 m.ntup.2.1 m.ntup.2.2
/-- the root object of an owned slot is changed -/
theorem Stt.chg {K : PySem.W.Frag} {H0 B H : Hp} {Ls : List (Option (V × Val))} {G : List Addr} {S : List Sv} {z : Zs} {σ : L2.St} (h : Stt K st H0 B Ls G S z σ H) {i : Nat} {l : Addr} {x y : Val} {o u : HO}
    (e : S[i]? = some (.o x)) (hl : ∀ v G1, σ[i]? = some (some v) → Own K H v x G1 → v = .ref l ∧ G1 = [l]) (hu : H l = some u) (mu : Mu u) (mo : Mu o) (ow : Own K (L2.upd H l o) (.ref l) y [l]) : Stt K st H0 B Ls G (S.set i (.o y)) z σ (L2.upd H l o) := by
  obtain ⟨Gs, hs, nd, fr⟩ := h.ex
  obtain ⟨v, G1, Ga, Gb, e1, o1, eg, put⟩ := hs.get_o e
  obtain ⟨rfl, rfl⟩ := hl v G1 e1 o1
  have fl := fr l (by rw [eg]; simp)
  obtain ⟨sx, zr⟩ := SameX.upd h o fl.1
  have nd' := nd
  rw [eg] at nd'
  have nin : ∀ a, a ∈ G ∨ a ∈ Ga ∨ a ∈ Gb → a ≠ l := fun a ha c => by
    subst c
    have p : List.Perm (G ++ (Ga ++ [a] ++ Gb)) (a :: (G ++ Ga ++ Gb)) := by
      have : G ++ (Ga ++ [a] ++ Gb) = (G ++ Ga) ++ a :: Gb := by simp
      rw [this]
      exact List.perm_middle
    have nd2 := p.nodup_iff.mp nd'
    have := (List.nodup_cons.mp nd2).1
    exact this (by simp only [List.mem_append]; rcases ha with q | q | q; exact .inl (.inl q); exact .inl (.inr q); exact .inr q)
  have li : i < Ls.length := by
    have := hs.length
    have h2 : Ls.length = S.length := hs.lengthL
    rw [h2]
    exact (List.getElem?_eq_some_iff.mp e).1
  have put' := put (hid st H0) (L2.upd H l o) Ls[i] (.o y) (some (.ref l)) ([l] ++ []) (fun _ _ q => q) (Le.upd_mu hu mu) (fun a ha u' q => by rw [upd_ne (nin a (by simp only [List.mem_append] at ha; exact .inr ha))]; exact q) (.o ow .nil)
  have es : σ.set i (some (.ref l)) = σ := by
    apply List.ext_getElem?
    intro k
    rw [List.getElem?_set]
    split
    · rename_i c
      subst c
      split
      · exact e1.symm
      · rename_i c; rw [List.getElem?_eq_none (by omega)]
    · rfl
  have el : Ls.set i Ls[i] = Ls := by simp
  rw [es, el] at put'
  refine ⟨sx, zr, fun a u' q => ?_, h.z0, h.bst, fun a ha => ?_, h.lks, Ga ++ ([l] ++ []) ++ Gb, put', ?_, ?_⟩
  · rw [upd_ne (ne_of_none q fl.2)]; exact h.ble a u' q
  · obtain ⟨u', q, m⟩ := h.gt a ha
    exact ⟨u', by rw [upd_ne (nin a (.inl ha))]; exact q, m⟩
  · simpa using nd'
  · intro a ha
    refine fr a ?_
    rw [eg]
    simpa using ha

/-! ### xs.append(e), xs.extend(e) -/
@[simp] def sApp (i : Nat) (m : ME) : MS := fun S z => match S[i]? with
  | some (.o (.il ts)) => (m S z).go S fun x z => match x with
    | .im t => if ts.length < sizeLine then .nx (S.set i (.o (.il (ts ++ [t])))) z else .no
    | _ => .no
  | _ => .no
theorem own_il {K : PySem.W.Frag} {H : Hp} {v : V} {ts : List T} {G : List Addr} (h : Own K H v (.il ts) G) : ∃ a xs, v = .ref a ∧ G = [a] ∧ H a = some (.lst xs) ∧ RepTs K H xs ts := by
  cases h with | il h g => exact ⟨_, _, rfl, rfl, h, g⟩
theorem get_il {K : PySem.W.Frag} {H0 B H : Hp} {Ls : List (Option (V × Val))} {G : List Addr} {S : List Sv} {z : Zs} {σ : L2.St} {i : Nat} {ts : List T} (h : Stt K st H0 B Ls G S z σ H) (e : S[i]? = some (.o (.il ts))) :
    ∃ l xs, σ[i]? = some (some (.ref l)) ∧ H l = some (.lst xs) ∧ RepTs K H xs ts ∧ (∀ v G1, σ[i]? = some (some v) → Own K H v (.il ts) G1 → v = .ref l ∧ G1 = [l]) := by
  obtain ⟨Gs, hs, nd, fr⟩ := h.ex
  obtain ⟨v, G1, Ga, Gb, e1, o1, eg, put⟩ := hs.get_o e
  obtain ⟨a, xs, rfl, rfl, h1, h2⟩ := own_il o1
  refine ⟨a, xs, e1, h1, h2, fun v G1 e2 o2 => ?_⟩
  rw [e1] at e2
  cases e2
  obtain ⟨b, ys, q1, q2, _⟩ := own_il o2
  cases q1
  exact ⟨rfl, q2⟩
/-- what a method's call with one argument wants of the text -/
structure Cl1 (X : Cx) (x n : Str) (p ap cp : Pos) (e : Expr) : Prop where
  base : attributeBase (.Name x p) n X.env (eval (.Name x p) X.env) = eval (.Name x p) X.env
  few : ((backTo cp (starEach [e] X.env)).all (fun x => !x.1) && (backToKw cp (keywordEach [] X.env)).all (fun x => x.1.isSome)
      && decide (([e] : List Expr).length + ([] : List Keyword).length + (if ([] : List Keyword).isEmpty then 0 else 1) < 30)) = true
  line : (ap.endLine == cp.line) = true
  star : starEach [e] X.env = (false, eval e X.env) :: starEach [] X.env
  plain : (backTo cp (starEach [] X.env)).any (·.1) = false
section
variable {x : Str} {p ap cp : Pos} {e : Expr} {m : ME}
theorem tyL {K : PySem.W.Frag} {H : Hp} {l : Addr} {xs : List V} (h : H l = some (.lst xs)) : tyV K "list" (.ref l) H := .inl ⟨rfl, _, .of h⟩
theorem se_app (i : Nat) (he : RE X W st e m) (c : Cl1 X x "append" p ap cp e := by exact ⟨rfl, rfl, rfl, rfl, rfl⟩) (hN : X.N[i]? = some x := by rfl) (hv : Vis X.env.scope x := by first | exact Or.inl rfl | exact Or.inr (Or.inl rfl) | exact Or.inr (Or.inr rfl)) (hd : (x == ("__debug__" : Str)) = false := by decide)
    (hcd : (x == ("__classdict__" : Str)) = false := by decide)
    (hs : swapsWith (.Call (.Attribute (.Name x p) "append" ap) [e] [] cp) none pos.line X.env = pure false := by rfl) :
    SE X W st (.Expr (.Call (.Attribute (.Name x p) "append" ap) [e] [] cp) pos) (sApp i m) := by
  obtain ⟨t, pe, f⟩ := he
  refine ⟨_, ps_expr (pe_bm PySem.F.plainAttrs_list PySem.F.slot_list_append PySem.F.type_list_append mt_append (pe_var hN hv hd hcd) (pa_cons pe pa_nil c.star) c.base c.few c.line c.star c.plain) hs, fun H0 B Ls S z σ H D h hq => ?_⟩
  unfold sApp at hq
  split at hq
  · rename_i ts es
    obtain ⟨l, xs, e1, h1, h2, own⟩ := get_il h es
    refine ⟨.ref l, e1, tyL h1, ?_⟩
    refine f H0 B Ls [] S z σ H _ h (Cs.go h hq fun y z1 H1 _ x1 hz1 hq1 v hv => ?_)
    have g1 := h.grow x1 hz1
    obtain ⟨l', ys, e2, h3, h4, own2⟩ := get_il g1 es
    rw [e1] at e2
    cases e2
    cases y with
    | im t =>
      dsimp only at hq1
      split at hq1
      · rename_i hl
        cases hv with
        | im hv =>
          refine ⟨l, ys, v, rfl, rfl, h3, by rw [h4.length]; exact hl, ?_⟩
          have le : Le H1 (L2.upd H1 l (.lst (ys ++ [v]))) := Le.upd_lst h3
          exact hq1 σ _ (g1.chg es own2 h3 True.intro True.intro (.il upd_same ((h4.append (.one (repT_hid hv))).mono le)))
      · exact hq1.elim
    | _ => exact hq1.elim
  · exact hq.elim
/-- what extend takes -/
@[simp] def items : Val → Option (List T)
  | .im (.tup ts) => some ts
  | .il ts => some ts
  | _ => none
@[simp] def sExt (i : Nat) (m : ME) : MS := fun S z => match S[i]? with
  | some (.o (.il ts)) => (m S z).go S fun x z => match items x with
    | some us => if ts.length + us.length ≤ sizeLine then .nx (S.set i (.o (.il (ts ++ us)))) z else .no
    | none => .no
  | _ => .no
theorem se_ext (i : Nat) (he : RE X W st e m) (c : Cl1 X x "extend" p ap cp e := by exact ⟨rfl, rfl, rfl, rfl, rfl⟩) (hN : X.N[i]? = some x := by rfl) (hv : Vis X.env.scope x := by first | exact Or.inl rfl | exact Or.inr (Or.inl rfl) | exact Or.inr (Or.inr rfl)) (hd : (x == ("__debug__" : Str)) = false := by decide)
    (hcd : (x == ("__classdict__" : Str)) = false := by decide)
    (hs : swapsWith (.Call (.Attribute (.Name x p) "extend" ap) [e] [] cp) none pos.line X.env = pure false := by rfl) :
    SE X W st (.Expr (.Call (.Attribute (.Name x p) "extend" ap) [e] [] cp) pos) (sExt i m) := by
  obtain ⟨t, pe, f⟩ := he
  refine ⟨_, ps_expr (pe_bm PySem.F.plainAttrs_list PySem.F.slot_list_extend PySem.F.type_list_extend (MtM.or mt_extend mt_extT) (pe_var hN hv hd hcd) (pa_cons pe pa_nil c.star) c.base c.few c.line c.star c.plain) hs, fun H0 B Ls S z σ H D h hq => ?_⟩
  unfold sExt at hq
  split at hq
  · rename_i ts es
    obtain ⟨l, xs, e1, h1, h2, own⟩ := get_il h es
    refine ⟨.ref l, e1, tyL h1, ?_⟩
    refine f H0 B Ls [] S z σ H _ h (Cs.go h hq fun y z1 H1 _ x1 hz1 hq1 v hv => ?_)
    have g1 := h.grow x1 hz1
    obtain ⟨l', ys, e2, h3, h4, own2⟩ := get_il g1 es
    rw [e1] at e2
    cases e2
    have hv := bor_hid hv
    have fin : ∀ (us : List T) (ws : List V), RepTs X.K H1 ws us → items y = some us → ts.length + us.length ≤ sizeLine ∧ D.nx σ (L2.upd H1 l (.lst (ys ++ ws))) := fun us ws r e => by
      rw [e] at hq1
      dsimp only at hq1
      split at hq1
      · rename_i hl
        exact ⟨hl, hq1 σ _ (g1.chg es own2 h3 True.intro True.intro (.il upd_same ((h4.append r).mono (Le.upd_lst h3))))⟩
      · exact hq1.elim
    cases y with
    | im t =>
      cases t with
      | tup us =>
        cases hv with
        | im hv =>
          cases hv with
          | @tup b ws _ s1 s2 =>
            obtain ⟨hl, q⟩ := fin us ws s2 rfl
            exact .inr ⟨l, b, ys, ws, rfl, rfl, h3, s1, by rw [h4.length, s2.length]; exact hl, q⟩
      | _ => exact hq1.elim
    | il us =>
      cases hv with
      | @il b ws _ s1 s2 =>
        obtain ⟨hl, q⟩ := fin us ws s2 rfl
        exact .inl ⟨l, b, ys, ws, rfl, rfl, h3, s1, by rw [h4.length, s2.length]; exact hl, q⟩
    | _ => exact hq1.elim
  · exact hq.elim
end
/-! ### xs[i] = e, d[k] = e -/
def putT {κ : Type} [DecidableEq κ] (kvs : List (κ × T)) (k : κ) (v : T) : List (κ × T) :=
  if (kvs.any fun kv => decide (kv.1 = k)) = true then kvs.map fun kv => if kv.1 = k then (kv.1, v) else kv else kvs ++ [(k, v)]

theorem repK_any {K : PySem.W.Frag} {H : Hp} {κ : Type} [DecidableEq κ] (k : κ) : ∀ {vs : List (κ × V)} {ts : List (κ × T)}, vs.map (·.1) = ts.map (·.1) → (vs.any fun kv => decide (kv.1 = k)) = ts.any fun kv => decide (kv.1 = k) := by
  intro vs ts h
  have a1 : (vs.any fun kv => decide (kv.1 = k)) = (vs.map (·.1)).any fun j => decide (j = k) := by rw [List.any_map]; rfl
  have a2 : (ts.any fun kv => decide (kv.1 = k)) = (ts.map (·.1)).any fun j => decide (j = k) := by rw [List.any_map]; rfl
  rw [a1, a2, h]
theorem repK_put {K : PySem.W.Frag} {H : Hp} {κ : Type} [DecidableEq κ] {k : κ} {v : V} {t : T} (r : RepT K H v t) {vs : List (κ × V)} {ts : List (κ × T)} (h : RepK K H vs ts) : RepK K H (putK vs k v) (putT ts k t) := by
  have ea := repK_any (K := K) (H := H) k h.1
  unfold putK putT
  rw [ea]
  split
  · obtain ⟨h1, h2⟩ := h
    clear ea
    rename_i ht
    clear ht
    induction ts generalizing vs with
    | nil =>
      have : vs = [] := by cases vs; rfl; cases h1
      subst this
      exact ⟨rfl, .nil⟩
    | cons p ts ih =>
      cases vs with
      | nil => cases h1
      | cons q vs =>
        simp only [List.map_cons] at h1 h2
        injection h1 with e1 e2
        cases h2 with
        | cons g1 g2 =>
          obtain ⟨i1, i2⟩ := ih e2 g2
          refine ⟨?_, ?_⟩
          · simp only [List.map_cons]
            rw [i1]
            congr 1
            rw [e1]
            split <;> first | exact e1 | rfl
          · simp only [List.map_cons]
            refine .cons ?_ i2
            rw [e1]
            split
            · exact r
            · exact g1
  · refine ⟨by simp [h.1], ?_⟩
    rw [List.map_append, List.map_append]
    exact h.2.append (.one r)
theorem RepT.set' {K : PySem.W.Frag} {H : Hp} {v : V} {t : T} (r : RepT K H v t) {ts : List T} {vs : List V} (h : RepTs K H vs ts) (i : Nat) : RepTs K H (vs.set i v) (ts.set i t) := RepTs.set r i h
/-- o[i] = v of a list, of a dict of ints and texts -/
def rPut : TSet := fun o i v H Q => rSetL o i v H Q ∨ ∃ a kvs k, o = .ref a ∧ i = kV k ∧ H a = some (.dK kvs) ∧ kvs.length < sizeLine ∧ Q (L2.upd H a (.dK (putK kvs k v)))
theorem set_put (hu : X.A.units + 1 < cLine) : PSet X rPut := by
  intro pins s σ H o i v ov iv u Q I ro ri rv h
  rcases h with h | ⟨a, kvs, k, rfl, rfl, e, hl, q⟩
  · exact set_list pins s σ H o i v ov iv u Q I ro ri rv h
  · cases ro
    exact d_setItem hu I (DPut.k e hl) ri rv fun s' I' => ⟨_, I', q⟩
theorem own_dk {K : PySem.W.Frag} {H : Hp} {v : V} {ts : List (Key × T)} {G : List Addr} (h : Own K H v (.dk ts) G) : ∃ a xs, v = .ref a ∧ G = [a] ∧ H a = some (.dK xs) ∧ RepK K H xs ts := by
  cases h with | dk h g => exact ⟨_, _, rfl, rfl, h, g⟩
theorem get_dk {K : PySem.W.Frag} {H0 B H : Hp} {Ls : List (Option (V × Val))} {G : List Addr} {S : List Sv} {z : Zs} {σ : L2.St} {i : Nat} {ts : List (Key × T)} (h : Stt K st H0 B Ls G S z σ H) (e : S[i]? = some (.o (.dk ts))) :
    ∃ l xs, σ[i]? = some (some (.ref l)) ∧ H l = some (.dK xs) ∧ RepK K H xs ts ∧ (∀ v G1, σ[i]? = some (some v) → Own K H v (.dk ts) G1 → v = .ref l ∧ G1 = [l]) := by
  obtain ⟨Gs, hs, nd, fr⟩ := h.ex
  obtain ⟨v, G1, Ga, Gb, e1, o1, eg, put⟩ := hs.get_o e
  obtain ⟨a, xs, rfl, rfl, h1, h2⟩ := own_dk o1
  refine ⟨a, xs, e1, h1, h2, fun v G1 e2 o2 => ?_⟩
  rw [e1] at e2
  cases e2
  obtain ⟨b, ys, q1, q2, _⟩ := own_dk o2
  cases q1
  exact ⟨rfl, q2⟩
@[simp] def putV (x k v : Val) : Option Val := match x, k, v with
  | .il ts, .im (.int i), .im t => (ixN ts.length i).map fun j => .il (ts.set j t)
  | .dk kvs, .im k, .im t => match k.key? with
    | some k => if kvs.length < sizeLine then some (.dk (putT kvs k t)) else none
    | none => none
  | _, _, _ => none
theorem put_case {xo k v y : Val} (ep : putV xo k v = some y) : (∃ ts n t j, xo = .il ts ∧ k = .im (.int n) ∧ v = .im t ∧ ixN ts.length n = some j ∧ y = .il (ts.set j t)) ∨ ∃ kvs u kk t, xo = .dk kvs ∧ k = .im u ∧ u.key? = some kk ∧ v = .im t ∧ kvs.length < sizeLine ∧ y = .dk (putT kvs kk t) := by
  unfold putV at ep
  split at ep
  · rename_i ts n t
    cases ei : ixN ts.length n with
    | none => rw [ei] at ep; cases ep
    | some j => rw [ei] at ep; cases ep; exact .inl ⟨ts, n, t, j, rfl, rfl, rfl, ei, rfl⟩
  · rename_i kvs u t
    split at ep
    · rename_i kk ek
      split at ep
      · rename_i hl; cases ep; exact .inr ⟨kvs, u, kk, t, rfl, rfl, ek, rfl, hl, rfl⟩
      · cases ep
    · cases ep
  · cases ep
@[simp] def sPut (i : Nat) (mk mv : ME) : MS := fun S z => match S[i]? with
  | some (.o x) => (mv S z).go S fun v z => (mk S z).go S fun k z => match putV x k v with
    | some y => .nx (S.set i (.o y)) z
    | none => .no
  | _ => .no
theorem se_put (i : Nat) {x : Str} {k e : Expr} {mk mv : ME} {p sp : Pos} (hu : X.A.units + 1 < cLine) (hk : RE X W st k mk) (he : RE X W st e mv) (hN : X.N[i]? = some x := by rfl) (hv : Vis X.env.scope x := by first | exact Or.inl rfl | exact Or.inr (Or.inl rfl) | exact Or.inr (Or.inr rfl)) (hd : (x == ("__debug__" : Str)) = false := by decide)
    (hcd : (x == ("__classdict__" : Str)) = false := by decide) (ha : ∀ v, assign (.Subscript (.Name x p) k sp) X.env v = (do
      let ov ← holding [v] (eval (.Name x p) X.env)
      let iv ← holding [v, ov] (eval k X.env)
      standAt sp
      holding [v, ov, iv] (setItem ov iv v)
      release [v, ov, iv] []) := by intro _; rfl)
    (hs : swapsWithSole [.Subscript (.Name x p) k sp] e pos.line X.env = pure false := by rfl) (hw : swappedStores [.Subscript (.Name x p) k sp] e X.env = pure none := by rfl)
    (h1 : (assignEach [.Subscript (.Name x p) k sp] X.env).map (·.2) = [assign (.Subscript (.Name x p) k sp) X.env] := by rfl) :
    SE X W st (.Assign [.Subscript (.Name x p) k sp] e pos) (sPut i mk mv) := by
  obtain ⟨tk, pk, fk⟩ := hk
  obtain ⟨te, pe, fe⟩ := he
  refine ⟨_, ps_asg pe (pg_sub (pe_var hN hv hd hcd) pk (set_put hu) ha) hs hw h1, fun H0 B Ls S z σ H D h hq => ?_⟩
  unfold sPut at hq
  split at hq
  · rename_i xo es
    refine fe H0 B Ls [] S z σ H _ h (Cs.go h hq fun v z1 H1 _ x1 hz1 hq1 vv hvv => ?_)
    have g1 := h.grow x1 hz1
    obtain ⟨Gs, hs1, nd1, fr1⟩ := g1.ex
    obtain ⟨w, G1, Ga, Gb, e1, o1, eg, _⟩ := hs1.get_o es
    refine ⟨w, e1, ?_⟩
    refine fk H0 B Ls [] S z1 σ H1 _ g1 (Cs.go g1 hq1 fun k z2 H2 _ x2 hz2 hq2 vk hvk => ?_)
    have g2 := g1.grow x2 hz2
    have hvv := hvv.mono x2.hid
    cases ep : putV xo k v with
    | none => rw [ep] at hq2; exact hq2.elim
    | some y =>
      rw [ep] at hq2
      rcases put_case ep with ⟨ts, n, t, j, rfl, rfl, rfl, ei, rfl⟩ | ⟨kvs, u, kk, t, rfl, rfl, ek, rfl, hl, rfl⟩
      · obtain ⟨l, ys, e2, h3, h4, own⟩ := get_il g2 es
        rw [e1] at e2
        cases e2
        have := bor_int hvk
        subst this
        cases hvv with
        | im hvv =>
          refine .inl ⟨l, ys, n, j, rfl, rfl, h3, by rw [h4.length]; exact ei, ?_⟩
          exact hq2 σ _ (g2.chg es own h3 True.intro True.intro (.il upd_same (((repT_hid hvv).mono (Le.upd_lst h3)).set' (h4.mono (Le.upd_lst h3)) j)))
      · obtain ⟨l, ys, e2, h3, h4, own⟩ := get_dk g2 es
        rw [e1] at e2
        cases e2
        cases hvk with
        | im hvk =>
          cases hvv with
          | im hvv =>
            have le : Le H2 (L2.upd H2 l (.dK (putK ys kk vv))) := Le.upd_dK h3
            have hlen := congrArg List.length h4.1
            rw [List.length_map, List.length_map] at hlen
            refine .inr ⟨l, ys, kk, rfl, rep_key hvk ek, h3, by rw [hlen]; exact hl, ?_⟩
            exact hq2 σ _ (g2.chg es own h3 True.intro True.intro (.dk upd_same (repK_put ((repT_hid hvv).mono le) (h4.mono le))))
  · exact hq.elim
end
end MM

/-! MI: displays of lists, op=, unpacking, while, for. -/
namespace MM
open PySem PySem.Spec PyProof.Rows L2
section
variable {X : Cx} {W : WX} {st : Option Addr} {pos : Pos}

/-! ### [a, b], {} -/
@[simp] def oLst (xs : List Val) (z : Zs) : Rs Val := match imS xs with
  | some ts => if ts.length ≤ sizeLine then .ok (.il ts) z else .no
  | none => .no
@[simp] def eLst (ms : MAs) : ME := fun S z => (ms S z).bind oLst
theorem fe_lst {es : List Expr} {ms : MAs} (ha : RA X W st es ms) : FE X W st (.List es pos) (eLst ms) := by
  obtain ⟨t, p, f⟩ := ha
  refine ⟨tLst t, pe_lst p, fun H0 B Ls G S z σ H Q h hq => ?_⟩
  refine f H0 B Ls G S z σ H _ h (hq.bind fun xs z1 H1 _ x1 hz1 hq1 vs hvs => ?_)
  unfold oLst at hq1
  split at hq1
  · rename_i ts e
    split at hq1
    · rename_i hl
      have r := imS_rep hvs e
      refine ⟨by rw [r.length]; exact hl, fun p np => ?_⟩
      exact Ct.fin (h.grow x1 hz1) hq1 (v := .ref p) (G' := [p]) (Same.upd_new np) (.il upd_same ((rep_hid r).mono (Le.of_same (Same.upd_new np)))) (by simp) (fun a ha => by simp at ha; subst ha; exact np)
    · exact hq1.elim
  · exact hq1.elim
@[simp] def eDk : ME := fun _ z => .ok (.dk []) z
theorem fe_dk : FE X W st (.Dict [] [] pos) eDk := by
  refine ⟨tDNewK, pe_dnewK, fun H0 B Ls G S z σ H Q h hq p np => ?_⟩
  exact Ct.fin h hq (v := .ref p) (G' := [p]) (Same.upd_new np) (.dk upd_same ⟨rfl, .nil⟩) (by simp) (fun a ha => by simp at ha; subst ha; exact np)
/-- {} whose keys will be tuples -/
@[simp] def eDt : ME := fun _ z => .ok (.dt []) z
theorem fe_dt : FE X W st (.Dict [] [] pos) eDt := by
  refine ⟨tDNewT, pe_dnewT, fun H0 B Ls G S z σ H Q h hq p np => ?_⟩
  exact Ct.fin h hq (v := .ref p) (G' := [p]) (Same.upd_new np) (.dt upd_same ⟨rfl, .nil⟩) (by simp) (fun a ha => by simp at ha; subst ha; exact np)

/-! ### x op= e -/
@[simp] def sAug (o : Val → Val → Option Val) (i : Nat) (m : ME) : MS := fun S z => (eV i S z).go S fun x _ => (m S z).go S fun y z => match o x y with
  | some (.im t) => .nx (S.set i (.o (.im t))) z
  | _ => .no
theorem SlS.val {K : PySem.W.Frag} {B H : Hp} {Ls : List (Option (V × Val))} {S : List Sv} {σ : L2.St} {Gs : List Addr} {i : Nat} {x : Val} {z z' : Zs} (hs : SlS K st B H Ls σ S Gs) (e : eV i S z = .ok x z') : ∃ v, σ[i]? = some (some v) ∧ z' = z ∧ i < S.length ∧ ((S[i]? = some (.b x) ∧ Bor K B v x) ∨ (S[i]? = some (.lk x) ∧ Ls[i]? = some (some (v, x))) ∨ ∃ G1, S[i]? = some (.o x) ∧ Own K H v x G1 ∧ ∀ a ∈ G1, a ∈ Gs) := by
  unfold eV at e
  split at e
  · rename_i y e1; cases e
    obtain ⟨v, g1, g2⟩ := hs.get_b e1
    exact ⟨v, g1, rfl, (List.getElem?_eq_some_iff.mp e1).1, .inl ⟨e1, g2⟩⟩
  · rename_i y e1; cases e
    obtain ⟨v, G1, Ga, Gb, g1, g2, g3, _⟩ := hs.get_o e1
    exact ⟨v, g1, rfl, (List.getElem?_eq_some_iff.mp e1).1, .inr (.inr ⟨G1, e1, g2, fun a ha => by rw [g3]; simp [ha]⟩)⟩
  · rename_i y e1; cases e
    obtain ⟨v, g1, g2⟩ := hs.get_lk e1
    exact ⟨v, g1, rfl, (List.getElem?_eq_some_iff.mp e1).1, .inr (.inl ⟨e1, g2⟩)⟩
  · cases e
theorem Stt.val {K : PySem.W.Frag} {H0 B H : Hp} {Ls : List (Option (V × Val))} {G : List Addr} {S : List Sv} {z z' z2 : Zs} {σ : L2.St} {i : Nat} {x : Val} (h : Stt K st H0 B Ls G S z σ H) (e : eV i S z2 = .ok x z') : ∃ v, σ[i]? = some (some v) ∧ Bor K (hid st H) v x ∧ i < S.length := by
  obtain ⟨Gs, hs, nd, fr⟩ := h.ex
  obtain ⟨v, e1, _, hi, h1 | h1 | ⟨G1, h1⟩⟩ := hs.val e
  · exact ⟨v, e1, h1.2.mono h.fr.hid, hi⟩
  · exact ⟨v, e1, (h.lks i v x h1.2).mono h.bhid, hi⟩
  · exact ⟨v, e1, h.own_bor h1.2.1 fun a ha => h.nst (fr a (List.mem_append_right _ (h1.2.2 a ha))).1, hi⟩
theorem se_aug {op : Operator} {r : R2} {o : Val → Val → Option Val} (i : Nat) {x : Str} {e : Expr} {m : ME} {pos' : Pos} (ho : OpR X (inplaceOp op) r) (sp : Op2 X st r o) (hN : X.N.Nodup) (hi : X.N[i]? = some x) (hx : Loc X.env.scope x) (he : RE X W st e m)
    (hf : X.fn x = true ∨ X.env.scope.names.lookup x = some .local := by first | exact .inl rfl | exact .inr rfl | assumption) : SE X W st (.AugAssign (.Name x pos') op e pos) (sAug o i m) := by
  obtain ⟨t, p, f⟩ := he
  refine ⟨tAug i t r, ps_aug hN hi hx p (fun pins s σ H x y v u Q I rx ry q => ho pins s σ H x y v u Q I rx ry q) hf, fun H0 B Ls S z σ H D h hq => ?_⟩
  unfold sAug at hq
  cases ev : eV i S z with
  | no => rw [ev] at hq; exact hq.elim
  | ex c z1 =>
    exfalso
    unfold eV at ev
    split at ev <;> cases ev
  | ok xv z1 =>
    rw [ev] at hq
    simp only [Rs.go_ok] at hq
    obtain ⟨v, e1, b1, hl⟩ := h.val ev
    refine ⟨v, e1, ?_⟩
    refine f H0 B Ls [] S z σ H _ h (Cs.go h hq fun y z2 H1 _ x1 hz1 hq1 w hw => ?_)
    have g1 := h.grow x1 hz1
    cases eo : o xv y with
    | none => rw [eo] at hq1; exact hq1.elim
    | some u =>
      rw [eo] at hq1
      cases u with
      | im u =>
        refine sp H1 v w xv y _ _ (b1.mono x1.hid) hw eo fun v' H' G' s ow nd fr => ?_
        have g2 := g1.add (G' := G') (.of_same s) (hz1.new s) nd fr ow.there
        exact hq1 _ H' (g2.put ow hl)
      | _ => exact hq1.elim
@[simp] def oAddI (x y : Val) : Option Val := match x, y with
  | .im (.int i), .im (.int j) => some (.im (.int (i + j)))
  | .im (.str i), .im (.str j) => if i.length + j.length ≤ sizeLine then some (.im (.str (i ++ j))) else none
  | _, _ => none
theorem op2_addI : Op2 X st (fun x y H Q => rI0 (fun i j => V.int (i + j)) x y H Q ∨ (∃ i j, x = .str i ∧ y = .str j ∧ i.length + j.length ≤ sizeLine ∧ Q (.str (i ++ j)) H)) oAddI := by
  intro H va vb xa xb y Q ha hb e q
  unfold oAddI at e
  split at e
  · cases e
    exact .inl ⟨_, _, bor_int ha, bor_int hb, q _ H [] (Same.refl H) (.im (.int _)) List.nodup_nil (fun _ z => by cases z)⟩
  · split at e
    · rename_i hl
      cases e
      obtain ⟨rfl, oa⟩ := bor_str ha
      obtain ⟨rfl, ob⟩ := bor_str hb
      exact .inr ⟨_, _, rfl, rfl, hl, q _ H [] (Same.refl H) (.im (.str _ (sOk_append oa ob hl))) List.nodup_nil (fun _ z => by cases z)⟩
    · cases e
  · cases e
section
variable {x : Str} {e : Expr} {m : ME} {pos' : Pos}
theorem se_augAdd (i : Nat) (hN : X.N.Nodup) (hi : X.N[i]? = some x) (hx : Loc X.env.scope x) (he : RE X W st e m) (hf : X.fn x = true ∨ X.env.scope.names.lookup x = some .local := by first | exact .inl rfl | exact .inr rfl | assumption) :
    SE X W st (.AugAssign (.Name x pos') .Add e pos) (sAug oAddI i m) := se_aug i (iop_add.or iop_add_str) op2_addI hN hi hx he hf
abbrev oSub := oII (fun i j => .int (i - j)) fun _ _ => true
theorem se_augSub (i : Nat) (hN : X.N.Nodup) (hi : X.N[i]? = some x) (hx : Loc X.env.scope x) (he : RE X W st e m) (hf : X.fn x = true ∨ X.env.scope.names.lookup x = some .local := by first | exact .inl rfl | exact .inr rfl | assumption) :
    SE X W st (.AugAssign (.Name x pos') .Sub e pos) (sAug oSub i m) := se_aug i iop_sub op2_I0 hN hi hx he hf
end

/-! ### targets -/
abbrev MGt := T → List Sv → Option (List Sv)
def GE (X : Cx) (st : Option Addr) (tg : Expr) (g : MGt) : Prop := ∃ t, PG X tg t ∧ ∀ H0 B Ls S z σ H v u S' (Q : L2.St → Hp → Prop), Stt X.K st H0 B Ls [] S z σ H → RepT X.K H v u → g u S = some S' → (∀ σ', Stt X.K st H0 B Ls [] S' z σ' H → Q σ' H) → t v σ H Q
def GEs (X : Cx) (st : Option Addr) (tg : List Expr) (g : List T → List Sv → Option (List Sv)) : Prop := ∃ t, PGs X tg t ∧ ∀ H0 B Ls S z σ H vs us S' (Q : L2.St → Hp → Prop), Stt X.K st H0 B Ls [] S z σ H → RepTs X.K H vs us → g us S = some S' → (∀ σ', Stt X.K st H0 B Ls [] S' z σ' H → Q σ' H) → t vs σ H Q
@[simp] def gN (i : Nat) : MGt := fun u S => if i < S.length then some (S.set i (.o (.im u))) else none
theorem ge_name (i : Nat) {x : Str} (hN : X.N.Nodup) (hi : X.N[i]? = some x) (hx : Loc X.env.scope x) (hf : X.fn x = true ∨ X.env.scope.names.lookup x = some .local := by first | exact .inl rfl | exact .inr rfl | assumption) : GE X st (.Name x pos) (gN i) := by
  refine ⟨gName i, pg_name hN hi hx hf, fun H0 B Ls S z σ H v u S' Q h r e q => ?_⟩
  unfold gN at e
  split at e
  · rename_i hl
    cases e
    exact q _ (Stt.put (G' := []) (G := []) h (.im r) hl)
  · cases e
@[simp] def gsNil : List T → List Sv → Option (List Sv) := fun us S => match us with
  | [] => some S
  | _ => none
@[simp] def gsCons (g : MGt) (gs : List T → List Sv → Option (List Sv)) : List T → List Sv → Option (List Sv) := fun us S => match us with
  | u :: us => match g u S with
    | some S' => gs us S'
    | none => none
  | [] => none
theorem ges_nil : GEs X st [] gsNil := by
  refine ⟨gNil, pgs_nil, fun H0 B Ls S z σ H vs us S' Q h r e q => ?_⟩
  cases us with
  | nil => cases e; cases r; exact ⟨rfl, q σ h⟩
  | cons u us => cases e
theorem ges_cons {e : Expr} {es : List Expr} {g : MGt} {gs : List T → List Sv → Option (List Sv)} (h1 : GE X st e g) (h2 : GEs X st es gs)
    (hs : (assignEach (e :: es) X.env).map (·.2) = assign e X.env :: (assignEach es X.env).map (·.2) := by rfl) : GEs X st (e :: es) (gsCons g gs) := by
  obtain ⟨t, p, f⟩ := h1
  obtain ⟨ts, ps, fs⟩ := h2
  refine ⟨gCons t ts, pgs_cons p ps hs, fun H0 B Ls S z σ H vs us S' Q h r e q => ?_⟩
  cases us with
  | nil => cases e
  | cons u us =>
    cases r with
    | cons r1 r2 =>
      simp only [gsCons] at e
      split at e
      · rename_i S1 e1
        exact ⟨_, _, rfl, f H0 B Ls S z σ H _ u S1 _ h r1 e1 fun σ1 h1 => fs H0 B Ls S1 z σ1 H _ us S' Q h1 r2 e q⟩
      · cases e
@[simp] def gT (gs : List T → List Sv → Option (List Sv)) : MGt := fun u S => match u with
  | .tup us => gs us S
  | _ => none
theorem gs_len {es : List Expr} {gs : List T → List Sv → Option (List Sv)} : True := trivial
theorem ge_tup {es : List Expr} {k n : Nat} {gs : List T → List Sv → Option (List Sv)} (hc : X.calm = true) (h : GEs X st es gs) (hl : ∀ us S S', gs us S = some S' → us.length = n)
    (hn : (assignEach es X.env).length = n := by rfl) (hst : (assignEach es X.env).findIdx? (·.1) = none := by rfl) : GE X st (.Tuple es k pos) (gT gs) := by
  obtain ⟨t, p, f⟩ := h
  refine ⟨gTup X.K n t, pg_tup hc p hn hst, fun H0 B Ls S z σ H v u S' Q h r e q => ?_⟩
  cases u with
  | tup us =>
    cases r with
    | tup r1 r2 => exact ⟨_, _, rfl, r1, by rw [r2.length]; exact hl us S S' e, f H0 B Ls S z σ H _ us S' Q h r2 e q⟩
  | _ => cases e
/-- a, b = e -/
@[simp] def sAsg (g : MGt) (gl : List T → List Sv → Option (List Sv)) (m : ME) : MS := fun S z => (m S z).go S fun x z => match x with
  | .im u => match g u S with
    | some S' => .nx S' z
    | none => .no
  | .il us => match gl us S with
    | some S' => .nx S' z
    | none => .no
  | _ => .no
theorem se_unp {es : List Expr} {k n : Nat} {tp : Pos} {e : Expr} {gs : List T → List Sv → Option (List Sv)} {m : ME} (hc : X.calm = true) (he : RE X W st e m) (h : GEs X st es gs) (hl : ∀ us S S', gs us S = some S' → us.length = n)
    (hn : (assignEach es X.env).length = n := by rfl) (hst : (assignEach es X.env).findIdx? (·.1) = none := by rfl)
    (hs : swapsWithSole [.Tuple es k tp] e pos.line X.env = pure false := by rfl) (hw : swappedStores [.Tuple es k tp] e X.env = pure none := by rfl)
    (h1 : (assignEach [.Tuple es k tp] X.env).map (·.2) = [assign (.Tuple es k tp) X.env] := by rfl) : SE X W st (.Assign [.Tuple es k tp] e pos) (sAsg (gT gs) gs m) := by
  obtain ⟨t, p, f⟩ := he
  obtain ⟨tg, pg, fg⟩ := h
  have both : PG X (.Tuple es k tp) (fun v σ H Q => gTup X.K n tg v σ H Q ∨ gLst X.K n tg v σ H Q) := ⟨fun pins s σ H v u Q I r q => q.elim ((pg_tup hc pg hn hst).run pins s σ H v u Q I r) ((pg_lst hc pg hn hst).run pins s σ H v u Q I r)⟩
  refine ⟨_, ps_asg p both hs hw h1, fun H0 B Ls S z σ H D h hq => ?_⟩
  refine f H0 B Ls [] S z σ H _ h (Cs.go h hq fun x z1 H1 _ x1 hz1 hq1 v hv => ?_)
  have g1 := h.grow x1 hz1
  have hv := bor_hid hv
  cases x with
  | im u =>
    cases u with
    | tup us =>
      dsimp only [gT] at hq1
      split at hq1
      · rename_i S' e
        cases hv with
        | im hv =>
          cases hv with
          | tup r1 r2 => exact .inl ⟨_, _, rfl, r1, by rw [r2.length]; exact hl us S S' e, fg H0 B Ls S z1 σ H1 _ us S' _ g1 r2 e fun σ' h' => hq1 σ' H1 h'⟩
      · exact hq1.elim
    | _ => exact hq1.elim
  | il us =>
    dsimp only at hq1
    split at hq1
    · rename_i S' e
      cases hv with
      | il r1 r2 => exact .inr ⟨_, _, rfl, .of r1, by rw [r2.length]; exact hl us S S' e, fg H0 B Ls S z1 σ H1 _ us S' _ g1 r2 e fun σ' h' => hq1 σ' H1 h'⟩
    · exact hq1.elim
  | _ => exact hq1.elim

/-! ### while -/
def whN (c : MT) (b : MS) : Nat → MS
  | 0, _, _ => .no
  | n + 1, S, z => (c S z).go S fun k z => if k = true then match b S z with
    | .nx S z => whN c b n S z
    | .ct S z => whN c b n S z
    | .bk S z => .nx S z
    | r => r
    else .nx S z
theorem whN_more {c : MT} {b : MS} : ∀ {n : Nat} {S : List Sv} {z : Zs}, whN c b n S z ≠ .no → whN c b (n + 1) S z = whN c b n S z
  | 0, S, z, h => absurd rfl h
  | n + 1, S, z, h => by
    unfold whN at h ⊢
    cases e : c S z with
    | no => rfl
    | ex d z1 => rfl
    | ok k z1 =>
      rw [e] at h
      simp only [Rs.go_ok] at h ⊢
      cases k with
      | false => rfl
      | true =>
        simp only [if_true] at h ⊢
        cases e2 : b S z1 with
        | nx S2 z2 => rw [e2] at h; exact whN_more h
        | ct S2 z2 => rw [e2] at h; exact whN_more h
        | _ => rfl
theorem whN_ge {c : MT} {b : MS} {n m : Nat} {S : List Sv} {z : Zs} (h : whN c b n S z ≠ .no) (hm : n ≤ m) : whN c b m S z = whN c b n S z := by
  induction m with
  | zero => have : n = 0 := by omega
            subst this; rfl
  | succ m ih =>
    by_cases e : n = m + 1
    · subst e; rfl
    · have := ih (by omega)
      rw [← this]
      exact whN_more (by rw [this]; exact h)
open Classical in
noncomputable def sWh (c : MT) (b : MS) : MS := fun S z => if h : ∃ n, whN c b n S z ≠ .no then whN c b (Classical.choose h) S z else .no
theorem sWh_of {c : MT} {b : MS} {n : Nat} {S : List Sv} {z : Zs} (h : whN c b n S z ≠ .no) : sWh c b S z = whN c b n S z := by
  have hx : ∃ n, whN c b n S z ≠ .no := ⟨n, h⟩
  unfold sWh
  rw [dif_pos hx]
  have q := Classical.choose_spec hx
  rcases Nat.le_total n (Classical.choose hx) with hm | hm
  · exact whN_ge h hm
  · exact (whN_ge q hm).symm
theorem sWh_ex {c : MT} {b : MS} {S : List Sv} {z : Zs} (h : sWh c b S z ≠ .no) : ∃ n, whN c b n S z = sWh c b S z := by
  by_cases hx : ∃ n, whN c b n S z ≠ .no
  · obtain ⟨n, hn⟩ := hx
    exact ⟨n, (sWh_of hn).symm⟩
  · unfold sWh at h
    rw [dif_neg hx] at h
    exact absurd rfl h
/-- one turn -/
theorem sWh_eq (c : MT) (b : MS) (S : List Sv) (z : Zs) : sWh c b S z = (c S z).go S fun k z => if k = true then match b S z with
    | .nx S z => sWh c b S z
    | .ct S z => sWh c b S z
    | .bk S z => .nx S z
    | r => r
    else .nx S z := by
  cases e : c S z with
  | no =>
    by_cases hx : ∃ n, whN c b n S z ≠ .no
    · obtain ⟨n, hn⟩ := hx
      cases n with
      | zero => exact absurd rfl hn
      | succ n => unfold whN at hn; rw [e] at hn; exact absurd rfl hn
    · unfold sWh; rw [dif_neg hx]; rfl
  | ex d z1 =>
    have : whN c b 1 S z = .xc d S z1 := by unfold whN; rw [e]; rfl
    rw [sWh_of (n := 1) (by rw [this]; intro q; cases q), this]; rfl
  | ok k z1 =>
    simp only [Rs.go_ok]
    cases k with
    | false =>
      have : whN c b 1 S z = .nx S z1 := by unfold whN; rw [e]; rfl
      rw [sWh_of (n := 1) (by rw [this]; intro q; cases q), this]; rfl
    | true =>
      simp only [if_true]
      have step : ∀ n, whN c b (n + 1) S z = match b S z1 with
          | .nx S z => whN c b n S z
          | .ct S z => whN c b n S z
          | .bk S z => .nx S z
          | r => r := fun n => by rw [whN, e]; rfl
      have rec2 : ∀ S2 z2, (∀ n, whN c b (n + 1) S z = whN c b n S2 z2) → sWh c b S z = sWh c b S2 z2 := fun S2 z2 hs => by
        by_cases hx : ∃ n, whN c b n S2 z2 ≠ .no
        · obtain ⟨n, hn⟩ := hx
          rw [sWh_of hn, sWh_of (n := n + 1) (by rw [hs]; exact hn), hs]
        · have : ¬ ∃ n, whN c b n S z ≠ .no := fun ⟨n, hn⟩ => by
            cases n with
            | zero => exact hn rfl
            | succ n => exact hx ⟨n, by rw [← hs]; exact hn⟩
          unfold sWh
          rw [dif_neg hx, dif_neg this]
      have fin : ∀ r, r ≠ Ro.no → (∀ n, whN c b (n + 1) S z = r) → sWh c b S z = r := fun r hr hs => by
        rw [sWh_of (n := 1) (by rw [hs]; exact hr), hs]
      cases e2 : b S z1 with
      | nx S2 z2 => exact rec2 S2 z2 fun n => by rw [step, e2]
      | ct S2 z2 => exact rec2 S2 z2 fun n => by rw [step, e2]
      | bk S2 z2 => exact fin _ (by intro q; cases q) fun n => by rw [step, e2]
      | rt x z2 => exact fin _ (by intro q; cases q) fun n => by rw [step, e2]
      | xc d S2 z2 => exact fin _ (by intro q; cases q) fun n => by rw [step, e2]
      | no =>
        have : ¬ ∃ n, whN c b n S z ≠ .no := fun ⟨n, hn⟩ => by
          cases n with
          | zero => exact hn rfl
          | succ n => rw [step, e2] at hn; exact hn rfl
        unfold sWh
        rw [dif_neg this]
theorem se_while {c : Expr} {body : List Stmt} {mc : MT} {mb : MS} (hp : PassesOwn (model X.prog X.w) X.A X.env X.xe) (hc : RT X W st c mc) (hb : SEs X W st body mb) : SE X W st (.While c body [] pos) (sWh mc mb) := by
  obtain ⟨tc, pc, fc⟩ := hc
  obtain ⟨tb, pb, fb⟩ := hb
  refine ⟨tWhile tc tb, ps_while hp pc pb, fun H0 B Ls S z σ H D h hq => ?_⟩
  have ne : sWh mc mb S z ≠ .no := fun q => by rw [q] at hq; exact hq
  obtain ⟨n0, hn0⟩ := sWh_ex ne
  rw [← hn0] at hq
  refine ⟨fun m σ H => ∃ S z, Stt X.K st H0 B Ls [] S z σ H ∧ Cs X W st H0 B Ls D (whN mc mb m S z), ⟨n0, S, z, h, hq⟩, ?_⟩
  rintro m σ1 H1 ⟨S1, z1, h1, q1⟩
  cases m with
  | zero => exact q1.elim
  | succ m =>
    unfold whN at q1
    refine fc H0 B Ls [] S1 z1 σ1 H1 _ h1 (Cs.go h1 q1 fun k z2 H2 _ x2 hz2 hq2 => ?_)
    have g2 := h1.grow x2 hz2
    cases k with
    | false => exact iteF (hq2 σ1 H2 g2)
    | true =>
      refine iteT ⟨fun σ' H' => ∃ S z, Stt X.K st H0 B Ls [] S z σ' H' ∧ Cs X W st H0 B Ls D (whN mc mb m S z), fun σ' H' q => ⟨m, Nat.lt_succ_self m, q⟩, ?_⟩
      refine fb H0 B Ls S1 z2 σ1 H2 _ g2 ?_
      simp only [if_true] at hq2
      cases e2 : mb S1 z2 with
      | nx S2 z3 => rw [e2] at hq2; exact fun σ3 H3 h3 => ⟨S2, z3, h3, hq2⟩
      | ct S2 z3 => rw [e2] at hq2; exact fun σ3 H3 h3 => ⟨S2, z3, h3, hq2⟩
      | bk S2 z3 => rw [e2] at hq2; exact hq2
      | rt x z3 => rw [e2] at hq2; exact hq2
      | xc d S2 z3 => rw [e2] at hq2; exact hq2
      | no => rw [e2] at hq2; exact hq2
end
end MM

/-! MJ: for over lists and tuples, over ranges, two at once. -/
namespace MM
open PySem PySem.Spec PyProof.Rows L2
section
variable {X : Cx} {W : WX} {st : Option Addr} {pos : Pos}
/-- a list or a tuple that is walked -/
def iAny (K : PySem.W.Frag) (tl : TE) : TI := fun σ H R => tl σ H fun x H1 => (∃ a, x = .ref a ∧ (∃ xs, SqL K H1 a xs) ∧ R (Itl K a) H1) ∨ ∃ a, x = .ref a ∧ (∃ xs, SqT K H1 a xs) ∧ R (Itt K a) H1
theorem pi_any {tg l : Expr} {tl : TE} (hl : PE X l tl) : PI X tg l (iAny X.K tl) := by
  refine ⟨fun pins s σ H R I h => ?_⟩
  refine thn (hl.run pins s σ H _ I h) fun v s1 ⟨x, H1, I1, r1, q1⟩ => ?_
  have one : ∀ {b : Addr}, b ∈ [s1.heap.objs.size] → FpOk X pins H1 b := fun {b} hb => by
    have e : b = s1.heap.objs.size := by simpa using hb
    subst e
    exact I1.fpOk (Nat.le_refl _) (I1.hok.fresh (Nat.le_refl _))
  rcases q1 with ⟨a, e, ⟨xs, hq⟩, q⟩ | ⟨a, e, ⟨xs, hq⟩, q⟩
  · subst e
    cases r1
    obtain ⟨its, rv, p, hz⟩ := I1.list hq
    refine wpAny_pyIter_list p.isList ?_
    exact ⟨s1.heap.objs.size, [s1.heap.objs.size], _, _, H1, rfl, I1.kept (t' := s1.toks) fun b o e => Heap.get?_push_of_some _ e, turn_list a _, ⟨_, Heap.get?_push_size _ rfl, rfl, rfl⟩, fun b hb => one hb, q⟩
  · subst e
    cases r1
    obtain ⟨its, rv, p, hz⟩ := I1.tuple hq
    refine wpAny_pyIter_tuple (show s1.heap.IsTuple a its.toArray from p) ?_
    exact ⟨s1.heap.objs.size, [s1.heap.objs.size], _, _, H1, rfl, I1.kept (t' := s1.toks) fun b o e => Heap.get?_push_of_some _ e, turn_tuple a _, ⟨_, Heap.get?_push_size _ rfl, rfl, rfl⟩, fun b hb => one hb, q⟩

/-- the turns -/
@[simp] def sTurns (g : MGt) (body : MS) : List T → MS
  | [], S, z => .nx S z
  | t :: ts, S, z => match g t S with
    | some S1 => match body S1 z with
      | .nx S2 z2 => sTurns g body ts S2 z2
      | .ct S2 z2 => sTurns g body ts S2 z2
      | .bk S2 z2 => .nx S2 z2
      | r => r
    | none => .no
/-- the exit of a loop -/
def Ro.map (f : List Sv → Option (List Sv)) : Ro → Ro
  | .nx S z => match f S with
    | some S => .nx S z
    | none => .no
  | .bk S z => match f S with
    | some S => .bk S z
    | none => .no
  | .ct S z => match f S with
    | some S => .ct S z
    | none => .no
  | .xc c S z => match f S with
    | some S => .xc c S z
    | none => .no
  | .rt x z => .rt x z
  | .no => .no
/-- slot i is walked no more -/
@[simp] def unlk (i : Nat) (S : List Sv) : Option (List Sv) := match S[i]? with
  | some (.lk x) => some (S.set i (.o x))
  | _ => none
/-- over what a slot holds -/
@[simp] def sForV (i : Nat) (g : MGt) (body : MS) : MS := fun S z => match S[i]? with
  | some (.o (.il ts)) => (sTurns g body ts (S.set i (.lk (.il ts))) z).map (unlk i)
  | some (.b (.il ts)) => sTurns g body ts S z
  | some (.lk (.il ts)) => sTurns g body ts S z
  | some (.o (.im (.tup ts))) => sTurns g body ts S z
  | some (.b (.im (.tup ts))) => sTurns g body ts S z
  | some (.lk (.im (.tup ts))) => sTurns g body ts S z
  | _ => .no

/-- one turn's soundness -/
theorem turn_ok {g : MGt} {tG : TG} {tb : TS} {mb : MS} (fg : ∀ H0 B Ls S z σ H v u S' (Q : L2.St → Hp → Prop), Stt X.K st H0 B Ls [] S z σ H → RepT X.K H v u → g u S = some S' → (∀ σ', Stt X.K st H0 B Ls [] S' z σ' H → Q σ' H) → tG v σ H Q)
    (fb : ∀ H0 B Ls S z σ H D, Stt X.K st H0 B Ls [] S z σ H → Cs X W st H0 B Ls D (mb S z) → tb D σ H)
    {H0 B H : Hp} {Ls : List (Option (V × Val))} {S : List Sv} {z : Zs} {σ : L2.St} {v : V} {t : T} {ts : List T} {D : Ends} (h : Stt X.K st H0 B Ls [] S z σ H) (r : RepT X.K H v t) (hq : Cs X W st H0 B Ls D (sTurns g mb (t :: ts) S z)) :
    tG v σ H fun σ2 H2 => tb { D with nx := fun σ' H' => ∃ S z, Stt X.K st H0 B Ls [] S z σ' H' ∧ Cs X W st H0 B Ls D (sTurns g mb ts S z), ct := fun σ' H' => ∃ S z, Stt X.K st H0 B Ls [] S z σ' H' ∧ Cs X W st H0 B Ls D (sTurns g mb ts S z), bk := D.nx } σ2 H2 := by
  unfold sTurns at hq
  split at hq
  · rename_i S1 e1
    refine fg H0 B Ls S z σ H v t S1 _ h r e1 fun σ' h' => ?_
    refine fb H0 B Ls S1 z σ' H _ h' ?_
    cases e2 : mb S1 z with
    | nx S2 z3 => rw [e2] at hq; exact fun σ3 H3 h3 => ⟨S2, z3, h3, hq⟩
    | ct S2 z3 => rw [e2] at hq; exact fun σ3 H3 h3 => ⟨S2, z3, h3, hq⟩
    | bk S2 z3 => rw [e2] at hq; exact hq
    | rt x z3 => rw [e2] at hq; exact hq
    | xc d S2 z3 => rw [e2] at hq; exact hq
    | no => rw [e2] at hq; exact hq
  · exact hq.elim

theorem for_core {g : MGt} {tG : TG} {tb : TS} {mb : MS} (fg : ∀ H0 B Ls S z σ H v u S' (Q : L2.St → Hp → Prop), Stt X.K st H0 B Ls [] S z σ H → RepT X.K H v u → g u S = some S' → (∀ σ', Stt X.K st H0 B Ls [] S' z σ' H → Q σ' H) → tG v σ H Q)
    (fb : ∀ H0 B Ls S z σ H D, Stt X.K st H0 B Ls [] S z σ H → Cs X W st H0 B Ls D (mb S z) → tb D σ H)
    {H0 B H : Hp} {Ls : List (Option (V × Val))} {S : List Sv} {z : Zs} {σ : L2.St} {ts : List T} {D : Ends} {a : Addr} {xs : List V} (tup : Bool) (h : Stt X.K st H0 B Ls [] S z σ H) (len : xs.length = ts.length)
    (hd : ∀ S z σ H, Stt X.K st H0 B Ls [] S z σ H → (if tup then SqT X.K H a xs else SqL X.K H a xs) ∧ RepTs X.K H xs ts) (hq : Cs X W st H0 B Ls D (sTurns g mb ts S z)) :
    ∃ W' : Nat → Nat → L2.St → Hp → Prop, (∃ m, W' 0 m σ H) ∧ ∀ i m σ H, W' i m σ H →
      ((if tup then Itt X.K a else Itl X.K a).stop i H ∧ D.nx σ H) ∨ ((if tup then Itt X.K a else Itl X.K a).go i H ∧ ∃ N : L2.St → Hp → Prop, (∀ σ' H', N σ' H' → ∃ m', m' < m ∧ W' (i + 1) m' σ' H') ∧ ∀ x H', (if tup then Itt X.K a else Itl X.K a).yld i H x H' → tG x σ H' fun σ2 H2 => tb { D with nx := N, ct := N, bk := D.nx } σ2 H2) := by
  have step : ∀ i x σ H, xs[i]? = some x → (∃ S z, Stt X.K st H0 B Ls [] S z σ H ∧ Cs X W st H0 B Ls D (sTurns g mb (ts.drop i) S z)) → tG x σ H fun σ2 H2 => tb { D with nx := fun σ H => ∃ S z, Stt X.K st H0 B Ls [] S z σ H ∧ Cs X W st H0 B Ls D (sTurns g mb (ts.drop (i + 1)) S z), ct := fun σ H => ∃ S z, Stt X.K st H0 B Ls [] S z σ H ∧ Cs X W st H0 B Ls D (sTurns g mb (ts.drop (i + 1)) S z), bk := D.nx } σ2 H2 := by
    rintro i x σ1 H1 ex ⟨S1, z1, h1, q1⟩
    obtain ⟨t, et, rt⟩ := (hd S1 z1 σ1 H1 h1).2.getV ex
    have ed : ts.drop i = t :: ts.drop (i + 1) := by
      obtain ⟨hi, e⟩ := List.getElem?_eq_some_iff.mp et
      rw [List.drop_eq_getElem_cons hi, e]
    rw [ed] at q1
    exact turn_ok fg fb h1 rt q1
  have done : ∀ σ H, (∃ S z, Stt X.K st H0 B Ls [] S z σ H ∧ Cs X W st H0 B Ls D (sTurns g mb (ts.drop xs.length) S z)) → D.nx σ H := by
    rintro σ1 H1 ⟨S1, z1, h1, q1⟩
    rw [len, List.drop_length] at q1
    exact q1 σ1 H1 h1
  cases tup with
  | true =>
    refine for_tup (K := X.K) (a := a) (xs := xs) (fun i σ H => ∃ S z, Stt X.K st H0 B Ls [] S z σ H ∧ Cs X W st H0 B Ls D (sTurns g mb (ts.drop i) S z)) ⟨S, z, h, by simpa using hq⟩ (fun i σ H _ ⟨S, z, h, _⟩ => by simpa using (hd S z σ H h).1) step done
  | false =>
    refine for_list (K := X.K) (a := a) (xs := xs) (fun i σ H => ∃ S z, Stt X.K st H0 B Ls [] S z σ H ∧ Cs X W st H0 B Ls D (sTurns g mb (ts.drop i) S z)) ⟨S, z, h, by simpa using hq⟩ (fun i σ H _ ⟨S, z, h, _⟩ => by simpa using (hd S z σ H h).1) step done
/-- the base with the tuples of H and what stands at Gs -/
noncomputable def Bex (B H : Hp) (Gs : List Addr) : Hp := fun b => if b ∈ Gs then H b else match B b with
  | some o => some o
  | none => match H b with
    | some (.tup xs) => some (.tup xs)
    | some (.frz o (.tup xs)) => some (.frz o (.tup xs))
    | some (.frz o (.lst xs)) => some (.frz o (.lst xs))
    | _ => none
theorem Bex.up {B H : Hp} {Gs : List Addr} (hB : Same B H) : Same B (Bex B H Gs) := fun a o e => by
  unfold Bex
  split
  · exact hB a o e
  · rw [e]
theorem Bex.sub {B H : Hp} {Gs : List Addr} (hB : Same B H) : Same (Bex B H Gs) H := fun a o e => by
  unfold Bex at e
  split at e
  · exact e
  · split at e
    · rename_i u q; cases e; exact hB a _ q
    · split at e
      · rename_i q; cases e; exact q
      · rename_i q; cases e; exact q
      · rename_i q; cases e; exact q
      · cases e
theorem Bex.le {B H : Hp} {Gs : List Addr} (hB : Same B H) : Le H (Bex B H Gs) := by
  refine ⟨fun a xs e => ?_, fun a o xs e => ?_, fun a o xs e => ?_⟩
  · unfold Bex
    split
    · exact e
    · split
      · rename_i u q; have := hB a u q; rw [e] at this; exact this.symm
      · rw [e]
  · unfold Bex
    split
    · exact e
    · split
      · rename_i u q; have := hB a u q; rw [e] at this; exact this.symm
      · rw [e]
  · unfold Bex
    split
    · exact e
    · split
      · rename_i u q; have := hB a u q; rw [e] at this; exact this.symm
      · rw [e]
theorem Bex.in_ {B H : Hp} {Gs : List Addr} {a : Addr} (h : a ∈ Gs) : Bex B H Gs a = H a := by unfold Bex; rw [if_pos h]
theorem Bex.none {B H : Hp} {Gs : List Addr} {a : Addr} {o : HO} (h : a ∉ Gs) (hb : B a = none) (e : H a = some o) (m : Mu o) : Bex B H Gs a = Option.none := by
  unfold Bex
  rw [if_neg h, hb, e]
  cases o <;> first | rfl | exact False.elim m

section
variable {K : PySem.W.Frag} {H0 B H : Hp} {Ls : List (Option (V × Val))} {G : List Addr} {S : List Sv} {z : Zs} {σ : L2.St}
/-- more in the base: the tuples of H, and what stands at the new objects Gx -/
theorem Stt.more {Gx : List Addr} (h : Stt K st H0 B Ls (Gx ++ G) S z σ H) : Stt K st H0 (Bex B H Gx) Ls G S z σ H := by
  obtain ⟨Gs, hs, nd, fr⟩ := h.ex
  have nin : ∀ a ∈ G ++ Gs, a ∉ Gx := fun a ha hx => by
    rw [List.append_assoc] at nd
    exact (List.nodup_append.mp nd).2.2 a hx a ha rfl
  refine ⟨h.fr, h.zr, Bex.sub h.ble, h.z0, fun a e => ?_, fun a ha => h.gt a (List.mem_append_right _ ha), fun j v x e => (h.lks j v x e).mono (Bex.up h.ble), Gs, hs, ?_, fun a ha => ⟨(fr a ?_).1, ?_⟩⟩
  · obtain ⟨l, q, _⟩ := h.zr a e
    exact Bex.none (fun hx => h.nst (fr a (by simp [hx])).1 e) (h.bst a e) q True.intro
  · rw [List.append_assoc] at nd
    exact (List.nodup_append.mp nd).2.1
  · rw [List.append_assoc]; exact List.mem_append_right _ ha
  · have hB := (fr a (by rw [List.append_assoc]; exact List.mem_append_right _ ha)).2
    rcases List.mem_append.mp ha with q | q
    · obtain ⟨o, e, m⟩ := h.gt a (List.mem_append_right _ q)
      exact Bex.none (nin a ha) hB e m
    · obtain ⟨o, e, m⟩ := hs.there a q
      exact Bex.none (nin a ha) hB e m
/-- back to less -/
theorem Stt.less {B' : Hp} (h : Stt K st H0 B' Ls G S z σ H) (hb : Same B B') (lk : ∀ (j : Nat) v x, Ls[j]? = some (some (v, x)) → Bor K B v x) : Stt K st H0 B Ls G S z σ H := by
  have nb : ∀ a, B' a = none → B a = none := fun a e => by
    cases q : B a with
    | none => rfl
    | some o => rw [hb a o q] at e; cases e
  obtain ⟨Gs, hs, nd, fr⟩ := h.ex
  exact ⟨h.fr, h.zr, fun a o e => h.ble a o (hb a o e), h.z0, fun a e => nb a (h.bst a e), h.gt, lk, Gs, hs, nd, fun a ha => ⟨(fr a ha).1, nb a (fr a ha).2⟩⟩
end
theorem Cs.less {H0 B B' : Hp} {Ls : List (Option (V × Val))} {D : Ends} {r : Ro} (hb : Same B B') (lk : ∀ (j : Nat) v x, Ls[j]? = some (some (v, x)) → Bor X.K B v x) (hq : Cs X W st H0 B Ls D r) : Cs X W st H0 B' Ls D r := by
  cases r with
  | nx S z => exact fun σ H h => hq σ H (h.less hb lk)
  | bk S z => exact fun σ H h => hq σ H (h.less hb lk)
  | ct S z => exact fun σ H h => hq σ H (h.less hb lk)
  | xc c S z => exact fun cv d σ H h => hq cv d σ H (h.less hb lk)
  | rt x z => exact fun v H G sx bl => hq v H G sx fun a o e => bl a o (hb a o e)
  | no => exact hq
/-- the tuple that an expression gives -/
@[simp] def sFor (m : ME) (g : MGt) (body : MS) : MS := fun S z => (m S z).go S fun x z => match x with
  | .im (.tup ts) => sTurns g body ts S z
  | .il ts => sTurns g body ts S z
  | _ => .no
theorem se_for {tg iter : Expr} {body : List Stmt} {m : ME} {g : MGt} {mb : MS} (hp : PassesOwn (model X.prog X.w) X.A X.env X.xe) (hc : X.calm = true) (hi : FE X W st iter m) (hg : GE X st tg g) (hb : SEs X W st body mb)
    (hs : ∀ x, foldedSetIterable iter X.env x = pure x := by intro _; rfl) : SE X W st (.For tg iter body [] pos) (sFor m g mb) := by
  obtain ⟨t, p, f⟩ := hi
  obtain ⟨tG, pG, fg⟩ := hg
  obtain ⟨tb, pb, fb⟩ := hb
  refine ⟨_, ps_for hp hc (pi_any p) pG pb hs, fun H0 B Ls S z σ H D h hq => ?_⟩
  refine f H0 B Ls [] S z σ H _ h (Cs.go h hq fun x z1 H1 _ x1 hz1 hq1 v G' ow h1 => ?_)
  have up := Bex.up (Gs := G') h1.ble
  have h2 := h1.more
  have od : Own X.K (Bex B H1 G') v x G' := ow.mono (Bex.le h1.ble) fun a ha o e => by rw [Bex.in_ ha]; exact e
  cases x with
  | im u =>
    cases u with
    | tup ts =>
      cases od with
      | im r =>
        cases r with
        | @tup a xs _ r1 r2 =>
          refine .inr ⟨a, rfl, ⟨xs, (Le.of_same h2.ble).sqt r1⟩, ?_⟩
          exact for_core fg fb true h2 r2.length (fun S z σ H h => ⟨by simpa using (Le.of_same h.ble).sqt r1, r2.mono (Le.of_same h.ble)⟩) (Cs.less up h1.lks hq1)
    | _ => exact hq1.elim
  | il ts =>
    cases od with
    | @il a xs _ r1 r2 =>
      refine .inl ⟨a, rfl, ⟨xs, .of (h2.ble _ _ r1)⟩, ?_⟩
      exact for_core fg fb false h2 r2.length (fun S z σ H h => ⟨by simpa using SqL.of (h.ble _ _ r1), r2.mono (Le.of_same h.ble)⟩) (Cs.less up h1.lks hq1)
  | _ => exact hq1.elim

/-! ### over a slot -/
theorem SlS.setL {K : PySem.W.Frag} {B H : Hp} {Ls : List (Option (V × Val))} {S : List Sv} {σ : L2.St} {i : Nat} {Gs : List Addr} (h : SlS K st B H Ls σ S Gs) (hi : i < S.length) {l : Option (V × Val)} {y : Sv} {w : Option V} {G2 : List Addr} (s : SlS K st B H [l] [w] [y] G2) :
    ∃ Ga Gm Gb, Gs = Ga ++ Gm ++ Gb ∧ SlS K st B H (Ls.set i l) (σ.set i w) (S.set i y) (Ga ++ G2 ++ Gb) := by
  induction h generalizing i with
  | nil => simp at hi
  | un h ih =>
    cases i with
    | zero => exact ⟨[], [], _, by simp; rfl, by simpa using s.put h⟩
    | succ i =>
      obtain ⟨Ga, Gm, Gb, e, q⟩ := ih (i := i) (by simpa using hi)
      exact ⟨Ga, Gm, Gb, e, .un q⟩
  | b h g ih =>
    cases i with
    | zero => exact ⟨[], [], _, by simp; rfl, by simpa using s.put g⟩
    | succ i =>
      obtain ⟨Ga, Gm, Gb, e, q⟩ := ih (i := i) (by simpa using hi)
      exact ⟨Ga, Gm, Gb, e, .b h q⟩
  | @o l0 v0 x0 Ls0 σ0 S0 G0 Gr h g ih =>
    cases i with
    | zero => exact ⟨[], G0, Gr, by simp, by simpa using s.put g⟩
    | succ i =>
      obtain ⟨Ga, Gm, Gb, e, q⟩ := ih (i := i) (by simpa using hi)
      exact ⟨G0 ++ Ga, Gm, Gb, by rw [e]; simp, by simpa using SlS.o (l := l0) h q⟩
  | s h g ih =>
    cases i with
    | zero => exact ⟨[], [], _, by simp; rfl, by simpa using s.put g⟩
    | succ i =>
      obtain ⟨Ga, Gm, Gb, e, q⟩ := ih (i := i) (by simpa using hi)
      exact ⟨Ga, Gm, Gb, e, .s h q⟩
  | lk g ih =>
    cases i with
    | zero => exact ⟨[], [], _, by simp; rfl, by simpa using s.put g⟩
    | succ i =>
      obtain ⟨Ga, Gm, Gb, e, q⟩ := ih (i := i) (by simpa using hi)
      exact ⟨Ga, Gm, Gb, e, .lk q⟩
theorem set_same {α : Type} {l : List α} {i : Nat} {a : α} (e : l[i]? = some a) : l.set i a = l := by
  apply List.ext_getElem?
  intro k
  rw [List.getElem?_set]
  split
  · rename_i c
    subst c
    split
    · exact e.symm
    · rename_i c; rw [List.getElem?_eq_none (by omega)]
  · rfl
/-- an owned slot is walked -/
theorem Stt.lock {K : PySem.W.Frag} {H0 B H : Hp} {Ls : List (Option (V × Val))} {S : List Sv} {z : Zs} {σ : L2.St} {i : Nat} {x : Val} (h : Stt K st H0 B Ls [] S z σ H) (e : S[i]? = some (.o x)) :
    ∃ v Gi, σ[i]? = some (some v) ∧ Own K (Bex B H Gi) v x Gi ∧ Gi.Nodup ∧ (∀ a ∈ Gi, H0 a = none ∧ B a = none) ∧ Stt K st H0 (Bex B H Gi) (Ls.set i (some (v, x))) [] (S.set i (.lk x)) z σ H := by
  obtain ⟨Gs, hs, nd, fr⟩ := h.ex
  obtain ⟨v, Gi, Ga, Gb, e1, o1, eg, put⟩ := hs.get_o e
  rw [List.nil_append] at nd fr
  subst eg
  have od : Own K (Bex B H Gi) v x Gi := o1.mono (Bex.le h.ble) fun a ha o e => by rw [Bex.in_ ha]; exact e
  have put' := put (hid st H0) H (some (v, x)) (.lk x) (some v) [] (fun _ _ q => q) (Le.refl H) (fun _ _ _ q => q) (.lk .nil)
  rw [set_same e1] at put'
  have nd1 := (List.nodup_append.mp nd)
  have nd2 := (List.nodup_append.mp nd1.1)
  have nin : ∀ a ∈ Ga ++ [] ++ Gb, a ∉ Gi := fun a ha hi => by
    simp only [List.append_nil, List.mem_append] at ha
    rcases ha with q | q
    · exact nd2.2.2 a q a hi rfl
    · exact nd1.2.2 a (List.mem_append_right _ hi) a q rfl
  refine ⟨v, Gi, e1, od, nd2.2.1, fun a ha => fr a (by simp [ha]), h.fr, h.zr, Bex.sub h.ble, h.z0, fun a c => ?_, fun a ha => by simp at ha, fun j w y ej => ?_, _, put', ?_, fun a ha => ?_⟩
  · obtain ⟨l, q, _⟩ := h.zr a c
    exact Bex.none (fun hx => h.nst (fr a (by simp [hx])).1 c) (h.bst a c) q True.intro
  · rw [List.getElem?_set] at ej
    split at ej
    · split at ej
      · injection ej with ej
        injection ej with ej
        injection ej with e1 e2
        subst e1 e2
        exact od.bor
      · cases ej
    · exact (h.lks j w y ej).mono (Bex.up h.ble)
  · simp only [List.nil_append, List.append_nil]
    exact nd.sublist (List.Sublist.append_right (List.sublist_append_left Ga Gi) Gb)
  · have ha' : a ∈ Ga ++ Gi ++ Gb := by
      simp only [List.nil_append, List.append_nil, List.mem_append] at ha ⊢
      rcases ha with q | q
      · exact .inl (.inl q)
      · exact .inr q
    obtain ⟨o, q, m⟩ := hs.there a ha'
    exact ⟨(fr a ha').1, Bex.none (nin a (by simpa using ha)) (fr a ha').2 q m⟩
/-- and no more -/
theorem Stt.unlock {K : PySem.W.Frag} {H0 B B' H : Hp} {Ls : List (Option (V × Val))} {S : List Sv} {z : Zs} {σ : L2.St} {i : Nat} {v : V} {x y : Val} {Gi : List Addr} (h : Stt K st H0 B' (Ls.set i (some (v, x))) [] S z σ H) (e : S[i]? = some (.lk y)) (hb : Same B B')
    (lk : ∀ (j : Nat) v x, Ls[j]? = some (some (v, x)) → Bor K B v x) (hl : i < Ls.length) (od : Own K B' v x Gi) (nd : Gi.Nodup) (fr : ∀ a ∈ Gi, H0 a = none ∧ B a = none) : y = x ∧ Stt K st H0 B Ls [] (S.set i (.o x)) z σ H := by
  obtain ⟨Gs, hs, nds, frs⟩ := h.ex
  obtain ⟨w, e1, e2⟩ := hs.get_lk e
  rw [List.getElem?_set_self hl] at e2
  injection e2 with e2
  injection e2 with e2
  injection e2 with e2 e3
  subst e2 e3
  refine ⟨rfl, ?_⟩
  have ow : Own K H v x Gi := od.mono (Le.of_same h.ble) fun a _ o q => h.ble a o q
  obtain ⟨Ga, Gm, Gb, eg, q⟩ := hs.setL (i := i) (List.getElem?_eq_some_iff.mp e).1 (l := Ls[i]) (y := .o x) (w := some v) (G2 := Gi ++ []) (.o ow .nil)
  rw [set_same e1, List.set_set, List.append_nil] at q
  have el : Ls.set i Ls[i] = Ls := by simp
  rw [el] at q
  subst eg
  rw [List.nil_append] at nds frs
  have dj : ∀ a ∈ Ga ++ Gm ++ Gb, a ∉ Gi := fun a ha hi => by
    obtain ⟨o, c, _⟩ := od.there a hi
    rw [(frs a ha).2] at c; cases c
  have nb : ∀ a, B' a = none → B a = none := fun a e => by
    cases q : B a with
    | none => rfl
    | some o => rw [hb a o q] at e; cases e
  refine ⟨h.fr, h.zr, fun a o e => h.ble a o (hb a o e), h.z0, fun a e => nb a (h.bst a e), fun a ha => by simp at ha, lk, _, q, ?_, fun a ha => ?_⟩
  · rw [List.nil_append]
    refine nodup_mid (Gm := Gm) ?_
    refine List.nodup_append.mpr ⟨nd, nds, fun a ha b hb e => ?_⟩
    subst e
    exact dj a hb ha
  · simp only [List.nil_append, List.mem_append] at ha
    rcases ha with (q | q) | q
    · have := frs a (by simp [q]); exact ⟨this.1, nb a this.2⟩
    · exact fr a q
    · have := frs a (by simp [q]); exact ⟨this.1, nb a this.2⟩
theorem unlk_some {i : Nat} {S S' : List Sv} (h : unlk i S = some S') : ∃ x, S[i]? = some (.lk x) ∧ S' = S.set i (.o x) := by
  unfold unlk at h
  split at h
  · cases h; exact ⟨_, by assumption, rfl⟩
  · cases h
theorem Cs.unlock {H0 B B' : Hp} {Ls : List (Option (V × Val))} {D : Ends} {r : Ro} {i : Nat} {v : V} {x : Val} {Gi : List Addr} (hb : Same B B') (lk : ∀ (j : Nat) v x, Ls[j]? = some (some (v, x)) → Bor X.K B v x) (hl : i < Ls.length) (od : Own X.K B' v x Gi) (nd : Gi.Nodup) (fr : ∀ a ∈ Gi, H0 a = none ∧ B a = none)
    (hq : Cs X W st H0 B Ls D (r.map (unlk i))) : Cs X W st H0 B' (Ls.set i (some (v, x))) D r := by
  have go : ∀ {S : List Sv} {z : Zs} {σ : L2.St} {H : Hp} {S' : List Sv}, unlk i S = some S' → Stt X.K st H0 B' (Ls.set i (some (v, x))) [] S z σ H → Stt X.K st H0 B Ls [] S' z σ H := fun {S z σ H S'} e h => by
    obtain ⟨y, e1, rfl⟩ := unlk_some e
    obtain ⟨rfl, q⟩ := h.unlock e1 hb lk hl od nd fr
    exact q
  cases r with
  | nx S z =>
    cases e : unlk i S with
    | none => simp only [Ro.map, e] at hq; exact hq.elim
    | some S' => simp only [Ro.map, e] at hq; exact fun σ H h => hq σ H (go e h)
  | bk S z =>
    cases e : unlk i S with
    | none => simp only [Ro.map, e] at hq; exact hq.elim
    | some S' => simp only [Ro.map, e] at hq; exact fun σ H h => hq σ H (go e h)
  | ct S z =>
    cases e : unlk i S with
    | none => simp only [Ro.map, e] at hq; exact hq.elim
    | some S' => simp only [Ro.map, e] at hq; exact fun σ H h => hq σ H (go e h)
  | xc c S z =>
    cases e : unlk i S with
    | none => simp only [Ro.map, e] at hq; exact hq.elim
    | some S' => simp only [Ro.map, e] at hq; exact fun cv d σ H h => hq cv d σ H (go e h)
  | rt x z => exact fun v H G sx bl => hq v H G sx fun a o e => bl a o (hb a o e)
  | no => exact hq
theorem se_forV (i : Nat) {x : Str} {xp : Pos} {tg : Expr} {body : List Stmt} {g : MGt} {mb : MS} (hp : PassesOwn (model X.prog X.w) X.A X.env X.xe) (hc : X.calm = true) (hg : GE X st tg g) (hb : SEs X W st body mb)
    (hN : X.N[i]? = some x := by rfl) (hv : Vis X.env.scope x := by first | exact Or.inl rfl | exact Or.inr (Or.inl rfl) | exact Or.inr (Or.inr rfl)) (hd : (x == ("__debug__" : Str)) = false := by decide) (hcd : (x == ("__classdict__" : Str)) = false := by decide)
    (hs : ∀ y, foldedSetIterable (.Name x xp) X.env y = pure y := by intro _; rfl) : SE X W st (.For tg (.Name x xp) body [] pos) (sForV i g mb) := by
  obtain ⟨tG, pG, fg⟩ := hg
  obtain ⟨tb, pb, fb⟩ := hb
  refine ⟨_, ps_for hp hc (pi_any (pe_var hN hv hd hcd)) pG pb hs, fun H0 B Ls S z σ H D h hq => ?_⟩
  have tupc : ∀ {ts : List T} {v : V}, σ[i]? = some (some v) → RepT X.K H v (.tup ts) → Cs X W st H0 B Ls D (sTurns g mb ts S z) → tFor (iAny X.K (tVar i)) tG tb D σ H := fun {ts v} e1 r q => by
    have h2 := Stt.more (Gx := []) (by simpa using h)
    have r' := r.mono (Bex.le (Gs := []) h.ble)
    cases r' with
    | @tup a xs _ r1 r2 =>
      refine ⟨.ref a, e1, .inr ⟨a, rfl, ⟨xs, (Le.of_same h2.ble).sqt r1⟩, ?_⟩⟩
      exact for_core fg fb true h2 r2.length (fun S z σ H h => ⟨by simpa using (Le.of_same h.ble).sqt r1, r2.mono (Le.of_same h.ble)⟩) (Cs.less (Bex.up h.ble) h.lks q)
  obtain ⟨Gs, hsl, nd, fr⟩ := h.ex
  unfold sForV at hq
  split at hq
  · rename_i ts e
    obtain ⟨v, Gi, e1, od, ndi, fri, h2⟩ := h.lock e
    have hl : i < Ls.length := by rw [hsl.lengthL]; exact (List.getElem?_eq_some_iff.mp e).1
    have hq2 := Cs.unlock (Bex.up h.ble) h.lks hl od ndi fri hq
    cases od with
    | @il a xs _ r1 r2 =>
      refine ⟨.ref a, e1, .inl ⟨a, rfl, ⟨xs, .of (h2.ble _ _ r1)⟩, ?_⟩⟩
      exact for_core fg fb false h2 r2.length (fun S z σ H h => ⟨by simpa using SqL.of (h.ble _ _ r1), r2.mono (Le.of_same h.ble)⟩) hq2
  · rename_i ts e
    obtain ⟨v, e1, bw⟩ := hsl.get_b e
    cases bw with
    | @il a xs _ r1 r2 =>
      have up : ∀ {S z σ H}, Stt X.K st H0 B Ls [] S z σ H → Same (hid st H0) H := fun {S z σ H} h a o q => hid_same st H a o (h.fr.hid a o q)
      refine ⟨.ref a, e1, .inl ⟨a, rfl, ⟨xs, .of (up h _ _ r1)⟩, ?_⟩⟩
      exact for_core fg fb false h r2.length (fun S z σ H h => ⟨by simpa using SqL.of (up h _ _ r1), r2.mono (Le.of_same (up h))⟩) hq
  · rename_i ts e
    obtain ⟨v, e1, el⟩ := hsl.get_lk e
    cases h.lks i v _ el with
    | @il a xs _ r1 r2 =>
      refine ⟨.ref a, e1, .inl ⟨a, rfl, ⟨xs, .of (h.ble _ _ r1)⟩, ?_⟩⟩
      exact for_core fg fb false h r2.length (fun S z σ H h => ⟨by simpa using SqL.of (h.ble _ _ r1), r2.mono (Le.of_same h.ble)⟩) hq
  · rename_i ts e
    obtain ⟨v, G1, Ga, Gb, e1, ow, _⟩ := hsl.get_o e
    cases ow with
    | im r => exact tupc e1 r hq
  · rename_i ts e
    obtain ⟨v, e1, bw⟩ := hsl.get_b e
    cases bw with
    | im r => exact tupc e1 ((r.mono (Le.of_same h.fr.hid)).mono (Le.of_same (hid_same st H))) hq
  · rename_i ts e
    obtain ⟨v, e1, el⟩ := hsl.get_lk e
    cases h.lks i v _ el with
    | im r => exact tupc e1 (r.mono (Le.of_same h.ble)) hq
  · exact hq.elim
end
end MM

/-! MK: ranges, comprehensions. -/
namespace MM
open PySem PySem.Spec PyProof.Rows L2
section
variable {X : Cx} {W : WX} {st : Option Addr} {pos : Pos}
def rngI (lo : Int) (n : Nat) : List T := (List.range n).map fun (i : Nat) => T.int (lo + i)
/-- by a shift: a comparison with so great a number makes the kernel unfold it one by one, where the bound is a length -/
def inR (i : Int) : Bool := match i with
  | .ofNat n => Nat.beq (n >>> 62) 0
  | .negSucc n => Nat.beq (n >>> 62) 0
theorem shr_lt {n : Nat} : Nat.beq (n >>> 62) 0 = true ↔ n < 2 ^ 62 := by
  rw [Nat.beq_eq, Nat.shiftRight_eq_div_pow]
  constructor
  · intro h; omega
  · intro h; exact Nat.div_eq_of_lt h
theorem inR_ok {i : Int} (h : inR i = true) : -(2 ^ 62) ≤ i ∧ i < 2 ^ 62 := by
  unfold inR at h
  split at h
  · have := shr_lt.mp h
    simp only [Int.ofNat_eq_natCast]
    omega
  · have := shr_lt.mp h
    omega
theorem inR_iff {i : Int} (h : -(2 ^ 62) ≤ i) (g : i < 2 ^ 62) : inR i = true := by
  unfold inR
  split
  · refine shr_lt.mpr ?_
    simp only [Int.ofNat_eq_natCast] at g
    omega
  · refine shr_lt.mpr ?_
    omega
/-- the ints of a range -/
@[simp] def rngT1 (xs : List Val) : Option (List T) := match xs with
  | [.im (.int j)] => bif inR j then some (rngI 0 j.toNat) else none
  | _ => none
@[simp] def rngT2 (xs : List Val) : Option (List T) := match xs with
  | [.im (.int i), .im (.int j)] => bif inR i && inR j then some (rngI i (j - i).toNat) else none
  | _ => none
@[simp] def sRng (r : List Val → Option (List T)) (ms : MAs) (g : MGt) (body : MS) : MS := fun S z => (ms S z).go S fun xs z => match r xs with
  | some ts => sTurns g body ts S z
  | none => .no
theorem rngI_drop {lo : Int} {n i : Nat} (h : i < n) : (rngI lo n).drop i = .int (lo + i) :: (rngI lo n).drop (i + 1) := by
  have e : (rngI lo n)[i]? = some (.int (lo + i)) := by
    unfold rngI
    rw [List.getElem?_map, List.getElem?_range h]
    rfl
  obtain ⟨hl, e2⟩ := List.getElem?_eq_some_iff.mp e
  rw [List.drop_eq_getElem_cons hl, e2]
theorem rng_core {g : MGt} {tG : TG} {tb : TS} {mb : MS} (fg : ∀ H0 B Ls S z σ H v u S' (Q : L2.St → Hp → Prop), Stt X.K st H0 B Ls [] S z σ H → RepT X.K H v u → g u S = some S' → (∀ σ', Stt X.K st H0 B Ls [] S' z σ' H → Q σ' H) → tG v σ H Q)
    (fb : ∀ H0 B Ls S z σ H D, Stt X.K st H0 B Ls [] S z σ H → Cs X W st H0 B Ls D (mb S z) → tb D σ H)
    {H0 B H : Hp} {Ls : List (Option (V × Val))} {S : List Sv} {z : Zs} {σ : L2.St} {D : Ends} {lo : Int} {n : Nat} (h : Stt X.K st H0 B Ls [] S z σ H) (hq : Cs X W st H0 B Ls D (sTurns g mb (rngI lo n) S z)) :
    ∃ W' : Nat → Nat → L2.St → Hp → Prop, (∃ m, W' 0 m σ H) ∧ ∀ i m σ H, W' i m σ H →
      ((Itr lo n).stop i H ∧ D.nx σ H) ∨ ((Itr lo n).go i H ∧ ∃ N : L2.St → Hp → Prop, (∀ σ' H', N σ' H' → ∃ m', m' < m ∧ W' (i + 1) m' σ' H') ∧ ∀ x H', (Itr lo n).yld i H x H' → tG x σ H' fun σ2 H2 => tb { D with nx := N, ct := N, bk := D.nx } σ2 H2) := by
  refine for_range (fun i σ H => ∃ S z, Stt X.K st H0 B Ls [] S z σ H ∧ Cs X W st H0 B Ls D (sTurns g mb ((rngI lo n).drop i) S z)) ⟨S, z, h, by simpa using hq⟩ (fun i σ1 H1 hi ⟨S1, z1, h1, q1⟩ => ?_) (fun σ1 H1 ⟨S1, z1, h1, q1⟩ => ?_)
  · rw [rngI_drop hi] at q1
    exact turn_ok fg fb h1 (.int _) q1
  · rw [List.drop_eq_nil_of_le (by unfold rngI; simp)] at q1
    exact q1 σ1 H1 h1
theorem rng_one {ms : List Val} {vs : List V} {K : PySem.W.Frag} {H : Hp} {ts : List T} (hv : BorS K H vs ms) (e : rngT1 ms = some ts) : ∃ j, vs = [.int j] ∧ inR j = true ∧ ts = rngI 0 j.toNat := by
  unfold rngT1 at e
  split at e
  · rename_i j
    cases c : inR j with
    | true =>
      rw [c] at e; cases e
      obtain ⟨v, rfl, h⟩ := hv.one
      rw [bor_int h]
      exact ⟨_, rfl, c, rfl⟩
    | false => rw [c] at e; cases e
  · cases e
theorem rng_two {ms : List Val} {vs : List V} {K : PySem.W.Frag} {H : Hp} {ts : List T} (hv : BorS K H vs ms) (e : rngT2 ms = some ts) : ∃ i j, vs = [.int i, .int j] ∧ inR i = true ∧ inR j = true ∧ ts = rngI i (j - i).toNat := by
  unfold rngT2 at e
  split at e
  · rename_i i j
    cases c : inR i && inR j with
    | true =>
      rw [c] at e; cases e
      obtain ⟨v, w, rfl, h, g⟩ := hv.two
      rw [bor_int h, bor_int g]
      simp only [Bool.and_eq_true] at c
      exact ⟨_, _, rfl, c.1, c.2, rfl⟩
    | false => rw [c] at e; cases e
  · cases e
theorem se_rng1 {tg a : Expr} {body : List Stmt} {ms : MAs} {g : MGt} {mb : MS} {p rp : Pos} (hp : PassesOwn (model X.prog X.w) X.A X.env X.xe) (hc : X.calm = true) (hgl : Gl X "range") (hm : X.mg "range" = none) (ha : RA X W st [a] ms) (hg : GE X st tg g) (hb : SEs X W st body mb)
    (hs : starEach [a] X.env = [(false, eval a X.env)] := by rfl) (hf : ∀ x, foldedSetIterable (.Call (.Name "range" p) [a] [] rp) X.env x = pure x := by intro _; rfl) : SE X W st (.For tg (.Call (.Name "range" p) [a] [] rp) body [] pos) (sRng rngT1 ms g mb) := by
  obtain ⟨t, pa, f⟩ := ha
  obtain ⟨tG, pG, fg⟩ := hg
  obtain ⟨tb, pb, fb⟩ := hb
  refine ⟨_, ps_for hp hc (pi_range1 hgl hm pa hs) pG pb hf, fun H0 B Ls S z σ H D h hq => ?_⟩
  refine f H0 B Ls [] S z σ H _ h (Cs.go h hq fun xs z1 H1 _ x1 hz1 hq1 vs hvs => ?_)
  cases e : rngT1 xs with
  | none => rw [e] at hq1; exact hq1.elim
  | some ts =>
    rw [e] at hq1
    obtain ⟨j, rfl, c, rfl⟩ := rng_one hvs e
    obtain ⟨c1, c2⟩ := inR_ok c
    exact ⟨j, rfl, c1, c2, rng_core fg fb (h.grow x1 hz1) hq1⟩
theorem se_rng2 {tg a b : Expr} {body : List Stmt} {ms : MAs} {g : MGt} {mb : MS} {p rp : Pos} (hp : PassesOwn (model X.prog X.w) X.A X.env X.xe) (hc : X.calm = true) (hgl : Gl X "range") (hm : X.mg "range" = none) (ha : RA X W st [a, b] ms) (hg : GE X st tg g) (hb : SEs X W st body mb)
    (hs : starEach [a, b] X.env = [(false, eval a X.env), (false, eval b X.env)] := by rfl) (hs2 : starEach [b] X.env = [(false, eval b X.env)] := by rfl) (hf : ∀ x, foldedSetIterable (.Call (.Name "range" p) [a, b] [] rp) X.env x = pure x := by intro _; rfl) :
    SE X W st (.For tg (.Call (.Name "range" p) [a, b] [] rp) body [] pos) (sRng rngT2 ms g mb) := by
  obtain ⟨t, pa, f⟩ := ha
  obtain ⟨tG, pG, fg⟩ := hg
  obtain ⟨tb, pb, fb⟩ := hb
  refine ⟨_, ps_for hp hc (pi_range2 hgl hm pa hs hs2) pG pb hf, fun H0 B Ls S z σ H D h hq => ?_⟩
  refine f H0 B Ls [] S z σ H _ h (Cs.go h hq fun xs z1 H1 _ x1 hz1 hq1 vs hvs => ?_)
  cases e : rngT2 xs with
  | none => rw [e] at hq1; exact hq1.elim
  | some ts =>
    rw [e] at hq1
    obtain ⟨i, j, rfl, c, d, rfl⟩ := rng_two hvs e
    obtain ⟨c1, c2⟩ := inR_ok c
    obtain ⟨d1, d2⟩ := inR_ok d
    exact ⟨i, j, rfl, ⟨c1, c2, d1, d2⟩, rng_core fg fb (h.grow x1 hz1) hq1⟩

/-! ### comprehensions: [e for x in .. if c], one name -/
/-- slot j is free within -/
def wipS (j : Nat) (S : List Sv) : List Sv := S.set j .un
/-- the turns: S0 the frame with slot j free, acc what is made so far -/
def lcT (j : Nat) (c : MT) (m : ME) (S0 : List Sv) : List T → List T → Zs → Rs Val
  | [], acc, z => .ok (.il acc) z
  | t :: ts, acc, z => if j < S0.length then match c (S0.set j (.o (.im t))) z with
    | .ok true z => match m (S0.set j (.o (.im t))) z with
      | .ok (.im u) z => if acc.length < sizeLine then lcT j c m S0 ts (acc ++ [u]) z else .no
      | _ => .no
    | .ok false z => lcT j c m S0 ts acc z
    | _ => .no
    else .no
@[simp] def tYs : MT := fun _ z => .ok true z
def RTs (X : Cx) (W : WX) (st : Option Addr) (es : List Expr) (m : MT) : Prop := ∃ t, PTs X es t ∧ ∀ H0 B Ls G S z σ H Q, Stt X.K st H0 B Ls G S z σ H → Ct X W st σ H (m S z) (fun x z' H' => Q x H') → t σ H Q
theorem rts_nil : RTs X W st [] tYs := ⟨tYes, pts_nil, fun H0 B Ls G S z σ H Q h hq => hq.ok h.zr⟩
theorem rts_one {c : Expr} {m : MT} (h : RT X W st c m) : RTs X W st [c] m := let ⟨t, p, f⟩ := h; ⟨t, pts_one p, f⟩
abbrev W0 : WX := fun _ _ _ _ => False
theorem SlS.free {K : PySem.W.Frag} {B H : Hp} {Ls : List (Option (V × Val))} {S : List Sv} {σ : L2.St} {i : Nat} {Gs : List Addr} (h : SlS K st B H Ls σ S Gs) {w : Option V} (hi : i < S.length) : ∃ Ga Gm Gb, Gs = Ga ++ Gm ++ Gb ∧ SlS K st B H Ls (σ.set i w) (S.set i .un) (Ga ++ Gb) := by
  obtain ⟨Ga, Gm, Gb, e, q⟩ := h.set hi (y := .un) (w := w) (G2 := []) fun l => .un .nil
  exact ⟨Ga, Gm, Gb, e, by simpa using q⟩

/-- the block's context -/
abbrev Bk (X : Cx) (scope : Scope) (s : Shared) (H : Hp) (C : Addr) (cl : List (Str × Addr)) (fp : List Addr) : Cx := X.blk s H scope (compEnvC scope cl C X.env) fp
theorem re_uni {scope : Scope} {e : Expr} {m : ME} (h : ∀ s H C cl fp, RE (Bk X scope s H C cl fp) W0 st e m) : ∃ t, (∀ s H C cl fp, PE (Bk X scope s H C cl fp) e t) ∧ ∀ H0 B Ls G S z σ H Q, Stt X.K st H0 B Ls G S z σ H →
    Ct X W0 st σ H (m S z) (fun x z' H' => ∀ v, Bor X.K (hid st H') v x → Q v H') → t σ H Q := by
  refine ⟨fun σ H Q => ∀ s H' C cl fp, Classical.choose (h s H' C cl fp) σ H Q, fun s H C cl fp => ?_, fun H0 B Ls G S z σ H Q hs hq s H' C cl fp => ?_⟩
  · exact ⟨fun pins s' σ H' Q I hw => (Classical.choose_spec (h s H C cl fp)).1.run pins s' σ H' Q I (hw s H C cl fp)⟩
  · exact (Classical.choose_spec (h s H' C cl fp)).2 H0 B Ls G S z σ H Q hs hq
theorem rts_uni {scope : Scope} {es : List Expr} {m : MT} (h : ∀ s H C cl fp, RTs (Bk X scope s H C cl fp) W0 st es m) : ∃ t, (∀ s H C cl fp, PTs (Bk X scope s H C cl fp) es t) ∧ ∀ H0 B Ls G S z σ H Q, Stt X.K st H0 B Ls G S z σ H →
    Ct X W0 st σ H (m S z) (fun x z' H' => Q x H') → t σ H Q := by
  refine ⟨fun σ H Q => ∀ s H' C cl fp, Classical.choose (h s H' C cl fp) σ H Q, fun s H C cl fp => ?_, fun H0 B Ls G S z σ H Q hs hq s H' C cl fp => ?_⟩
  · exact ⟨fun pins s' σ H' Q I hw => (Classical.choose_spec (h s H C cl fp)).1.run pins s' σ H' Q I (hw s H C cl fp)⟩
  · exact (Classical.choose_spec (h s H' C cl fp)).2 H0 B Ls G S z σ H Q hs hq
/-- an object on its way is changed -/
theorem Stt.chgG {K : PySem.W.Frag} {H0 B H : Hp} {Ls : List (Option (V × Val))} {G : List Addr} {S : List Sv} {z : Zs} {σ : L2.St} {l : Addr} {o u : HO} (h : Stt K st H0 B Ls (l :: G) S z σ H) (hu : H l = some u) (mu : Mu u) (mo : Mu o) : Stt K st H0 B Ls (l :: G) S z σ (L2.upd H l o) := by
  obtain ⟨Gs, hs, nd, fr⟩ := h.ex
  have fl := fr l (by simp)
  obtain ⟨sx, zr⟩ := SameX.upd h o fl.1
  have nd2 := (List.nodup_cons.mp nd).1
  refine ⟨sx, zr, fun a u' q => ?_, h.z0, h.bst, fun a ha => ?_, h.lks, Gs, ?_, nd, fr⟩
  · rw [upd_ne (ne_of_none q fl.2)]; exact h.ble a u' q
  · by_cases c : a = l
    · subst c; exact ⟨o, upd_same, mo⟩
    · rw [upd_ne c]; exact h.gt a ha
  · exact hs.mono (Le.upd_mu hu mu) fun a ha u' q => by
      rw [upd_ne (fun c => nd2 (by subst c; exact List.mem_append_right _ ha))]; exact q
/-- a slot within a block -/
theorem Stt.slot {K : PySem.W.Frag} {H0 B H : Hp} {Ls : List (Option (V × Val))} {G : List Addr} {S : List Sv} {z : Zs} {σ : L2.St} {j : Nat} {v : V} {t : T} (h : Stt K st H0 B Ls G S z σ H) (hj : j < S.length) (r : RepT K H v t) : Stt K st H0 B Ls G ((S.set j .un).set j (.o (.im t))) z ((σ.set j none).set j (some v)) H := by
  rw [List.set_set, List.set_set]
  exact Stt.put (G' := []) h (.im r) hj
/-- what the block is wanted to give -/
def LcK (K : PySem.W.Frag) (st : Option Addr) (H0 B : Hp) (Ls : List (Option (V × Val))) (G : List Addr) (S : List Sv) (σ : L2.St) (D : Addr) (Q : VK) : Rs Val → Prop
  | .ok (.il acc) z => ∀ H av, Stt K st H0 B Ls (D :: G) S z σ H → H D = some (.lst av) → RepTs K H av acc → Q (.ref D) H
  | _ => False
structure LcP (X : Cx) (st : Option Addr) (H0 B : Hp) (Ls : List (Option (V × Val))) (G : List Addr) (S : List Sv) (σ : L2.St) (D : Addr) (Q : VK) (j : Nat) (c : MT) (m : ME) (H1 : Hp) (ts : List T) (H : Hp) (z : Zs) (acc : List T) (av : List V) : Prop where
  s : Stt X.K st H0 B Ls (D :: G) S z σ H
  d : H D = some (.lst av)
  r : RepTs X.K H av acc
  k : ∀ a o, st ≠ some a → a ≠ D → H1 a = some o → H a = some o
  q : LcK X.K st H0 B Ls G S σ D Q (lcT j c m (wipS j S) ts acc z)
theorem lc_turn {j : Nat} {c : MT} {m : ME} {tt : TT} {te : TE}
    (fc : ∀ H0 B Ls G S z σ H Q, Stt X.K st H0 B Ls G S z σ H → Ct X W0 st σ H (c S z) (fun x z' H' => Q x H') → tt σ H Q)
    (fm : ∀ H0 B Ls G S z σ H Q, Stt X.K st H0 B Ls G S z σ H → Ct X W0 st σ H (m S z) (fun x z' H' => ∀ v, Bor X.K (hid st H') v x → Q v H') → te σ H Q)
    {H0 B H1 H : Hp} {Ls : List (Option (V × Val))} {G : List Addr} {S : List Sv} {σ : L2.St} {D : Addr} {Q : VK} {z : Zs} {acc ts : List T} {av : List V} {t : T} {v : V}
    (P : LcP X st H0 B Ls G S σ D Q j c m H1 (t :: ts) H z acc av) (r : RepT X.K H v t) :
    gName j v (wipe σ [j]) H fun σ2 H2 => wipe σ2 [j] = wipe σ [j] ∧ tt σ2 H2 fun b H3 => if b = true then te σ2 H3 fun y H4 => ∃ acc', H4 D = some (.lst acc') ∧ acc'.length < sizeLine ∧ (∃ z acc av, LcP X st H0 B Ls G S σ D Q j c m H1 ts (L2.upd H4 D (.lst (acc' ++ [y]))) z acc av)
      else ∃ z acc av, LcP X st H0 B Ls G S σ D Q j c m H1 ts H3 z acc av := by
  have hq := P.q
  unfold lcT at hq
  split at hq
  · rename_i hj
    have hj' : j < S.length := by unfold wipS at hj; simpa using hj
    have hs := P.s.slot hj' r
    have nD : st ≠ some D := by
      obtain ⟨Gs, _, _, fr⟩ := P.s.ex
      exact P.s.nst (fr D (by simp)).1
    refine ⟨by simp [wipe], ?_⟩
    show tt ((σ.set j none).set j (some v)) H _
    unfold wipS at hq
    refine fc _ _ _ _ _ _ _ _ _ hs ?_
    cases ec : c ((S.set j .un).set j (.o (.im t))) z with
    | no => rw [ec] at hq; exact hq.elim
    | ex d z1 => rw [ec] at hq; exact hq.elim
    | ok b z1 =>
      rw [ec] at hq
      intro H3 x3 hz3
      have s3 := P.s.grow x3 hz3
      have d3 := x3.k D _ nD P.d
      have r3 := P.r.mono (x3.le P.s.zr)
      cases b with
      | false => exact iteF ⟨z1, acc, av, s3, d3, r3, fun a o h1 h2 h3 => x3.k a o h1 (P.k a o h1 h2 h3), hq⟩
      | true =>
        refine iteT ?_
        refine fm _ _ _ _ _ _ _ _ _ (hs.grow x3 hz3) ?_
        dsimp only at hq
        cases em : m ((S.set j .un).set j (.o (.im t))) z1 with
        | no => rw [em] at hq; exact hq.elim
        | ex d z2 => rw [em] at hq; exact hq.elim
        | ok y z2 =>
          rw [em] at hq
          intro H4 x4 hz4 w hw
          cases y with
          | im u =>
            dsimp only at hq
            split at hq
            · rename_i hl
              have s4 := s3.grow x4 hz4
              have d4 := x4.k D _ nD d3
              have r4 := r3.mono (x4.le s3.zr)
              refine ⟨av, d4, by rw [r4.length]; exact hl, z2, acc ++ [u], av ++ [w], s4.chgG d4 True.intro True.intro, upd_same, ?_, fun a o h1 h2 h3 => ?_, hq⟩
              · cases hw with
                | im hw => exact (r4.append (.one (repT_hid hw))).mono (Le.upd_lst d4)
              · rw [upd_ne h2]
                exact x4.k a o h1 (x3.k a o h1 (P.k a o h1 h2 h3))
            · exact hq.elim
          | _ => exact hq.elim
  · exact hq.elim
@[simp] def eLc (it : ME) (j : Nat) (c : MT) (m : ME) : ME := fun S z => (it S z).bind fun x z => match x with
  | .im (.tup ts) => lcT j c m (wipS j S) ts [] z
  | .il ts => lcT j c m (wipS j S) ts [] z
  | _ => .no
theorem lcT_ex {j : Nat} {c : MT} {m : ME} {S0 : List Sv} : ∀ {ts acc : List T} {z : Zs} {e : Exc} {z' : Zs}, lcT j c m S0 ts acc z ≠ .ex e z'
  | [], acc, z, e, z' => by intro h; cases h
  | t :: ts, acc, z, e, z' => by
    unfold lcT
    intro h
    split at h
    · split at h
      · split at h
        · split at h
          · exact lcT_ex h
          · cases h
        · cases h
      · exact lcT_ex h
      · cases h
    · cases h
theorem lcT_il {j : Nat} {c : MT} {m : ME} {S0 : List Sv} : ∀ {ts acc : List T} {z : Zs} {x : Val} {z' : Zs}, lcT j c m S0 ts acc z = .ok x z' → ∃ us, x = .il us
  | [], acc, z, x, z', h => by cases h; exact ⟨_, rfl⟩
  | t :: ts, acc, z, x, z', h => by
    unfold lcT at h
    split at h
    · split at h
      · split at h
        · split at h
          · exact lcT_il h
          · cases h
        · cases h
      · exact lcT_il h
      · cases h
    · cases h
theorem SameX.two {K : PySem.W.Frag} {H0 B H1 H' : Hp} {Ls : List (Option (V × Val))} {G G' : List Addr} {S : List Sv} {z z' : Zs} {σ : L2.St} {D : Addr} (h : Stt K st H0 B Ls G S z σ H1) (h' : Stt K st H0 B Ls G' S z' σ H') (nD : H1 D = none) (k : ∀ a o, st ≠ some a → a ≠ D → H1 a = some o → H' a = some o) : SameX st H1 H' := by
  refine ⟨fun a o n e => k a o n (ne_of_none e nD) e, fun a x r e he => ?_⟩
  obtain ⟨z0, hz0⟩ := h.z0
  obtain ⟨l, q, _⟩ := hz0 a e
  obtain ⟨r1, q1⟩ := h.fr.l a _ _ e q
  obtain ⟨r2, q2⟩ := h'.fr.l a _ _ e q
  rw [he] at q1
  injection q1 with q1
  injection q1 with q1
  injection q1 with q1 _
  subst q1
  exact ⟨r2, q2⟩
theorem lc_start {H0 B H1 : Hp} {Ls : List (Option (V × Val))} {G : List Addr} {S : List Sv} {σ : L2.St} {Q : VK} {z1 : Zs} {D : Addr} {j : Nat} {c : MT} {m : ME} {ts : List T} (h1 : Stt X.K st H0 B Ls G S z1 σ H1) (nD : H1 D = none)
    (hq : Ct X W st σ H1 (lcT j c m (wipS j S) ts [] z1) (fun x z' H' => ∀ v G', Own X.K H' v x G' → Stt X.K st H0 B Ls (G' ++ G) S z' σ H' → Q v H')) (mono : ∀ a o, H1 a = some o → True) :
    LcK X.K st H0 B Ls G S σ D (fun v H' => (∀ a o, st ≠ some a → a ≠ D → H1 a = some o → H' a = some o) → Q v H') (lcT j c m (wipS j S) ts [] z1) := by
  cases e : lcT j c m (wipS j S) ts [] z1 with
  | ok x z =>
    obtain ⟨us, rfl⟩ := lcT_il e
    rw [e] at hq
    exact fun H av hs hd r k => hq H (SameX.two h1 hs nD k) hs.zr _ [D] (.il hd r) (by simpa using hs)
  | ex d z => exact absurd e lcT_ex
  | no => rw [e] at hq; exact hq
theorem lc_rd {it : ME} {c : MT} {m : ME} {ti : TE} {tt : TT} {te : TE} (j : Nat)
    (fi : ∀ H0 B Ls G S z σ H Q, Stt X.K st H0 B Ls G S z σ H → Ct X W st σ H (it S z) (fun x z' H' => ∀ v, Bor X.K (hid st H') v x → Q v H') → ti σ H Q)
    (ft : ∀ H0 B Ls G S z σ H Q, Stt X.K st H0 B Ls G S z σ H → Ct X W0 st σ H (c S z) (fun x z' H' => Q x H') → tt σ H Q)
    (fe : ∀ H0 B Ls G S z σ H Q, Stt X.K st H0 B Ls G S z σ H → Ct X W0 st σ H (m S z) (fun x z' H' => ∀ v, Bor X.K (hid st H') v x → Q v H') → te σ H Q) :
    ∀ H0 B Ls G S z σ H Q, Stt X.K st H0 B Ls G S z σ H → Ct X W st σ H (eLc it j c m S z) (fun x z' H' => ∀ v G', Own X.K H' v x G' → Stt X.K st H0 B Ls (G' ++ G) S z' σ H' → Q v H') → tLc (iAny X.K ti) (gName j) tt te [j] σ H Q := by
  intro H0 B Ls G S z σ H Q h hq
  refine fi H0 B Ls G S z σ H _ h (hq.bind fun y z1 H1 _ x1 hz1 hq1 v hv => ?_)
  have h1 := h.grow x1 hz1
  have start : ∀ {ts : List T} {D : Addr}, H1 D = none → Ct X W st σ H1 (lcT j c m (wipS j S) ts [] z1) (fun x z' H' => ∀ v G', Own X.K H' v x G' → Stt X.K st H0 B Ls (G' ++ G) S z' σ H' → Q v H') →
      ∃ z acc av, LcP X st H0 B Ls G S σ D (fun v H' => (∀ a o, st ≠ some a → a ≠ D → H1 a = some o → H' a = some o) → Q v H') j c m H1 ts (L2.upd H1 D (.lst [])) z acc av := fun {ts D} nD hq1 => by
    have sn : Same H1 (L2.upd H1 D (.lst [])) := Same.upd_new nD
    refine ⟨z1, [], [], h1.add (G' := [D]) (.of_same sn) (hz1.new sn) (by simp) (fun a ha => by simp at ha; subst ha; exact nD) (fun a ha => by simp at ha; subst ha; exact ⟨_, upd_same, True.intro⟩), upd_same, .nil, fun a o _ _ e => sn a o e, lc_start h1 nD hq1 fun _ _ _ => trivial⟩
  have fin : ∀ {D : Addr} {H : Hp}, (∃ z acc av, LcP X st H0 B Ls G S σ D (fun v H' => (∀ a o, st ≠ some a → a ≠ D → H1 a = some o → H' a = some o) → Q v H') j c m H1 [] H z acc av) → Q (.ref D) H := fun {D H} ⟨z, acc, av, P⟩ => by
    have hq := P.q
    exact hq H av P.s P.d P.r P.k
  have nst : ∀ {D a : Addr} {o : HO}, H1 D = none → H1 a = some o → a ≠ D := fun {D a o} nD e => ne_of_none e nD
  cases y with
  | im u =>
    cases u with
    | tup ts =>
      cases hv with
      | im hv =>
        cases hv with
        | @tup a xs _ r1 r2 =>
          have r2' := rep_hid r2
          refine .inr ⟨a, rfl, ⟨xs, sqt_hid r1⟩, fun D nD => ?_⟩
          have lek : ∀ {H : Hp}, (∀ b o, st ≠ some b → b ≠ D → H1 b = some o → H b = some o) → Le H1 H := fun {H} k => by
            have nt : ∀ b, st = some b → ∃ ys, H1 b = some (.lst ys) := fun b e => let ⟨l, q, _⟩ := hz1 b e; ⟨_, q⟩
            refine ⟨fun b ys e => k b _ (fun c => ?_) (ne_of_none e nD) e, fun b o ys e => k b _ (fun c => ?_) (ne_of_none e nD) e, fun b o ys e => k b _ (fun c => ?_) (ne_of_none e nD) e⟩
            · obtain ⟨_, q⟩ := nt b c; rw [e] at q; cases q
            · obtain ⟨_, q⟩ := nt b c; rw [e] at q; cases q
            · obtain ⟨_, q⟩ := nt b c; rw [e] at q; cases q
          refine lc_tup (K := X.K) (a := a) (xs := xs) (fun i H => ∃ z acc av, LcP X st H0 B Ls G S σ D _ j c m H1 (ts.drop i) H z acc av) (start nD hq1) (fun i H _ ⟨_, _, _, P⟩ => (lek P.k).sqt (sqt_hid r1)) (fun i w H ew ⟨z2, acc, av, P⟩ => ?_) (fun H P => fin (by rw [r2.length, List.drop_length] at P; exact P))
          obtain ⟨t, et, rt⟩ := r2'.getV ew
          obtain ⟨hl, e2⟩ := List.getElem?_eq_some_iff.mp et
          rw [List.drop_eq_getElem_cons hl, e2] at P
          exact lc_turn ft fe P (rt.mono (lek P.k))
    | _ => exact hq1.elim
  | il ts =>
    cases hv with
    | @il a xs _ r1 r2 =>
      have r2' := rep_hid r2
      have r1' := not_hid r1
      have na : st ≠ some a := fun c => by
        unfold hid at r1
        rw [if_pos c] at r1; cases r1
      refine .inl ⟨a, rfl, ⟨xs, .of r1'⟩, fun D nD => ?_⟩
      have lek : ∀ {H : Hp}, (∀ b o, st ≠ some b → b ≠ D → H1 b = some o → H b = some o) → Le H1 H := fun {H} k => by
        have nt : ∀ b, st = some b → ∃ ys, H1 b = some (.lst ys) := fun b e => let ⟨l, q, _⟩ := hz1 b e; ⟨_, q⟩
        refine ⟨fun b ys e => k b _ (fun c => ?_) (ne_of_none e nD) e, fun b o ys e => k b _ (fun c => ?_) (ne_of_none e nD) e, fun b o ys e => k b _ (fun c => ?_) (ne_of_none e nD) e⟩
        · obtain ⟨_, q⟩ := nt b c; rw [e] at q; cases q
        · obtain ⟨_, q⟩ := nt b c; rw [e] at q; cases q
        · obtain ⟨_, q⟩ := nt b c; rw [e] at q; cases q
      refine lc_list (K := X.K) (a := a) (xs := xs) (fun i H => ∃ z acc av, LcP X st H0 B Ls G S σ D _ j c m H1 (ts.drop i) H z acc av) (start nD hq1) (fun i H _ ⟨_, _, _, P⟩ => .of (P.k a _ na (ne_of_none r1' nD) r1')) (fun i w H ew ⟨z2, acc, av, P⟩ => ?_) (fun H P => fin (by rw [r2.length, List.drop_length] at P; exact P))
      obtain ⟨t, et, rt⟩ := r2'.getV ew
      obtain ⟨hl, e2⟩ := List.getElem?_eq_some_iff.mp et
      rw [List.drop_eq_getElem_cons hl, e2] at P
      exact lc_turn ft fe P (rt.mono (lek P.k))
  | _ => exact hq1.elim
theorem fe_lc {elt tg iter : Expr} {ifs : List Expr} {scope : Scope} {x : Str} {it : ME} {c : MT} {m : ME} (j : Nat) (hc : X.calm = true) (hN : X.N.Nodup) (hi : RE X W st iter it) (ok : BlkOk X.N X.env.scope scope [(x, j)])
    (hg : ∀ s H C cl fp, PG (Bk X scope s H C cl fp) tg (gName j)) (ht : ∀ s H C cl fp, RTs (Bk X scope s H C cl fp) W0 st ifs c) (he : ∀ s H C cl fp, RE (Bk X scope s H C cl fp) W0 st elt m)
    (hs : ∀ x, foldedSetIterable iter X.env x = pure x := by intro _; rfl) : FE X W st (.ListComp elt [⟨tg, iter, ifs, 0⟩] scope pos) (eLc it j c m) := by
  obtain ⟨ti, pi, fi⟩ := hi
  obtain ⟨tt, pt, ft⟩ := rts_uni ht
  obtain ⟨te, pe, fe⟩ := re_uni he
  exact ⟨_, pe_lc hc hN (pi_any pi) ok hg pt pe hs, lc_rd j fi ft fe⟩
theorem se_setLc (i : Nat) {elt tg iter : Expr} {ifs : List Expr} {scope : Scope} {x y : Str} {py lp : Pos} {it : ME} {c : MT} {m : ME} (j : Nat) (hc : X.calm = true) (hN : X.N.Nodup) (hy : X.N[i]? = some y) (hyl : X.env.scope.names.lookup y = some .local)
    (hsw : swapsWith (.ListComp elt [⟨tg, iter, ifs, 0⟩] scope lp) (some (.Name y py)) pos.line X.env = pure true) (hi : RE X W st iter it) (ok : BlkOk X.N X.env.scope scope [(x, j)])
    (hg : ∀ s H C cl fp, PG (Bk X scope s H C cl fp) tg (gName j)) (ht : ∀ s H C cl fp, RTs (Bk X scope s H C cl fp) W0 st ifs c) (he : ∀ s H C cl fp, RE (Bk X scope s H C cl fp) W0 st elt m)
    (hs : ∀ x, foldedSetIterable iter X.env x = pure x := by intro _; rfl) : SE X W st (.Assign [.Name y py] (.ListComp elt [⟨tg, iter, ifs, 0⟩] scope lp) pos) (sSet i (eLc it j c m)) := by
  obtain ⟨ti, pi, fi⟩ := hi
  obtain ⟨tt, pt, ft⟩ := rts_uni ht
  obtain ⟨te, pe, fe⟩ := re_uni he
  refine ⟨_, ps_setLc hc hN hy hyl hsw (pi_any pi) ok hg pt pe hs, fun H0 B Ls S z σ H D h hq => ?_⟩
  unfold sSet at hq
  split at hq
  · rename_i hl
    refine lc_rd j fi ft fe H0 B Ls [] S z σ H _ h (Cs.go h hq fun y z1 H1 _ x1 hz1 hq1 v G' ow h1 => ?_)
    exact hq1 _ H1 (h1.put ow hl)
  · exact hq.elim
/-- .. over range(n) -/
@[simp] def eLcR (r : List Val → Option (List T)) (ms : MAs) (j : Nat) (c : MT) (m : ME) : ME := fun S z => (ms S z).bind fun xs z => match r xs with
  | some ts => lcT j c m (wipS j S) ts [] z
  | none => .no
theorem lcR_rd {ms : MAs} {c : MT} {m : ME} {ti : TA} {tt : TT} {te : TE} (j : Nat)
    (fi : ∀ H0 B Ls G S z σ H Q, Stt X.K st H0 B Ls G S z σ H → Ct X W st σ H (ms S z) (fun xs z' H' => ∀ vs, BorS X.K (hid st H') vs xs → Q vs H') → ti σ H Q)
    (ft : ∀ H0 B Ls G S z σ H Q, Stt X.K st H0 B Ls G S z σ H → Ct X W0 st σ H (c S z) (fun x z' H' => Q x H') → tt σ H Q)
    (fe : ∀ H0 B Ls G S z σ H Q, Stt X.K st H0 B Ls G S z σ H → Ct X W0 st σ H (m S z) (fun x z' H' => ∀ v, Bor X.K (hid st H') v x → Q v H') → te σ H Q) :
    ∀ H0 B Ls G S z σ H Q, Stt X.K st H0 B Ls G S z σ H → Ct X W st σ H (eLcR rngT1 ms j c m S z) (fun x z' H' => ∀ v G', Own X.K H' v x G' → Stt X.K st H0 B Ls (G' ++ G) S z' σ H' → Q v H') → tLc (iRng1 ti) (gName j) tt te [j] σ H Q := by
  intro H0 B Ls G S z σ H Q h hq
  refine fi H0 B Ls G S z σ H _ h (hq.bind fun ys z1 H1 _ x1 hz1 hq1 vs hvs => ?_)
  have h1 := h.grow x1 hz1
  cases e : rngT1 ys with
  | none => rw [e] at hq1; exact hq1.elim
  | some ts =>
    rw [e] at hq1
    obtain ⟨n, rfl, cr, rfl⟩ := rng_one hvs e
    obtain ⟨c1, c2⟩ := inR_ok cr
    refine ⟨n, rfl, c1, c2, fun D nD => ?_⟩
    have sn : Same H1 (L2.upd H1 D (.lst [])) := Same.upd_new nD
    refine lc_range (lo := 0) (n := n.toNat) (fun i H => ∃ z acc av, LcP X st H0 B Ls G S σ D (fun v H' => (∀ a o, st ≠ some a → a ≠ D → H1 a = some o → H' a = some o) → Q v H') j c m H1 ((rngI 0 n.toNat).drop i) H z acc av)
      ⟨z1, [], [], h1.add (G' := [D]) (.of_same sn) (hz1.new sn) (by simp) (fun a ha => by simp at ha; subst ha; exact nD) (fun a ha => by simp at ha; subst ha; exact ⟨_, upd_same, True.intro⟩), upd_same, .nil, fun a o _ _ e => sn a o e, lc_start h1 nD hq1 fun _ _ _ => trivial⟩
      (fun i H hi ⟨z2, acc, av, P⟩ => ?_) (fun H ⟨z2, acc, av, P⟩ => ?_)
    · rw [rngI_drop hi] at P
      exact lc_turn ft fe P (.int _)
    · rw [List.drop_eq_nil_of_le (by unfold rngI; simp)] at P
      have hq := P.q
      exact hq H av P.s P.d P.r P.k
theorem fe_lcR {elt tg a : Expr} {ifs : List Expr} {scope : Scope} {x : Str} {ms : MAs} {c : MT} {m : ME} {p rp : Pos} (j : Nat) (hc : X.calm = true) (hN : X.N.Nodup) (hgl : Gl X "range") (hm : X.mg "range" = none) (ha : RA X W st [a] ms) (ok : BlkOk X.N X.env.scope scope [(x, j)])
    (hg : ∀ s H C cl fp, PG (Bk X scope s H C cl fp) tg (gName j)) (ht : ∀ s H C cl fp, RTs (Bk X scope s H C cl fp) W0 st ifs c) (he : ∀ s H C cl fp, RE (Bk X scope s H C cl fp) W0 st elt m)
    (hsa : starEach [a] X.env = [(false, eval a X.env)] := by rfl) (hs : ∀ x, foldedSetIterable (.Call (.Name "range" p) [a] [] rp) X.env x = pure x := by intro _; rfl) : FE X W st (.ListComp elt [⟨tg, .Call (.Name "range" p) [a] [] rp, ifs, 0⟩] scope pos) (eLcR rngT1 ms j c m) := by
  obtain ⟨ti, pi, fi⟩ := ha
  obtain ⟨tt, pt, ft⟩ := rts_uni ht
  obtain ⟨te, pe, fe⟩ := re_uni he
  exact ⟨_, pe_lc hc hN (pi_range1 hgl hm pi hsa) ok hg pt pe hs, lcR_rd j fi ft fe⟩
theorem se_setLcR (i : Nat) {elt tg a : Expr} {ifs : List Expr} {scope : Scope} {x y : Str} {py lp p rp : Pos} {ms : MAs} {c : MT} {m : ME} (j : Nat) (hc : X.calm = true) (hN : X.N.Nodup) (hy : X.N[i]? = some y) (hyl : X.env.scope.names.lookup y = some .local)
    (hsw : swapsWith (.ListComp elt [⟨tg, .Call (.Name "range" p) [a] [] rp, ifs, 0⟩] scope lp) (some (.Name y py)) pos.line X.env = pure true) (hgl : Gl X "range") (hm : X.mg "range" = none) (ha : RA X W st [a] ms) (ok : BlkOk X.N X.env.scope scope [(x, j)])
    (hg : ∀ s H C cl fp, PG (Bk X scope s H C cl fp) tg (gName j)) (ht : ∀ s H C cl fp, RTs (Bk X scope s H C cl fp) W0 st ifs c) (he : ∀ s H C cl fp, RE (Bk X scope s H C cl fp) W0 st elt m)
    (hsa : starEach [a] X.env = [(false, eval a X.env)] := by rfl) (hs : ∀ x, foldedSetIterable (.Call (.Name "range" p) [a] [] rp) X.env x = pure x := by intro _; rfl) : SE X W st (.Assign [.Name y py] (.ListComp elt [⟨tg, .Call (.Name "range" p) [a] [] rp, ifs, 0⟩] scope lp) pos) (sSet i (eLcR rngT1 ms j c m)) := by
  obtain ⟨ti, pi, fi⟩ := ha
  obtain ⟨tt, pt, ft⟩ := rts_uni ht
  obtain ⟨te, pe, fe⟩ := re_uni he
  refine ⟨_, ps_setLc hc hN hy hyl hsw (pi_range1 hgl hm pi hsa) ok hg pt pe hs, fun H0 B Ls S z σ H D h hq => ?_⟩
  unfold sSet at hq
  split at hq
  · rename_i hl
    refine lcR_rd j fi ft fe H0 B Ls [] S z σ H _ h (Cs.go h hq fun y z1 H1 _ x1 hz1 hq1 v G' ow h1 => ?_)
    exact hq1 _ H1 (h1.put ow hl)
  · exact hq.elim
end
end MM

/-! ML: a def's body as its promise; the law's stream. -/
namespace MM
open PySem PySem.Spec PyProof.Rows L2
/-- a number that stands for no stream -/
def z0 : Zs := ⟨[], 0, 0, 0⟩
@[simp] def endR : Ro → Rs Val
  | .rt x z => .ok x z
  | .nx _ z => .ok (.im .non) z
  | .xc c _ z => .ex c z
  | _ => .no
/-- nN slots, nP parameters -/
def runP (nN nP : Nat) (m : MS) : MF := fun xs => if xs.length = nP then endR (m (xs.map Sv.b ++ List.replicate (nN - nP) .un) z0) else .no
def runZ (nN nP : Nat) (m : MS) : MZ := fun xs z => if xs.length + 1 = nP then endR (m (.s :: xs.map Sv.b ++ List.replicate (nN - nP) .un) z) else .no
section
variable {P : Program} {w : World} {K : PySem.W.Frag} {mg : Str → Option Value} {base : Heap}
theorem sls_un {st : Option Addr} {B H : Hp} : ∀ n : Nat, SlS K st B H (List.replicate n none) (List.replicate n none) (List.replicate n .un) []
  | 0 => .nil
  | n + 1 => .un (sls_un n)
theorem sls_start {st : Option Addr} {B H : Hp} {n : Nat} : ∀ {vs : List V} {xs : List Val}, BorS K B vs xs → SlS K st B H (List.replicate (xs.length + n) none) (vs.map some ++ List.replicate n none) (xs.map Sv.b ++ List.replicate n .un) []
  | _, _, .nil => by simpa using sls_un n
  | _, _, .cons (l₁ := vs) (l₂ := xs) h t => by
    have ih := sls_start (st := st) (H := H) (n := n) t
    have e : (xs.length + 1 + n) = (xs.length + n) + 1 := by omega
    rw [List.length_cons, e]
    exact .b h ih
theorem SameX.same {H H' : Hp} (h : SameX none H H') : Same H H' := fun a o e => h.k a o (by simp) e
/-- the end of a body -/
theorem cs_end {X : Cx} {st : Option Addr} {H0 B : Hp} {Ls : List (Option (V × Val))} {r : Ro} {Q : VK} {E : XK}
    (h : match endR r with
      | .ok x z => ∀ v H' G, SameX st H0 H' → Zr X.K st z H' → Own X.K H' v x G → G.Nodup → (∀ a ∈ G, H0 a = none) → Q v H'
      | .ex c z => ∀ cv d H', SameX st H0 H' → Zr X.K st z H' → ExR X.K X.mg c cv d H' → E cv d H'
      | .no => False) : Cs X (fun cls d _ H => E cls d H) st H0 B Ls { nx := fun _ H' => Q .non H', rt := Q } r := by
  cases r with
  | nx S z => exact fun σ H s => h .non H [] s.fr s.zr (.im .non) List.nodup_nil (fun _ z => by cases z)
  | rt x z => exact fun v H G sx _ => h v H G sx
  | bk S z => exact h.elim
  | ct S z => exact h.elim
  | xc c S z => exact fun cv d σ H s xr => h cv d H s.fr s.zr xr
  | no => exact h.elim
section
variable {x qual : Str} {st : Stmt} {f : Addr} {fd : FuncData} {N ps : List Str} {k : Nat}
/-- a def without a stream -/
theorem fnP (F : Fun K x qual st f fd) (S : FnScope N ps (defScope st)) (m : MS)
    (hb : ∀ (cdv : Value) (A : Around) (outer : List Env) (s : Shared) (H : Hp) (E : XK), Room k (A.deeper (envOfC qual (defScope st) s.heap.objs.size f cdv)) →
      SEs (cxOf (L2.CX P w) P w K mg base N qual (defScope st) f cdv A outer s H E) (fun cls d _ H => E cls d H) none (defBody st) m) :
    FnOk P w K mg base (L2.CX P w) (k + 1) f fd ps (spP K mg (runP N.length ps.length m)) := by
  refine F.okX S (fun vs H Q E h => ?_) (fun cdv A outer s H vs Q E hr h => ?_)
  · obtain ⟨xs, hv, hm⟩ := h
    by_cases e : xs.length = ps.length
    · rw [hv.length]; exact e
    · unfold runP at hm
      rw [if_neg e] at hm
      exact hm.elim
  · obtain ⟨xs, hv, hm⟩ := h
    by_cases e : xs.length = ps.length
    · unfold runP at hm
      rw [if_pos e] at hm
      obtain ⟨t, p, g⟩ := hb cdv A outer s H E hr
      refine ⟨t, p, ?_⟩
      have en : (List.replicate (N.length - vs.length) (none : Option V)) = List.replicate (N.length - ps.length) none := by rw [hv.length, e]
      have stt : Stt K none H (fun _ => none) (List.replicate (xs.length + (N.length - ps.length)) none) [] (xs.map Sv.b ++ List.replicate (N.length - ps.length) .un) z0 (start N vs) H := by
        refine ⟨.refl _ _, fun a e => (by cases e), fun a o e => (by cases e), ⟨z0, fun a e => (by cases e)⟩, fun a e => (by cases e), fun a e => (by cases e), fun j v x e => ?_, [], ?_, List.nodup_nil, fun a e => (by cases e)⟩
        · rw [List.getElem?_replicate] at e
          split at e <;> cases e
        · unfold L2.start
          rw [en, hid_none]
          exact sls_start hv
      refine g H (fun _ => none) _ _ z0 (start N vs) H _ stt (cs_end ?_)
      revert hm
      generalize endR (m (xs.map Sv.b ++ List.replicate (N.length - ps.length) .un) z0) = r
      intro hm
      cases r with
      | ok y z => exact fun v H' G sx _ ow nd fr => hm v H' G sx.same ow nd fr
      | ex c z => exact fun cv d H' sx _ xr => hm cv d H' sx.same xr
      | no => exact hm
    · unfold runP at hm
      rw [if_neg e] at hm
      exact hm.elim
/-- a def whose first parameter is the stream -/
theorem fnZ (F : Fun K x qual st f fd) (S : FnScope N ps (defScope st)) (m : MS)
    (hb : ∀ (so : Option Addr) (cdv : Value) (A : Around) (outer : List Env) (s : Shared) (H : Hp) (E : XK), Room k (A.deeper (envOfC qual (defScope st) s.heap.objs.size f cdv)) →
      SEs (cxOf (L2.CX P w) P w K mg base N qual (defScope st) f cdv A outer s H E) (fun cls d _ H => E cls d H) so (defBody st) m) :
    FnOk P w K mg base (L2.CX P w) (k + 1) f fd ps (spZ K mg (runZ N.length ps.length m)) := by
  refine F.okX S (fun vs H Q E h => ?_) (fun cdv A outer s H vs Q E hr h => ?_)
  · obtain ⟨a, ws, z, xs, rfl, hz, hv, hm⟩ := h
    by_cases e : xs.length + 1 = ps.length
    · rw [List.length_cons, hv.length]; exact e
    · unfold runZ at hm
      rw [if_neg e] at hm
      exact hm.elim
  · obtain ⟨a, ws, z, xs, rfl, hz, hv, hm⟩ := h
    by_cases e : xs.length + 1 = ps.length
    · unfold runZ at hm
      rw [if_pos e] at hm
      obtain ⟨t, p, g⟩ := hb (some a) cdv A outer s H E hr
      refine ⟨t, p, ?_⟩
      have en : (List.replicate (N.length - (V.ref a :: ws).length) (none : Option V)) = List.replicate (N.length - ps.length) none := by rw [List.length_cons, hv.length, e]
      obtain ⟨l, q, _⟩ := id (hz a rfl)
      have stt : Stt K (some a) H (fun _ => none) (none :: List.replicate (xs.length + (N.length - ps.length)) none) [] (.s :: xs.map Sv.b ++ List.replicate (N.length - ps.length) .un) z (start N (V.ref a :: ws)) H := by
        refine ⟨.refl _ _, hz, fun a o e => (by cases e), ⟨z, hz⟩, fun a e => rfl, fun a e => (by cases e), fun j v x e => ?_, [], ?_, List.nodup_nil, fun a e => (by cases e)⟩
        · cases j with
          | zero => simp at e
          | succ j =>
            rw [List.getElem?_cons_succ, List.getElem?_replicate] at e
            split at e <;> cases e
        · unfold L2.start
          rw [en]
          exact .s rfl (sls_start hv)
      refine g H (fun _ => none) _ _ z _ H _ stt (cs_end ?_)
      revert hm
      generalize endR (m (.s :: xs.map Sv.b ++ List.replicate (N.length - ps.length) .un) z) = r
      intro hm
      cases r with
      | ok y z => exact fun v H' G sx hz ow nd fr => hm v H' G sx hz ow nd fr
      | ex c z => exact fun cv d H' sx hz xr => hm cv d H' sx hz xr
      | no => exact hm
    · unfold runZ at hm
      rw [if_neg e] at hm
      exact hm.elim

/-! ### the law -/
/-- the stream that is made of the script -/
def spStream (K : PySem.W.Frag) : Sp := fun vs H Q _ => ∃ (a : Addr) (ns : List Int), vs = [.ref a] ∧ SqL K H a (ns.map V.int) ∧ ns.length ≤ 63 ∧ ∀ p z H', Same H H' → H p = none → Zr K (some p) z H' → Q (.ref p) H'
def spLaw (K : PySem.W.Frag) : Sp := fun vs H Q _ => ∃ (a : Addr) (ns : List Int), vs = [.ref a] ∧ SqL K H a (ns.map V.int) ∧ ns.length ≤ 63 ∧ ∀ H', Q (.bl true) H'
/-- what the rest of the law is worth -/
def lawOk (nN : Nat) (m : MS) : Prop := ∀ z : Zs, 0 ≤ z.cur → 0 ≤ z.pos → 0 ≤ z.mix → z.mix < 2147483647 → ∃ z', m (.un :: .s :: List.replicate (nN - 2) .un) z = .rt (.im (.bl true)) z'
theorem ss_ex {X : Cx} {W : WX} {s : List Stmt} {m : MS} (h : ∀ so, SEs X W so s m) : ∃ t, PSs X s t ∧ ∀ so H0 B Ls S z σ H D, Stt X.K so H0 B Ls [] S z σ H → Cs X W so H0 B Ls D (m S z) → t D σ H := by
  refine ⟨fun D σ H => ∃ so, Classical.choose (h so) D σ H, ⟨fun pins s σ H D I ⟨so, hw⟩ => (Classical.choose_spec (h so)).1.run pins s σ H D I hw⟩, fun so H0 B Ls S z σ H D hs hq => ⟨so, (Classical.choose_spec (h so)).2 H0 B Ls S z σ H D hs hq⟩⟩
theorem fnLaw {s0 : Stmt} {rest : List Stmt} (F : Fun K x qual st f fd) (S : FnScope N ["script"] (defScope st)) (m : MS) (nN : Nat) (hN : N.length = nN + 2) (body : defBody st = s0 :: rest)
    (h0 : ∀ (cdv : Value) (A : Around) (outer : List Env) (s : Shared) (H0 : Hp) (E : XK), Room k (A.deeper (envOfC qual (defScope st) s.heap.objs.size f cdv)) →
      ∃ t, PS (cxOf (L2.CX P w) P w K mg base N qual (defScope st) f cdv A outer s H0 E) s0 t ∧ ∀ (a : Addr) (ns : List Int) (H : Hp) (D : Ends), SqL K H a (ns.map V.int) → ns.length ≤ 63 →
        (∀ p z H', Same H H' → H p = none → Zr K (some p) z H' → D.nx (some (.ref a) :: some (.ref p) :: List.replicate nN none) H') → t D (some (.ref a) :: none :: List.replicate nN none) H)
    (hb : ∀ (so : Option Addr) (cdv : Value) (A : Around) (outer : List Env) (s : Shared) (H : Hp) (E : XK), Room k (A.deeper (envOfC qual (defScope st) s.heap.objs.size f cdv)) →
      SEs (cxOf (L2.CX P w) P w K mg base N qual (defScope st) f cdv A outer s H E) (fun cls d _ H => E cls d H) so rest m) (ok : lawOk (nN + 2) m) :
    FnOk P w K mg base (L2.CX P w) (k + 1) f fd ["script"] (spLaw K) := by
  refine F.okX S (fun vs H Q E h => ?_) (fun cdv A outer s H vs Q E hr h => ?_)
  · obtain ⟨a, ns, rfl, _⟩ := h; rfl
  · obtain ⟨a, ns, rfl, hS, h63, hQ⟩ := h
    obtain ⟨t, pt, ft⟩ := ss_ex (fun so => hb so cdv A outer s H E hr)
    obtain ⟨t0, p0, f0⟩ := h0 cdv A outer s H E hr
    rw [body]
    refine ⟨_, pss_cons p0 pt, ?_⟩
    have es : start N [V.ref a] = some (.ref a) :: none :: List.replicate nN none := by
      unfold L2.start
      rw [hN]
      rfl
    rw [es]
    refine f0 a ns H _ hS h63 fun p z H' sm np hz => ?_
    obtain ⟨l, q, _, _, z1, z2, z3, z4⟩ := id (hz p rfl)
    obtain ⟨z', hz'⟩ := ok z z1 z2 z3 z4
    refine ft (some p) H' (fun _ => none) (none :: none :: List.replicate nN none) (.un :: .s :: List.replicate nN .un) z _ H' _ ?_ ?_
    · refine ⟨.refl _ _, hz, fun a o e => (by cases e), ⟨z, hz⟩, fun a e => rfl, fun a e => (by cases e), fun j v x e => ?_, [], .un (.s rfl (sls_un nN)), List.nodup_nil, fun a e => (by cases e)⟩
      match j, e with
      | 0, e => simp at e
      | 1, e => simp at e
      | j + 2, e =>
        rw [List.getElem?_cons_succ, List.getElem?_cons_succ, List.getElem?_replicate] at e
        split at e <;> cases e
    · have e2 : m (.un :: .s :: List.replicate nN .un) z = .rt (.im (.bl true)) z' := hz'
      rw [e2]
      intro v H2 G _ _ _ ow _ _
      cases ow with
      | im r => cases r; exact hQ H2
end
end
end MM

/-! MX: more rules. -/
namespace MM
open PySem PySem.Spec PyProof.Rows L2
theorem hu64 {A : Around} {k : Nat} (hr : Room k A) : A.units + 64 < cLine := hr.units
theorem hu65 {A : Around} {k : Nat} (hr : Room k A) : A.units + 65 < cLine := by have := hr.un; omega
/-! lengths of unpacking -/
theorem gs_len0 : ∀ us S S', gsNil us S = some S' → us.length = 0 := fun us S S' h => by
  cases us with
  | nil => rfl
  | cons u us => cases h
theorem gs_more {g : MGt} {gs : List T → List Sv → Option (List Sv)} {n : Nat} (h : ∀ us S S', gs us S = some S' → us.length = n) : ∀ us S S', gsCons g gs us S = some S' → us.length = n + 1 := fun us S S' e => by
  cases us with
  | nil => cases e
  | cons u us =>
    simp only [gsCons] at e
    split at e
    · rw [List.length_cons, h us _ _ e]
    · cases e
theorem gs_len1 {g1 : MGt} : ∀ us S S', gsCons g1 gsNil us S = some S' → us.length = 1 := gs_more gs_len0
theorem gs_len2 {g1 g2 : MGt} : ∀ us S S', gsCons g1 (gsCons g2 gsNil) us S = some S' → us.length = 2 := gs_more gs_len1
theorem gs_len3 {g1 g2 g3 : MGt} : ∀ us S S', gsCons g1 (gsCons g2 (gsCons g3 gsNil)) us S = some S' → us.length = 3 := gs_more gs_len2
theorem gs_len4 {g1 g2 g3 g4 : MGt} : ∀ us S S', gsCons g1 (gsCons g2 (gsCons g3 (gsCons g4 gsNil))) us S = some S' → us.length = 4 := gs_more gs_len3
section
variable {X : Cx} {W : WX} {st : Option Addr} {pos : Pos}
/-! ### -a -/
@[simp] def oNeg (x : Val) (z : Zs) : Rs Val := match x with
  | .im (.int i) => .ok (.im (.int (-i))) z
  | _ => .no
@[simp] def eNeg (m : ME) : ME := fun S z => (m S z).bind oNeg
theorem fe_neg {e : Expr} {m : ME} (he : RE X W st e m) : FE X W st (.UnaryOp .USub e pos) (eNeg m) := by
  obtain ⟨t, p, f⟩ := he
  refine ⟨tUn _ t, pe_un un_neg p, fun H0 B Ls G S z σ H Q h hq => ?_⟩
  refine f H0 B Ls G S z σ H _ h (hq.bind fun x z1 H1 _ x1 hz1 hq1 v hv => ?_)
  unfold oNeg at hq1
  split at hq1
  · exact ⟨_, bor_int hv, Ct.fin (h.grow x1 hz1) hq1 (G' := []) (Same.refl H1) (.im (.int _)) List.nodup_nil (fun _ z => by cases z)⟩
  · exact hq1.elim
/-! ### a ** b -/
def cPow (i j : Int) : Bool := decide (0 ≤ j) && decide (j ≤ 1000000) && decide (i.natAbs < 2 ^ 64)
@[simp] def ePow := eBin (oII (fun i j => .int (i ^ j.toNat)) cPow)
theorem fe_pow {a b : Expr} {ma mb : ME} (ha : RE X W st a ma) (hb : RE X W st b mb) : FE X W st (.BinOp a .Pow b pos) (ePow ma mb) := fe_op op_pow (op2_I fun i j h => by
  unfold cPow at h
  simp only [Bool.and_eq_true, decide_eq_true_eq] at h
  exact ⟨h.1.1, h.1.2, h.2⟩) ha hb
/-! ### sorted -/
def ints? : List T → Option (List Int)
  | [] => some []
  | .int i :: ts => (ints? ts).map (i :: ·)
  | _ => none
def sortI (ns : List Int) : List Int := ns.mergeSort fun a b => decide (a ≤ b)
theorem sortI_eq {ns ns' : List Int} (p : ns'.Perm ns) (s : ns'.Pairwise (· ≤ ·)) : ns' = sortI ns := by
  have s2 : (sortI ns).Pairwise (· ≤ ·) := by
    have := List.pairwise_mergeSort (le := fun (a b : Int) => decide (a ≤ b)) (fun a b c h1 h2 => by simp only [decide_eq_true_eq] at *; omega) (fun a b => by simp only [Bool.or_eq_true, decide_eq_true_eq]; omega) ns
    exact this.imp fun h => by simpa using h
  exact List.Perm.eq_of_pairwise (fun a b _ _ h1 h2 => by omega) s s2 (p.trans (List.mergeSort_perm ns _).symm)
theorem ints_rep {K : PySem.W.Frag} {H : Hp} : ∀ {ts : List T} {vs : List V} {ns : List Int}, RepTs K H vs ts → ints? ts = some ns → vs = ns.map V.int
  | [], _, _, h, e => by cases h; cases e; rfl
  | t :: ts, _, ns, h, e => by
    cases h with
    | cons h1 h2 =>
      cases t with
      | int i =>
        unfold ints? at e
        cases q : ints? ts with
        | none => rw [q] at e; cases e
        | some ms =>
          rw [q] at e
          cases e
          cases h1
          rw [ints_rep h2 q]; rfl
      | _ => cases e
theorem rep_ints {K : PySem.W.Frag} {H : Hp} : ∀ ns : List Int, RepTs K H (ns.map V.int) (ns.map T.int)
  | [] => .nil
  | n :: ns => .cons (.int n) (rep_ints ns)
def intKs? {κ : Type} : List (Key × κ) → Option (List Int)
  | [] => some []
  | (.inl i, _) :: ks => (intKs? ks).map (i :: ·)
  | _ => none
theorem intKs_some {κ : Type} : ∀ {kvs : List (Key × κ)} {ns : List Int}, intKs? kvs = some ns → kvs.map (·.1) = ns.map Sum.inl
  | [], _, e => by cases e; rfl
  | (.inl i, t) :: ks, ns, e => by
    unfold intKs? at e
    cases q : intKs? ks with
    | none => rw [q] at e; cases e
    | some ms =>
      rw [q] at e
      cases e
      rw [List.map_cons, List.map_cons, intKs_some q]
  | (.inr x, t) :: ks, ns, e => by cases e
/-- sorted(d), its keys ints, any number of them -/
theorem call_sortedDIn (hcalm : X.calm = true) : CallR X (.builtin "sorted") (fun xs H Q => ∃ (a : Addr) (kvs : List (Key × V)) (ks : List Int), xs = [.ref a] ∧ Rd H a (.dK kvs) ∧ kvs.map (·.1) = ks.map Sum.inl ∧ ks.length ≤ 16777216 ∧
    ∀ (ys : List Int) (p : Addr), ys.Perm ks → ys.Pairwise (· ≤ ·) → H p = none → Q (.ref p) (upd H p (.lst (ys.map V.int)))) := by
  intro pins s σ H xs us Q I r q
  obtain ⟨a, kvs, ks, ex, hd, hks, h64, q⟩ := q
  subst ex
  obtain ⟨u, eu, rx⟩ := vals1 r
  subst eu
  cases rx
  obtain ⟨z, lo, vs, rel, dd⟩ := dk_rd I.hok hd
  obtain ⟨ep, hat⟩ := dd.dictAt
  have hkeys : vs.map (·.1) = ks.map Sum.inl := rel.keys.symm.trans hks
  have hl : vs.length = ks.length := by
    have e := congrArg List.length hkeys
    rw [List.length_map, List.length_map] at e
    exact e
  have h16 : vs.length ≤ sizeLine := by rw [hl, sizeLine_eq]; omega
  refine Calls.call_function_entry PyProof.Rows.kind_sorted PyProof.Rows.plain_sorted PyProof.Rows.entry_sorted (PyProof.Rows.args_sorted1 _) ?_
  unfold Builtin.«sorted»
  refine wpAny_bind (m := checkCount "sorted" 1 1 _) (wpAny_pure ?_)
  refine wpAny_bind (PySem.W.kdu_collect (A := X.A.in1) (PySem.W.kdl_dict (knd := mixKind X.prog X.w) (kvs := vs) (ep := ep) lo) (I.ok.hd hcalm) hat h16 fun h' tk acc hk hacc => ?_)
  have hal : acc.toList.length = ks.length := by rw [Array.length_toList, hacc.1, hl]
  have hS : IntsAre acc.toList ks := ints_each hal fun j v e => by
    obtain ⟨k, x, e1, e2⟩ := hacc.2 j v (by rw [← Array.getElem?_toList]; exact e)
    have e3 : (vs.map (·.1))[j]? = some k := by rw [List.getElem?_map, e1]; rfl
    rw [hkeys, List.getElem?_map] at e3
    cases e4 : ks[j]? with
    | none => rw [e4] at e3; cases e3
    | some y =>
      rw [e4] at e3
      have e5 : Sum.inl y = k := Option.some.inj e3
      subst e5
      rcases keyIs_shape (show keyIs (Sum.inl y) v = true from e2) with ⟨i, t, ek, ev⟩ | ⟨z, t, ek, ev⟩
      · cases ek
        exact ⟨y, t, rfl, ev⟩
      · cases ek
  have I1 : Inv X pins σ H { s with heap := h', toks := tk } := I.kept hk
  refine wpAny_bind (wpAny_newList ?_ (by rw [hal, sizeLine_eq]; omega))
  have hoL : (h'.push (seqObj "list" acc.toList.toArray 0)).get? h'.objs.size = some (seqObj "list" acc.toList.toArray 0) := Heap.get?_push_size _ rfl
  show wpAny _ _ _ _ _ { s with heap := h'.push (seqObj "list" acc.toList.toArray 0), toks := tk }
  refine wpAny_bind (wpAny_holding (wpAny_call_entry PyProof.Rows.slot_list_sort ⟨_, hoL, rfl⟩ PyProof.Rows.entry_list_sort
    (SrtO.list_sort_ord (s := { s with heap := h'.push (seqObj "list" acc.toList.toArray 0), toks := tk }) SrtO.swo_int hoL (by rw [hal, sizeLine_eq]; omega) (fun h2 => SrtO.ints_sortable hS h2) fun out h1 h2 => ⟨_, rfl, ?_⟩) (PyProof.Rows.args_list_sort _)))
  obtain ⟨k1, k2, k3⟩ := SrtO.ints_out hS h1 h2
  obtain ⟨e', he'⟩ := PyProof.Rows.sortedHeap_at (vs := acc.toList) (out := out.toArray) hoL
  have hlen : ((out.map SrtO.iv).map V.int).length ≤ sizeLine := by
    rw [List.length_map, k2.length_eq, sizeLine_eq]; omega
  refine wpAny_pure ⟨_, rfl, .ref h'.objs.size, upd H h'.objs.size (.lst ((out.map SrtO.iv).map V.int)), I1.laid (t' := tk) (fun b u e => ?_) (Nat.le_refl _)
    (show ObjOk X.prog X.w _ _ _ (.lst ((out.map SrtO.iv).map V.int)) from ⟨hlen, out, e', vals_of_ints k1, he'⟩), rfl, q _ _ k2 k3 (I1.hok.fresh (Nat.le_refl _))⟩
  have hb : b < h'.objs.size := Heap.lt_size e
  rw [PyProof.Rows.sortedHeap_old (Nat.ne_of_lt hb) (by rw [size_push']; exact Nat.lt_succ_of_lt hb)]
  exact Heap.get?_push_of_some _ e
@[simp] def oSorted : List Val → Option Val
  | [.il ts] => (ints? ts).map fun ns => .il ((sortI ns).map .int)
  | [.dk kvs] => match intKs? kvs with
    | some ns => if ns.length ≤ 16777216 then some (.il ((sortI ns).map .int)) else none
    | none => none
  | _ => none
abbrev rSortedB (K : PySem.W.Frag) : List V → Hp → VK → Prop := fun xs H Q => rSortedI K xs H Q ∨ ∃ (a : Addr) (kvs : List (Key × V)) (ks : List Int), xs = [.ref a] ∧ Rd H a (.dK kvs) ∧ kvs.map (·.1) = ks.map Sum.inl ∧ ks.length ≤ 16777216 ∧
    ∀ (ys : List Int) (p : Addr), ys.Perm ks → ys.Pairwise (· ≤ ·) → H p = none → Q (.ref p) (upd H p (.lst (ys.map V.int)))
theorem fn_sorted : Fn X st (rSortedB X.K) oSorted := by
  intro H vs xs y Q hv e q
  have fin : ∀ (ns ns' : List Int) (p : Addr), y = .il ((sortI ns).map .int) → ns'.Perm ns → ns'.Pairwise (· ≤ ·) → H p = none → Q (.ref p) (upd H p (.lst (ns'.map V.int))) := fun ns ns' p ey hp hs np => by
    have := sortI_eq hp hs
    subst this
    subst ey
    exact q _ _ [p] (Same.upd_new np) (.il upd_same (rep_ints _)) (by simp) (fun a ha => by simp at ha; subst ha; exact np)
  unfold oSorted at e
  split at e
  · rename_i ts
    cases ei : ints? ts with
    | none => rw [ei] at e; cases e
    | some ns =>
      rw [ei] at e
      obtain ⟨v, rfl, h⟩ := hv.one
      cases h with
      | @il a ws _ h1 h2 =>
        have := ints_rep h2 ei
        subst this
        exact .inl ⟨a, ns, rfl, .of (not_hid h1), fun ns' p hp hs np => fin ns ns' p (by cases e; rfl) hp hs np⟩
  · rename_i kvs
    split at e
    · rename_i ns ei
      split at e
      · rename_i hl
        obtain ⟨v, rfl, h⟩ := hv.one
        cases h with
        | @dk a ws _ h1 h2 =>
          exact .inr ⟨a, ws, ns, rfl, rd_hid h1, h2.1.trans (intKs_some ei), hl, fun ns' p hp hs np => fin ns ns' p (by cases e; rfl) hp hs np⟩
      · cases e
    · cases e
  · cases e
@[simp] def eSorted := eFn oSorted
theorem fe_sorted {e : Expr} {ms : MAs} {p : Pos} (hc : X.calm = true) (hg : Gl X "sorted") (hm : X.mg "sorted" = none) (ha : RA X W st [e] ms) (he : starEach [e] X.env = (false, eval e X.env) :: starEach [] X.env := by rfl) : FE X W st (.Call (.Name "sorted" p) [e] [] pos) (eSorted ms) := fe_callB (cr_sortedI.or (call_sortedDIn hc)) fn_sorted hg hm (by decide +kernel) ha (he := he)
end
end MM

/-! MN: pop, join, loops over enumerate and zip. -/
namespace MM
open PySem PySem.Spec PyProof.Rows L2
section
variable {X : Cx} {W : WX} {st : Option Addr} {pos : Pos}
/-! ### x.pop() -/
/-- y = x.pop() -/
@[simp] def sPop (i j : Nat) : MS := fun S z => match S[i]? with
  | some (.o (.il ts)) => match ts.getLast? with
    | some t => if j < S.length then .nx ((S.set i (.o (.il ts.dropLast))).set j (.o (.im t))) z else .no
    | none => .no
  | _ => .no
/-- x.pop() -/
@[simp] def sPop0 (i : Nat) : MS := fun S z => match S[i]? with
  | some (.o (.il ts)) => if ts = [] then .no else .nx (S.set i (.o (.il ts.dropLast))) z
  | _ => .no
theorem RepTs.dropLast {K : PySem.W.Frag} {H : Hp} {ts : List T} {vs : List V} (h : RepTs K H vs ts) : RepTs K H vs.dropLast ts.dropLast := by
  rw [List.dropLast_eq_take, List.dropLast_eq_take, h.length]
  exact h.take _
theorem get_last {K : PySem.W.Frag} {H : Hp} {ts : List T} {vs : List V} {t : T} (h : RepTs K H vs ts) (e : ts.getLast? = some t) : ∃ v, vs[vs.length - 1]? = some v ∧ RepT K H v t := by
  rw [List.getLast?_eq_getElem?] at e
  rw [h.length]
  exact h.get e
section
variable {x : Str} {p ap cp : Pos}
/-- what the call wants of the text -/
structure Cl0 (X : Cx) (x n : Str) (p ap cp : Pos) : Prop where
  base : attributeBase (.Name x p) n X.env (eval (.Name x p) X.env) = eval (.Name x p) X.env
  line : (ap.endLine == cp.line) = true
theorem se_pop (i j : Nat) {y : Str} {yp : Pos} (hnd : X.N.Nodup) (hj : X.N[j]? = some y) (hy : Loc X.env.scope y) (c : Cl0 X x "pop" p ap cp := by exact ⟨rfl, rfl⟩) (hN : X.N[i]? = some x := by rfl) (hv : Vis X.env.scope x := by first | exact Or.inl rfl | exact Or.inr (Or.inl rfl) | exact Or.inr (Or.inr rfl)) (hd : (x == ("__debug__" : Str)) = false := by decide)
    (hcd : (x == ("__classdict__" : Str)) = false := by decide) (hs : swapsWith (.Call (.Attribute (.Name x p) "pop" ap) [] [] cp) (some (.Name y yp)) pos.line X.env = pure false := by rfl) (hf : X.fn y = true ∨ X.env.scope.names.lookup y = some .local := by first | exact .inl rfl | exact .inr rfl | assumption) :
    SE X W st (.Assign [.Name y yp] (.Call (.Attribute (.Name x p) "pop" ap) [] [] cp) pos) (sPop i j) := by
  refine ⟨_, ps_set hnd hj hy (pe_bm0 PySem.F.plainAttrs_list PySem.F.slot_list_pop PySem.F.type_list_pop mt_pop (pe_var hN hv hd hcd) c.base c.line) hs hf, fun H0 B Ls S z σ H D h hq => ?_⟩
  unfold sPop at hq
  split at hq
  · rename_i ts es
    split at hq
    · rename_i t et
      split at hq
      · rename_i hl
        obtain ⟨l, xs, e1, h1, h2, own⟩ := get_il h es
        obtain ⟨v, e2, r⟩ := get_last h2 et
        have le : Le H (L2.upd H l (.lst xs.dropLast)) := Le.upd_lst h1
        have g := h.chg (y := .il ts.dropLast) (o := .lst xs.dropLast) es own h1 True.intro True.intro (.il upd_same (h2.dropLast.mono le))
        exact ⟨.ref l, e1, tyL h1, l, xs, v, rfl, rfl, h1, e2, hq _ _ (Stt.put (G' := []) (by simpa using g) (.im (r.mono le)) (by simpa using hl))⟩
      · exact hq.elim
    · exact hq.elim
  · exact hq.elim
theorem se_pop0 (i : Nat) (c : Cl0 X x "pop" p ap cp := by exact ⟨rfl, rfl⟩) (hN : X.N[i]? = some x := by rfl) (hv : Vis X.env.scope x := by first | exact Or.inl rfl | exact Or.inr (Or.inl rfl) | exact Or.inr (Or.inr rfl)) (hd : (x == ("__debug__" : Str)) = false := by decide)
    (hcd : (x == ("__classdict__" : Str)) = false := by decide) (hs : swapsWith (.Call (.Attribute (.Name x p) "pop" ap) [] [] cp) none pos.line X.env = pure false := by rfl) :
    SE X W st (.Expr (.Call (.Attribute (.Name x p) "pop" ap) [] [] cp) pos) (sPop0 i) := by
  refine ⟨_, ps_expr (pe_bm0 PySem.F.plainAttrs_list PySem.F.slot_list_pop PySem.F.type_list_pop mt_pop (pe_var hN hv hd hcd) c.base c.line) hs, fun H0 B Ls S z σ H D h hq => ?_⟩
  unfold sPop0 at hq
  split at hq
  · rename_i ts es
    split at hq
    · exact hq.elim
    · rename_i hne
      obtain ⟨l, xs, e1, h1, h2, own⟩ := get_il h es
      obtain ⟨v, e2, r⟩ := get_last h2 (List.getLast?_eq_some_getLast hne)
      have le : Le H (L2.upd H l (.lst xs.dropLast)) := Le.upd_lst h1
      have g := h.chg (y := .il ts.dropLast) (o := .lst xs.dropLast) es own h1 True.intro True.intro (.il upd_same (h2.dropLast.mono le))
      exact ⟨.ref l, e1, tyL h1, l, xs, v, rfl, rfl, h1, e2, hq _ _ g⟩
  · exact hq.elim
end

/-! ### text.join(list) -/
def strs? : List T → Option (List Str)
  | [] => some []
  | .str s :: ts => (strs? ts).map (s :: ·)
  | _ => none
theorem strs_rep {K : PySem.W.Frag} {H : Hp} : ∀ {ts : List T} {vs : List V} {ys : List Str}, RepTs K H vs ts → strs? ts = some ys → vs = ys.map V.str
  | [], _, _, h, e => by cases h; cases e; rfl
  | t :: ts, _, ys, h, e => by
    cases h with
    | cons h1 h2 =>
      cases t with
      | str s =>
        unfold strs? at e
        cases q : strs? ts with
        | none => rw [q] at e; cases e
        | some ms =>
          rw [q] at e
          cases e
          cases h1
          rw [strs_rep h2 q]; rfl
      | _ => cases e
def joinV (a : Str) (ys : List Str) : Option Val := if (ys.map (·.length)).sum + ys.length * a.length ≤ 16777216 ∧ sOk (Txt.join a ys) = true then some (.im (.str (Txt.join a ys))) else none
@[simp] def oJoin (x y : Val) : Option Val := match x with
  | .im (.str a) => match y with
    | .il ts => (strs? ts).bind (joinV a)
    | .im (.tup ts) => (strs? ts).bind (joinV a)
    | _ => none
  | _ => none
theorem joinV_some {a : Str} {o : Option (List Str)} {u : Val} (e : o.bind (joinV a) = some u) : ∃ ys, o = some ys ∧ (ys.map (·.length)).sum + ys.length * a.length ≤ 16777216 ∧ sOk (Txt.join a ys) = true ∧ u = .im (.str (Txt.join a ys)) := by
  cases o with
  | none => cases e
  | some ys =>
    have e' : joinV a ys = some u := e
    unfold joinV at e'
    split at e'
    · rename_i c; cases e'; exact ⟨ys, rfl, c.1, c.2, rfl⟩
    · cases e'
@[simp] def eJoin (ma mb : ME) : ME := fun S z => (ma S z).bind fun x z => match x with
  | .im (.str a) => (mb S z).bind fun y z => lft (oJoin (.im (.str a)) y) z
  | _ => .no
theorem fe_join {a b : Expr} {ma mb : ME} {ap : Pos} (ha : RE X W st a ma) (hb : RE X W st b mb) (hs : starEach [b] X.env = [(false, eval b X.env)] := by rfl) (hbase : attributeBase a "join" X.env (eval a X.env) = eval a X.env := by rfl) (hline : (ap.endLine == pos.line) = true := by rfl) :
    FE X W st (.Call (.Attribute a "join" ap) [b] [] pos) (eJoin ma mb) := by
  obtain ⟨ta, pa, fa⟩ := ha
  obtain ⟨tb, pb, fb⟩ := hb
  refine ⟨_, pe_join pa pb hs hbase hline, fun H0 B Ls G S z σ H Q h hq => ?_⟩
  refine fa H0 B Ls G S z σ H _ h (Ct.bind hq fun x z1 H1 ex x1 hz1 hq1 v hv => ?_)
  split at hq1
  · rename_i u
    obtain ⟨rfl, _⟩ := bor_str hv
    refine ⟨⟨_, rfl⟩, ?_⟩
    refine fb H0 B Ls G S z1 σ H1 _ (h.grow x1 hz1) (hq1.bind fun y z2 H2 _ x2 hz2 hq2 w hw => ?_)
    cases e : oJoin (.im (.str u)) y with
    | none => rw [e] at hq2; exact hq2.elim
    | some r =>
      rw [e] at hq2
      dsimp only [oJoin] at e
      have fin : ∀ (ts : List T) (ws : List V) (p : Addr), (SqL X.K H2 p ws ∨ SqT X.K H2 p ws) → RepTs X.K H2 ws ts → (strs? ts).bind (joinV u) = some r → ∃ a p', ∃ ys : List Str, V.str u = .str a ∧ [V.ref p] = [.ref p'] ∧ (SqL X.K H2 p' (ys.map V.str) ∨ SqT X.K H2 p' (ys.map V.str)) ∧
          (ys.map (·.length)).sum + ys.length * a.length ≤ 16777216 ∧ Q (.str (Txt.join a ys)) H2 := fun ts ws p hp r1 e => by
        obtain ⟨ys, e1, e2, e3, rfl⟩ := joinV_some e
        have := strs_rep r1 e1
        subst this
        exact ⟨u, p, ys, rfl, rfl, hp, e2, Ct.fin ((h.grow x1 hz1).grow x2 hz2) hq2 (Same.refl H2) (.im (.str _ e3)) List.nodup_nil (fun _ z => by cases z)⟩
      have hw' := bor_hid hw
      cases y with
      | il ts =>
        cases hw' with
        | @il p xs _ h1 h2 => exact fin ts xs p (.inl (.of h1)) h2 e
      | im t =>
        cases t with
        | tup ts =>
          cases hw' with
          | im r1 =>
            cases r1 with
            | @tup p xs _ h1 h2 => exact fin ts xs p (.inr h1) h2 e
        | _ => cases e
      | _ => cases e
  · exact hq1.elim

/-! ### loops over a walk that gives the things ts -/
theorem walk_core {J : It} {Gd : Hp → Prop} {Y : Nat → Hp → V → Hp → Prop} {g : MGt} {tG : TG} {tb : TS} {mb : MS} (fg : ∀ H0 B Ls S z σ H v u S' (Q : L2.St → Hp → Prop), Stt X.K st H0 B Ls [] S z σ H → RepT X.K H v u → g u S = some S' → (∀ σ', Stt X.K st H0 B Ls [] S' z σ' H → Q σ' H) → tG v σ H Q)
    (fb : ∀ H0 B Ls S z σ H D, Stt X.K st H0 B Ls [] S z σ H → Cs X W st H0 B Ls D (mb S z) → tb D σ H)
    {H0 B H : Hp} {Ls : List (Option (V × Val))} {S : List Sv} {z : Zs} {σ : L2.St} {ts : List T} {n : Nat} {D : Ends} (w : Walk J n Gd Y) (hn : n = ts.length) (h : Stt X.K st H0 B Ls [] S z σ H)
    (hG : ∀ S z σ H, Stt X.K st H0 B Ls [] S z σ H → Gd H) (hY : ∀ i S z σ H x H', i < n → Stt X.K st H0 B Ls [] S z σ H → Y i H x H' → Stt X.K st H0 B Ls [] S z σ H' ∧ ∃ t, ts[i]? = some t ∧ RepT X.K H' x t) (hq : Cs X W st H0 B Ls D (sTurns g mb ts S z)) :
    ∃ W' : Nat → Nat → L2.St → Hp → Prop, (∃ m, W' 0 m σ H) ∧ ∀ i m σ H, W' i m σ H →
      (J.stop i H ∧ D.nx σ H) ∨ (J.go i H ∧ ∃ N : L2.St → Hp → Prop, (∀ σ' H', N σ' H' → ∃ m', m' < m ∧ W' (i + 1) m' σ' H') ∧ ∀ x H', J.yld i H x H' → tG x σ H' fun σ2 H2 => tb { D with nx := N, ct := N, bk := D.nx } σ2 H2) := by
  refine for_it w (fun i σ H => ∃ S z, Stt X.K st H0 B Ls [] S z σ H ∧ Cs X W st H0 B Ls D (sTurns g mb (ts.drop i) S z)) ⟨S, z, h, by simpa using hq⟩ (fun i σ H _ ⟨S, z, h, _⟩ => hG S z σ H h) ?_ ?_
  · rintro i x σ1 H1 H2 hi ⟨S1, z1, h1, q1⟩ y
    obtain ⟨h2, t, et, rt⟩ := hY i S1 z1 σ1 H1 x H2 hi h1 y
    have ed : ts.drop i = t :: ts.drop (i + 1) := by
      obtain ⟨hi, e⟩ := List.getElem?_eq_some_iff.mp et
      rw [List.drop_eq_getElem_cons hi, e]
    rw [ed] at q1
    exact turn_ok fg fb h2 rt q1
  · rintro σ1 H1 ⟨S1, z1, h1, q1⟩
    rw [hn, List.drop_length] at q1
    exact q1 σ1 H1 h1
/-- a new pair -/
theorem pair_new {H0 B H H' : Hp} {Ls : List (Option (V × Val))} {S : List Sv} {z : Zs} {σ : L2.St} {x y : V} {t u : T} {p : Addr} (h : Stt X.K st H0 B Ls [] S z σ H) (hp : H p = none) (e : H' = L2.upd H p (.tup [x, y])) (r1 : RepT X.K H x t) (r2 : RepT X.K H y u) :
    Stt X.K st H0 B Ls [] S z σ H' ∧ RepT X.K H' (.ref p) (.tup [t, u]) := by
  subst e
  have s1 : Same H (L2.upd H p (.tup [x, y])) := Same.upd_new hp
  have le := Le.of_same s1
  exact ⟨h.grow (.of_same s1) (h.zr.new s1), .tup (.inl (.inl upd_same)) (.cons (r1.mono le) (.cons (r2.mono le) .nil))⟩
/-- where a loop's things lie, through the loop -/
def Src (X : Cx) (st : Option Addr) (H0 B : Hp) (Ls : List (Option (V × Val))) (tup : Bool) (a : Addr) (xs : List V) (ts : List T) : Prop :=
  ∀ S z σ H, Stt X.K st H0 B Ls [] S z σ H → (if tup then SqT X.K H a xs else SqL X.K H a xs) ∧ RepTs X.K H xs ts
/-- over a slot: the loop k walks the things in it -/
@[simp] def sSrc (i : Nat) (k : Bool → List T → MS) : MS := fun S z => match S[i]? with
  | some (.o (.il ts)) => (k false ts (S.set i (.lk (.il ts))) z).map (unlk i)
  | some (.b (.il ts)) => k false ts S z
  | some (.lk (.il ts)) => k false ts S z
  | some (.o (.im (.tup ts))) => k true ts S z
  | some (.b (.im (.tup ts))) => k true ts S z
  | some (.lk (.im (.tup ts))) => k true ts S z
  | _ => .no
theorem src_ok {i : Nat} {k : Bool → List T → MS} {H0 B H : Hp} {Ls : List (Option (V × Val))} {S : List Sv} {z : Zs} {σ : L2.St} {D : Ends} (h : Stt X.K st H0 B Ls [] S z σ H) (hq : Cs X W st H0 B Ls D (sSrc i k S z)) :
    ∃ a xs ts tup B' Ls' S', σ[i]? = some (some (.ref a)) ∧ Stt X.K st H0 B' Ls' [] S' z σ H ∧ Src X st H0 B' Ls' tup a xs ts ∧ Cs X W st H0 B' Ls' D (k tup ts S' z) := by
  have tupc : ∀ {ts : List T} {v : V}, σ[i]? = some (some v) → RepT X.K H v (.tup ts) → Cs X W st H0 B Ls D (k true ts S z) → ∃ a xs ts tup B' Ls' S', σ[i]? = some (some (.ref a)) ∧ Stt X.K st H0 B' Ls' [] S' z σ H ∧ Src X st H0 B' Ls' tup a xs ts ∧ Cs X W st H0 B' Ls' D (k tup ts S' z) := fun {ts v} e1 r q => by
    have h2 := Stt.more (Gx := []) (by simpa using h)
    have r' := r.mono (Bex.le (Gs := []) h.ble)
    cases r' with
    | @tup a xs _ r1 r2 => exact ⟨a, xs, ts, true, _, _, S, e1, h2, fun S z σ H h => ⟨by simpa using (Le.of_same h.ble).sqt r1, r2.mono (Le.of_same h.ble)⟩, Cs.less (Bex.up h.ble) h.lks q⟩
  obtain ⟨Gs, hsl, nd, fr⟩ := h.ex
  unfold sSrc at hq
  split at hq
  · rename_i ts e
    obtain ⟨v, Gi, e1, od, ndi, fri, h2⟩ := h.lock e
    have hl : i < Ls.length := by rw [hsl.lengthL]; exact (List.getElem?_eq_some_iff.mp e).1
    have hq2 := Cs.unlock (Bex.up h.ble) h.lks hl od ndi fri hq
    cases od with
    | @il a xs _ r1 r2 => exact ⟨a, xs, ts, false, _, _, _, e1, h2, fun S z σ H h => ⟨by simpa using SqL.of (h.ble _ _ r1), r2.mono (Le.of_same h.ble)⟩, hq2⟩
  · rename_i ts e
    obtain ⟨v, e1, bw⟩ := hsl.get_b e
    cases bw with
    | @il a xs _ r1 r2 =>
      have up : ∀ {S z σ H}, Stt X.K st H0 B Ls [] S z σ H → Same (hid st H0) H := fun {S z σ H} h a o q => hid_same st H a o (h.fr.hid a o q)
      exact ⟨a, xs, ts, false, _, _, S, e1, h, fun S z σ H h => ⟨by simpa using SqL.of (up h _ _ r1), r2.mono (Le.of_same (up h))⟩, hq⟩
  · rename_i ts e
    obtain ⟨v, e1, el⟩ := hsl.get_lk e
    cases h.lks i v _ el with
    | @il a xs _ r1 r2 => exact ⟨a, xs, ts, false, _, _, S, e1, h, fun S z σ H h => ⟨by simpa using SqL.of (h.ble _ _ r1), r2.mono (Le.of_same h.ble)⟩, hq⟩
  · rename_i ts e
    obtain ⟨v, G1, Ga, Gb, e1, ow, _⟩ := hsl.get_o e
    cases ow with
    | im r => exact tupc e1 r hq
  · rename_i ts e
    obtain ⟨v, e1, bw⟩ := hsl.get_b e
    cases bw with
    | im r => exact tupc e1 ((r.mono (Le.of_same h.fr.hid)).mono (Le.of_same (hid_same st H))) hq
  · rename_i ts e
    obtain ⟨v, e1, el⟩ := hsl.get_lk e
    cases h.lks i v _ el with
    | im r => exact tupc e1 (r.mono (Le.of_same h.ble)) hq
  · exact hq.elim

/-! ### for .. in enumerate(..) -/
def enumT (ts : List T) : List T := ts.zipIdx.map fun p => .tup [.int p.2, p.1]
theorem enumT_get {ts : List T} {i : Nat} {t : T} (h : ts[i]? = some t) : (enumT ts)[i]? = some (.tup [.int i, t]) := by
  unfold enumT
  rw [List.getElem?_map, List.getElem?_zipIdx, h]
  simp
theorem enumT_length (ts : List T) : (enumT ts).length = ts.length := by simp [enumT]
theorem enum_core {g : MGt} {tG : TG} {tb : TS} {mb : MS} (fg : ∀ H0 B Ls S z σ H v u S' (Q : L2.St → Hp → Prop), Stt X.K st H0 B Ls [] S z σ H → RepT X.K H v u → g u S = some S' → (∀ σ', Stt X.K st H0 B Ls [] S' z σ' H → Q σ' H) → tG v σ H Q)
    (fb : ∀ H0 B Ls S z σ H D, Stt X.K st H0 B Ls [] S z σ H → Cs X W st H0 B Ls D (mb S z) → tb D σ H)
    {H0 B H : Hp} {Ls : List (Option (V × Val))} {S : List Sv} {z : Zs} {σ : L2.St} {ts : List T} {D : Ends} {a : Addr} {xs : List V} (hs : Src X st H0 B Ls false a xs ts) (h : Stt X.K st H0 B Ls [] S z σ H) (hq : Cs X W st H0 B Ls D (sTurns g mb (enumT ts) S z)) :
    ∃ W' : Nat → Nat → L2.St → Hp → Prop, (∃ m, W' 0 m σ H) ∧ ∀ i m σ H, W' i m σ H →
      ((Ite X.K a).stop i H ∧ D.nx σ H) ∨ ((Ite X.K a).go i H ∧ ∃ N : L2.St → Hp → Prop, (∀ σ' H', N σ' H' → ∃ m', m' < m ∧ W' (i + 1) m' σ' H') ∧ ∀ x H', (Ite X.K a).yld i H x H' → tG x σ H' fun σ2 H2 => tb { D with nx := N, ct := N, bk := D.nx } σ2 H2) := by
  refine walk_core fg fb walk_enum (ts := enumT ts) (by rw [enumT_length, (hs S z σ H h).2.length]) h (fun S z σ H h => by simpa using (hs S z σ H h).1) (fun i S z σ H x H' hi h y => ?_) hq
  obtain ⟨p, u, v, rfl, hp, e, e1, e2⟩ := y
  obtain ⟨t, et, rt⟩ := (hs S z σ H h).2.getV e2
  cases e1
  obtain ⟨g1, g2⟩ := pair_new h hp e (.int _) rt
  exact ⟨g1, _, enumT_get et, g2⟩
@[simp] def kEnum (g : MGt) (body : MS) : Bool → List T → MS := fun tup ts => if tup then fun _ _ => .no else sTurns g body (enumT ts)
/-- over a fresh list -/
@[simp] def sEnum (m : ME) (g : MGt) (body : MS) : MS := fun S z => (m S z).go S fun x z => match x with
  | .il ts => sTurns g body (enumT ts) S z
  | _ => .no
theorem se_enum {elts : List Expr} {kk : Nat} {tpos p ip : Pos} {e : Expr} {body : List Stmt} {m : ME} {g : MGt} {mb : MS} (hp : PassesOwn (model X.prog X.w) X.A X.env X.xe) (hc : X.calm = true) (hgl : Gl X "enumerate") (hm : X.mg "enumerate" = none) (he : FE X W st e m) (hg : GE X st (.Tuple elts kk tpos) g) (hb : SEs X W st body mb)
    (hs0 : starEach [e] X.env = [(false, eval e X.env)] := by rfl) (hs1 : starEach [e] X.env = (false, eval e X.env) :: starEach [] X.env := by rfl) (hs : ∀ x, foldedSetIterable (.Call (.Name "enumerate" p) [e] [] ip) X.env x = pure x := by intro _; rfl) :
    SE X W st (.For (.Tuple elts kk tpos) (.Call (.Name "enumerate" p) [e] [] ip) body [] pos) (sEnum m g mb) := by
  obtain ⟨t, pe, f⟩ := he
  obtain ⟨tG, pG, fg⟩ := hg
  obtain ⟨tb, pb, fb⟩ := hb
  refine ⟨_, ps_for hp hc (pi_enum hgl hm (pa_cons pe pa_nil hs1) hs0) pG pb hs, fun H0 B Ls S z σ H D h hq => ?_⟩
  refine f H0 B Ls [] S z σ H _ h (Cs.go h hq fun x z1 H1 _ x1 hz1 hq1 v G' ow h1 => ?_)
  have up := Bex.up (Gs := G') h1.ble
  have h2 := h1.more
  have od : Own X.K (Bex B H1 G') v x G' := ow.mono (Bex.le h1.ble) fun a ha o e => by rw [Bex.in_ ha]; exact e
  cases x with
  | il ts =>
    cases od with
    | @il a xs _ r1 r2 => exact ⟨a, xs, rfl, .of (h2.ble _ _ r1), enum_core fg fb (fun S z σ H h => ⟨by simpa using SqL.of (h.ble _ _ r1), r2.mono (Le.of_same h.ble)⟩) h2 (Cs.less up h1.lks hq1)⟩
  | _ => exact hq1.elim
/-- over a slot's list -/
@[simp] def sEnumV (i : Nat) (g : MGt) (body : MS) : MS := sSrc i (kEnum g body)
theorem se_enumV (i : Nat) {elts : List Expr} {kk : Nat} {tpos p ip xp : Pos} {x : Str} {body : List Stmt} {g : MGt} {mb : MS} (hp : PassesOwn (model X.prog X.w) X.A X.env X.xe) (hc : X.calm = true) (hgl : Gl X "enumerate") (hm : X.mg "enumerate" = none) (hg : GE X st (.Tuple elts kk tpos) g) (hb : SEs X W st body mb)
    (hN : X.N[i]? = some x := by rfl) (hv : Vis X.env.scope x := by first | exact Or.inl rfl | exact Or.inr (Or.inl rfl) | exact Or.inr (Or.inr rfl)) (hd : (x == ("__debug__" : Str)) = false := by decide) (hcd : (x == ("__classdict__" : Str)) = false := by decide)
    (hs0 : starEach [Expr.Name x xp] X.env = [(false, eval (Expr.Name x xp) X.env)] := by rfl) (hs1 : starEach [Expr.Name x xp] X.env = (false, eval (Expr.Name x xp) X.env) :: starEach [] X.env := by rfl) (hs : ∀ y, foldedSetIterable (.Call (.Name "enumerate" p) [.Name x xp] [] ip) X.env y = pure y := by intro _; rfl) :
    SE X W st (.For (.Tuple elts kk tpos) (.Call (.Name "enumerate" p) [.Name x xp] [] ip) body [] pos) (sEnumV i g mb) := by
  obtain ⟨tG, pG, fg⟩ := hg
  obtain ⟨tb, pb, fb⟩ := hb
  refine ⟨_, ps_for hp hc (pi_enum hgl hm (pa_cons (pe_var hN hv hd hcd) pa_nil hs1) hs0) pG pb hs, fun H0 B Ls S z σ H D h hq => ?_⟩
  obtain ⟨a, xs, ts, tup, B', Ls', S', e1, h', hsrc, hq'⟩ := src_ok h hq
  cases tup with
  | true => exact hq'.elim
  | false => exact ⟨.ref a, e1, a, xs, rfl, by simpa using (hsrc _ _ _ _ h').1, enum_core fg fb hsrc h' hq'⟩

/-! ### for .. in zip(..) of two tuples -/
theorem walk_zipT {K : PySem.W.Frag} {a b : Addr} {xs ys : List V} {n : Nat} (hn : n = min xs.length ys.length) : Walk (RZ.ItzT K a b) n (fun H => SqT K H a xs ∧ SqT K H b ys) (YPair (fun i => xs[i]?) (fun i => ys[i]?)) := by
  subst hn
  refine ⟨fun i _ hi q => ?_, fun _ q => ⟨xs, ys, q.1, q.2, by omega⟩, fun i H v H' _ q y => ?_⟩
  · have h1 : i < xs.length := by omega
    have h2 : i < ys.length := by omega
    exact ⟨xs, ys, xs[i], ys[i], q.1, q.2, by simp [h1], by simp [h2]⟩
  · obtain ⟨T, x, z, h1, h2, h3, h4, h5⟩ := y
    exact ⟨T, x, z, h1, h2, h3, h4 xs q.1, h5 ys q.2⟩
def zipT (ts us : List T) : List T := (ts.zip us).map fun p => .tup [p.1, p.2]
theorem zipT_length (ts us : List T) : (zipT ts us).length = min ts.length us.length := by simp [zipT]
theorem zipT_get {ts us : List T} {i : Nat} {t u : T} (h : ts[i]? = some t) (g : us[i]? = some u) : (zipT ts us)[i]? = some (.tup [t, u]) := by
  unfold zipT
  rw [List.getElem?_map, List.getElem?_zip_eq_some (z := (t, u)) |>.mpr ⟨h, g⟩]
  rfl
@[simp] def sZip (ms : MAs) (g : MGt) (body : MS) : MS := fun S z => (ms S z).go S fun xs z => match xs with
  | [.im (.tup ts), .im (.tup us)] => sTurns g body (zipT ts us) S z
  | _ => .no
theorem se_zip {elts : List Expr} {kk : Nat} {tpos p ip : Pos} {e e2 : Expr} {body : List Stmt} {ms : MAs} {g : MGt} {mb : MS} (hp : PassesOwn (model X.prog X.w) X.A X.env X.xe) (hc : X.calm = true) (hgl : Gl X "zip") (hm : X.mg "zip" = none) (ha : RA X W st [e, e2] ms) (hg : GE X st (.Tuple elts kk tpos) g) (hb : SEs X W st body mb)
    (hs0 : starEach [e, e2] X.env = (false, eval e X.env) :: starEach [e2] X.env := by rfl) (hpl : (backTo ip (starEach [e2] X.env)).any (·.1) = false := by rfl) (hs : ∀ x, foldedSetIterable (.Call (.Name "zip" p) [e, e2] [] ip) X.env x = pure x := by intro _; rfl) :
    SE X W st (.For (.Tuple elts kk tpos) (.Call (.Name "zip" p) [e, e2] [] ip) body [] pos) (sZip ms g mb) := by
  obtain ⟨t, pa, f⟩ := ha
  obtain ⟨tG, pG, fg⟩ := hg
  obtain ⟨tb, pb, fb⟩ := hb
  refine ⟨_, ps_for hp hc (RZ.pi_zipA hgl hm pa hs0 hpl) pG pb hs, fun H0 B Ls S z σ H D h hq => ?_⟩
  refine f H0 B Ls [] S z σ H _ h (Cs.go h hq fun xs z1 H1 ee x1 hz1 hq1 vs hvs => ?_)
  have g1 := h.grow x1 hz1
  clear ee
  split at hq1
  · rename_i ts us
    obtain ⟨v, w, rfl, b1, b2⟩ := hvs.two
    have h2 := Stt.more (Gx := []) (by simpa using g1)
    have up := Bex.up (Gs := []) g1.ble
    cases bor_hid b1 with
    | im r1 =>
      cases bor_hid b2 with
      | im r2 =>
        cases r1.mono (Bex.le (Gs := []) g1.ble) with
        | @tup a xs _ q1 q2 =>
          cases r2.mono (Bex.le (Gs := []) g1.ble) with
          | @tup b ys _ q3 q4 =>
            refine ⟨a, b, xs, ys, rfl, .inr ⟨(Le.of_same h2.ble).sqt q1, (Le.of_same h2.ble).sqt q3, ?_⟩⟩
            refine walk_core fg fb (walk_zipT rfl) (ts := zipT ts us) (by rw [zipT_length, q2.length, q4.length]) h2 (fun S z σ H h => ⟨(Le.of_same h.ble).sqt q1, (Le.of_same h.ble).sqt q3⟩) (fun i S z σ H x H' hi h y => ?_) (Cs.less up g1.lks hq1)
            obtain ⟨p, u, v, rfl, hp, e, e1, e2⟩ := y
            obtain ⟨t, et, rt⟩ := (q2.mono (Le.of_same h.ble)).getV e1
            obtain ⟨t2, et2, rt2⟩ := (q4.mono (Le.of_same h.ble)).getV e2
            obtain ⟨g1, g2⟩ := pair_new h hp e rt rt2
            exact ⟨g1, _, zipT_get et et2, g2⟩
  · exact hq1.elim

/-! ### all, any, sum of a list -/
def bools? : List T → Option (List Bool)
  | [] => some []
  | .bl b :: ts => (bools? ts).map (b :: ·)
  | _ => none
theorem bools_rep {K : PySem.W.Frag} {H : Hp} : ∀ {ts : List T} {vs : List V} {ys : List Bool}, RepTs K H vs ts → bools? ts = some ys → vs = ys.map V.bl
  | [], _, _, h, e => by cases h; cases e; rfl
  | t :: ts, _, ys, h, e => by
    cases h with
    | cons h1 h2 =>
      cases t with
      | bl b =>
        unfold bools? at e
        cases q : bools? ts with
        | none => rw [q] at e; cases e
        | some ms =>
          rw [q] at e
          cases e
          cases h1
          rw [bools_rep h2 q]; rfl
      | _ => cases e
@[simp] def oAll : List Val → Option Val
  | [.il ts] => (bools? ts).map fun bs => .im (.bl (bs.all id))
  | _ => none
@[simp] def oAny : List Val → Option Val
  | [.il ts] => (bools? ts).map fun bs => .im (.bl (bs.any id))
  | _ => none
@[simp] def oSum : List Val → Option Val
  | [.il ts] => (ints? ts).map fun ns => .im (.int ns.sum)
  | _ => none
theorem fn_all : Fn X st (rAll X.K) oAll := by
  intro H vs xs y Q hv e q
  unfold oAll at e
  split at e
  · rename_i ts
    obtain ⟨bs, eb, rfl⟩ := Option.map_eq_some_iff.mp e
    obtain ⟨v, rfl, h⟩ := hv.one
    cases h with
    | @il a xs _ h1 h2 =>
      have := bools_rep h2 eb
      subst this
      exact ⟨a, bs, rfl, .of (not_hid h1), q _ H [] (Same.refl H) (.im (.bl _)) List.nodup_nil (fun _ z => by cases z)⟩
  · cases e
theorem fn_any : Fn X st (rAny X.K) oAny := by
  intro H vs xs y Q hv e q
  unfold oAny at e
  split at e
  · rename_i ts
    obtain ⟨bs, eb, rfl⟩ := Option.map_eq_some_iff.mp e
    obtain ⟨v, rfl, h⟩ := hv.one
    cases h with
    | @il a xs _ h1 h2 =>
      have := bools_rep h2 eb
      subst this
      exact ⟨a, bs, rfl, .of (not_hid h1), q _ H [] (Same.refl H) (.im (.bl _)) List.nodup_nil (fun _ z => by cases z)⟩
  · cases e
theorem fn_sum : Fn X st (rSum X.K) oSum := by
  intro H vs xs y Q hv e q
  unfold oSum at e
  split at e
  · rename_i ts
    obtain ⟨bs, eb, rfl⟩ := Option.map_eq_some_iff.mp e
    obtain ⟨v, rfl, h⟩ := hv.one
    cases h with
    | @il a xs _ h1 h2 =>
      have := ints_rep h2 eb
      subst this
      exact ⟨a, bs, rfl, .of (not_hid h1), q _ H [] (Same.refl H) (.im (.int _)) List.nodup_nil (fun _ z => by cases z)⟩
  · cases e
@[simp] def eAll := eFn oAll
@[simp] def eAny := eFn oAny
@[simp] def eSum := eFn oSum
section
variable {p : Pos} {e : Expr} {ms : MAs}
theorem fe_all (hc : X.calm = true) (hg : Gl X "all") (hm : X.mg "all" = none) (ha : RA X W st [e] ms) (he : starEach [e] X.env = (false, eval e X.env) :: starEach [] X.env := by rfl) : FE X W st (.Call (.Name "all" p) [e] [] pos) (eAll ms) := fe_callB (cr_all hc) fn_all hg hm (by decide +kernel) ha (he := he)
theorem fe_any (hc : X.calm = true) (hg : Gl X "any") (hm : X.mg "any" = none) (ha : RA X W st [e] ms) (he : starEach [e] X.env = (false, eval e X.env) :: starEach [] X.env := by rfl) : FE X W st (.Call (.Name "any" p) [e] [] pos) (eAny ms) := fe_callB (cr_any hc) fn_any hg hm (by decide +kernel) ha (he := he)
theorem fe_sum (hc : X.calm = true) (hg : Gl X "sum") (hm : X.mg "sum" = none) (ha : RA X W st [e] ms) (he : starEach [e] X.env = (false, eval e X.env) :: starEach [] X.env := by rfl) : FE X W st (.Call (.Name "sum" p) [e] [] pos) (eSum ms) := fe_callB (cr_sum hc) fn_sum hg hm (by decide +kernel) ha (he := he)
end
end
end MM

/-! MO: defs with keyword-only parameters. -/
namespace MM
open PySem PySem.Spec PyProof.Rows L2
section
variable {X : Cx} {W : WX} {st : Option Addr} {pos : Pos}
/-- f(e, ..): the things ds stand for the parameters that lack -/
@[simp] def eCallD (m : MF) (ms : MAs) (ds : List Val) : ME := fun S z => (ms S z).bind fun xs z => match m (xs ++ ds) with
  | .ok x _ => .ok x z
  | .ex c _ => .ex c z
  | .no => .no
/-- f(e, .., k = v, ..) -/
@[simp] def eCallN (n : Nat) (m : MF) (ms mk : MAs) : ME := fun S z => (ms S z).bind fun xs z => (mk S z).bind fun ys z => if xs.length = n then match m (xs ++ ys) with
  | .ok x _ => .ok x z
  | _ => .no
  else .no
theorem BorS.append {K : PySem.W.Frag} {H : Hp} : ∀ {vs ws : List V} {xs ys : List Val}, BorS K H vs xs → BorS K H ws ys → BorS K H (vs ++ ws) (xs ++ ys)
  | _, _, _, _, .nil, g => g
  | _, _, _, _, .cons h t, g => .cons h (BorS.append t g)
/-- what the keywords give -/
def RK (X : Cx) (W : WX) (st : Option Addr) (ks : List Str) (kws : List Keyword) (m : MAs) : Prop := ∃ t, PK X kws t ∧ ∀ H0 B Ls G S z σ H Q, Stt X.K st H0 B Ls G S z σ H →
  Ct X W st σ H (m S z) (fun xs z' H' => ∀ vs, vs.length = ks.length → BorS X.K (hid st H') vs xs → Q vs H') → t σ H Q
section
variable {k : Nat} {f : Addr} {fd : FuncData} {ps : List Str} {x : Str} {p : Pos} {e : Expr} {es : List Expr} {ms mk : MAs}
theorem fe_callD {m : MF} {dvs : List V} {ds : List Value} {dx : List Val} (F : FnOk X.prog X.w X.K X.mg X.base (L2.CX X.prog X.w) k f fd ps (spP X.K X.mg m)) (hr : Room k X.A) (hg : Gl X x) (hm : X.mg x = some (.ref f)) (hk : PySem.W.keepIn X.K (.ref f) = true) (hb : Binds X.K fd ps ds) (hd : Vals dvs ds) (hB : ∀ H, BorS X.K H dvs dx) (tk : Takes X W)
    (ha : RA X W st (e :: es) ms) (hdb : (x == ("__debug__" : Str)) = false := by decide) (he : starEach (e :: es) X.env = (false, eval e X.env) :: starEach es X.env := by rfl) (hpl : (backTo pos (starEach es X.env)).any (·.1) = false := by rfl) :
    FE X W st (.Call (.Name x p) (e :: es) [] pos) (eCallD m ms dx) := by
  obtain ⟨t, pa, g⟩ := ha
  refine ⟨tCallSD _ dvs (WE W) t, pe_callSD F hr hg hm hk hb hd (fun σ => passAt tk σ) pa hdb he hpl, fun H0 B Ls G S z σ H Q h hq => ?_⟩
  refine g H0 B Ls G S z σ H _ h (hq.bind fun xs z1 H1 _ x1 hz1 hq1 vs hvs => ?_)
  refine ⟨xs ++ dx, hvs.hid.append (hB _), ?_⟩
  have h1 := h.grow x1 hz1
  cases em : m (xs ++ dx) with
  | ok y zz =>
    rw [em] at hq1
    exact fun v H' G' s ow nd fr => Ct.fin h1 hq1 s ow nd fr
  | ex c zz =>
    rw [em] at hq1
    exact fun cv d H' s xr => hq1 cv d H' (.of_same s) (hz1.new s) xr
  | no => rw [em] at hq1; exact hq1.elim
theorem rk_nil : RK X W st [] [] aNil := ⟨tNil, pk_nil, fun H0 B Ls G S z σ H Q h hq => by
  exact hq.ok h.zr [] rfl .nil⟩
theorem rk_one {nm : Str} {kpos : Pos} {m : ME} (he : RE X W st e m) : RK X W st [nm] [⟨some nm, e, kpos⟩] (aCons m aNil) := by
  obtain ⟨t, pe, fe⟩ := he
  refine ⟨_, pk_cons pe pk_nil, fun H0 B Ls G S z σ H Q h hq => ?_⟩
  unfold aCons at hq
  refine fe H0 B Ls G S z σ H _ h (Ct.bind hq fun x z1 H1 _ x1 hz1 hq1 v hv => ?_)
  simp only [aNil, Rs.bind_ok] at hq1
  exact hq1.ok hz1 [v] rfl (.cons hv .nil)
theorem fe_callN {n : Nat} {m : MF} {ks : List Str} {kws : List Keyword} (F : FnOk X.prog X.w X.K X.mg X.base (L2.CX X.prog X.w) k f fd ps (spP X.K X.mg m)) (hr : Room k X.A) (hg : Gl X x) (hm : X.mg x = some (.ref f)) (hk : PySem.W.keepIn X.K (.ref f) = true) (hb : KBn X.K fd ps n ks (fun us ws => us ++ ws) (fun vs zs => vs ++ zs))
    (ha : RA X W st (e :: es) ms) (hkw : RK X W st ks kws mk) (hall : (backToKw pos (keywordEach kws X.env)).all (·.1.isSome) = true := by rfl) (hks : (backToKw pos (keywordEach kws X.env)).filterMap (·.1) = ks := by rfl)
    (hdb : (x == ("__debug__" : Str)) = false := by decide) (he : starEach (e :: es) X.env = (false, eval e X.env) :: starEach es X.env := by rfl)
    (hpl : ((backTo pos (starEach (e :: es) X.env)).any (·.1) || (backToKw pos (keywordEach kws X.env)).any (·.1.isNone)) = false := by rfl) :
    FE X W st (.Call (.Name x p) (e :: es) kws pos) (eCallN n m ms mk) := by
  obtain ⟨t, pa, g⟩ := ha
  obtain ⟨tk, pk, gk⟩ := hkw
  refine ⟨_, pe_callN (E := E0) F hr hg hm hk hb passL pa pk hall hks hdb he hpl, fun H0 B Ls G S z σ H Q h hq => ?_⟩
  refine g H0 B Ls G S z σ H _ h (hq.bind fun xs z1 H1 _ x1 hz1 hq1 vs hvs => ?_)
  have h1 := h.grow x1 hz1
  refine gk H0 B Ls G S z1 σ H1 _ h1 (hq1.bind fun ys z2 H2 _ x2 hz2 hq2 zs hl2 hzs => ?_)
  have h2 := h1.grow x2 hz2
  split at hq2
  · rename_i hl
    refine ⟨by rw [hvs.length]; exact hl, hl2, xs ++ ys, (hvs.mono x2.hid).hid.append hzs.hid, ?_⟩
    cases em : m (xs ++ ys) with
    | ok y zz =>
      rw [em] at hq2
      exact fun v H' G' s ow nd fr => Ct.fin h2 hq2 s ow nd fr
    | ex c zz => rw [em] at hq2; exact hq2.elim
    | no => rw [em] at hq2; exact hq2.elim
  · exact hq2.elim
end
end
end MM

/-! MQ: a new list that nobody changes any more. -/
namespace MM
open PySem PySem.Spec PyProof.Rows L2
section
variable {X : Cx} {W : WX} {st : Option Addr} {pos : Pos}
/-- a new list may be kept as it is -/
def tFz (t : TE) : TE := fun σ H Q => t σ H fun v H1 => Q v H1 ∨ ∃ a xs, v = .ref a ∧ H1 a = some (.lst xs) ∧ ∀ o, Q v (L2.upd H1 a (.frz o (.lst xs)))
theorem pe_fz {e : Expr} {t : TE} (h : PE X e t) : PE X e (tFz t) := by
  refine ⟨fun pins s σ H Q I hw => ?_⟩
  refine wpAny_mono (h.run pins s σ H _ I hw) (fun u s1 ⟨v, H1, I1, r1, q1⟩ => ?_) fun _ _ q => q
  rcases q1 with q | ⟨a, xs, rfl, ha, q⟩
  · exact ⟨v, H1, I1, r1, q⟩
  · obtain ⟨o, I2⟩ := I1.lock ha trivial
    exact ⟨.ref a, _, I2, r1, q o⟩
/-- a value that never changes; a new list is kept as it is -/
@[simp] def fz (x : Val) (z : Zs) : Rs Val := match x with
  | .im t => .ok (.im t) z
  | .il ts => .ok (.im (.ls ts)) z
  | _ => .no
@[simp] def eFz (m : ME) : ME := fun S z => (m S z).bind fz
/-- the end of an expression whose new list is kept as it is -/
theorem Ct.finFz {H0 B : Hp} {Ls : List (Option (V × Val))} {G : List Addr} {S : List Sv} {z : Zs} {σ : L2.St} {H H1 : Hp} {Q : VK} {x : Val} (h : Stt X.K st H0 B Ls G S z σ H)
    (hq : Ct X W st σ H (fz x z) (fun x z' H' => ∀ v G', Own X.K H' v x G' → Stt X.K st H0 B Ls (G' ++ G) S z' σ H' → Q v H')) {v : V} {G' : List Addr} (s : Same H H1) (o : Own X.K H1 v x G') (nd : G'.Nodup) (fr : ∀ a ∈ G', H a = none) :
    Q v H1 ∨ ∃ a xs, v = .ref a ∧ H1 a = some (.lst xs) ∧ ∀ ob, Q v (L2.upd H1 a (.frz ob (.lst xs))) := by
  cases x with
  | im t => exact .inl (Ct.fin h hq s o nd fr)
  | il ts =>
    cases o with
    | @il a xs _ ha r =>
      refine .inr ⟨a, xs, rfl, ha, fun ob => ?_⟩
      have le : Le H1 (L2.upd H1 a (.frz ob (.lst xs))) := Le.upd_mu ha True.intro
      have sm : Same H (L2.upd H1 a (.frz ob (.lst xs))) := fun b u e => by rw [upd_ne (ne_of_none e (fr a (by simp)))]; exact s b u e
      exact hq.okX (.of_same sm) (h.zr.new sm) (.ref a) [] (.im (.ls upd_same (r.mono le))) (h.grow (.of_same sm) (h.zr.new sm))
  | _ => exact hq.elim
section
variable {k : Nat} {f : Addr} {fd : FuncData} {ps : List Str} {x : Str} {p : Pos} {e : Expr} {es : List Expr} {ms : MAs}
theorem fe_callFz {m : MF} (F : FnOk X.prog X.w X.K X.mg X.base (L2.CX X.prog X.w) k f fd ps (spP X.K X.mg m)) (hr : Room k X.A) (hg : Gl X x) (hm : X.mg x = some (.ref f)) (hk : PySem.W.keepIn X.K (.ref f) = true) (hb : Binds X.K fd ps []) (tk : Takes X W)
    (ha : RA X W st (e :: es) ms) (hdb : (x == ("__debug__" : Str)) = false := by decide) (he : starEach (e :: es) X.env = (false, eval e X.env) :: starEach es X.env := by rfl) (hpl : (backTo pos (starEach es X.env)).any (·.1) = false := by rfl) :
    FE X W st (.Call (.Name x p) (e :: es) [] pos) (eFz (eCall m ms)) := by
  obtain ⟨t, pa, g⟩ := ha
  refine ⟨tFz (tCallS _ (WE W) t), pe_fz (pe_callS F hr hg hm hk hb (fun σ => passAt tk σ) pa hdb he hpl), fun H0 B Ls G S z σ H Q h hq => ?_⟩
  have hq' : Ct X W st σ H ((ms S z).bind fun xs z => (match m xs with
    | .ok x _ => Rs.ok x z
    | .ex c _ => .ex c z
    | .no => .no).bind fz) (fun x z' H' => ∀ v G', Own X.K H' v x G' → Stt X.K st H0 B Ls (G' ++ G) S z' σ H' → Q v H') := by
    have e : (eFz (eCall m ms)) S z = ((ms S z).bind fun xs z => (match m xs with
      | .ok x _ => Rs.ok x z
      | .ex c _ => .ex c z
      | .no => .no).bind fz) := by
      simp only [eFz, eCall]
      cases ms S z <;> rfl
    rw [← e]; exact hq
  refine g H0 B Ls G S z σ H _ h (Ct.bind hq' fun xs z1 H1 _ x1 hz1 hq1 vs hvs => ?_)
  refine ⟨xs, hvs.hid, ?_⟩
  have h1 := h.grow x1 hz1
  cases em : m xs with
  | ok y zz =>
    rw [em] at hq1
    exact fun v H' G' s ow nd fr => Ct.finFz h1 hq1 s ow nd fr
  | ex c zz =>
    rw [em] at hq1
    exact fun cv d H' s xr => hq1 cv d H' (.of_same s) (hz1.new s) xr
  | no => rw [em] at hq1; exact hq1.elim
end
theorem fe_lstFz {es : List Expr} {ms : MAs} (ha : RA X W st es ms) : FE X W st (.List es pos) (eFz (eLst ms)) := by
  obtain ⟨t, p, f⟩ := ha
  refine ⟨tFz (tLst t), pe_fz (pe_lst p), fun H0 B Ls G S z σ H Q h hq => ?_⟩
  have e : (eFz (eLst ms)) S z = ((ms S z).bind fun xs z => (oLst xs z).bind fz) := by
    simp only [eFz, eLst]
    cases ms S z <;> rfl
  rw [e] at hq
  refine f H0 B Ls G S z σ H _ h (Ct.bind hq fun xs z1 H1 _ x1 hz1 hq1 vs hvs => ?_)
  unfold oLst at hq1
  split at hq1
  · rename_i ts e
    split at hq1
    · rename_i hl
      have r := imS_rep hvs e
      refine ⟨by rw [r.length]; exact hl, fun p np => ?_⟩
      exact Ct.finFz (h.grow x1 hz1) hq1 (v := .ref p) (G' := [p]) (Same.upd_new np) (.il upd_same ((rep_hid r).mono (Le.of_same (Same.upd_new np)))) (by simp) (fun a ha => by simp at ha; subst ha; exact np)
    · exact hq1.elim
  · exact hq1.elim
end
end MM

/-! MS: what simp knows of the mirrors. -/
namespace MM
open PySem PySem.Spec PyProof.Rows L2
theorem ofString_inj {a b : String} (h : Str.ofString a = Str.ofString b) : a = b := by
  rw [Str.ofString_eq_toList, Str.ofString_eq_toList] at h
  injection h with h
  have h2 : a.toList.map Char.toNat = b.toList.map Char.toNat := by simpa using h
  have inj : ∀ (l m : List Char), l.map Char.toNat = m.map Char.toNat → l = m := by
    intro l
    induction l with
    | nil => intro m h; cases m with | nil => rfl | cons c m => cases h
    | cons c l ih =>
      intro m h
      cases m with
      | nil => cases h
      | cons d m =>
        simp only [List.map_cons, List.cons.injEq] at h
        have e : c = d := Char.ext (UInt32.toNat_inj.mp h.1)
        rw [e, ih m h.2]
  have h3 := inj _ _ h2
  exact String.toList_inj.mp h3
@[simp] theorem str_beq (a b : String) : (Str.ofString a == Str.ofString b) = decide (a = b) := by
  by_cases h : a = b
  · subst h; simp
  · rw [decide_eq_false h]
    exact beq_eq_false_iff_ne.mpr fun e => h (ofString_inj e)
@[simp] theorem str_eq (a b : String) : (Str.ofString a = Str.ofString b) = (a = b) := propext ⟨ofString_inj, fun h => by rw [h]⟩
/-! == of things -/
@[simp] theorem eqv_int (i j : Int) : T.eqv (.int i) (.int j) = decide (i = j) := by simp [T.eqv, T.py, PyData.eqv]; rfl
@[simp] theorem eqv_str (i j : Str) : T.eqv (.str i) (.str j) = decide (i = j) := by simp [T.eqv, T.py, PyData.eqv]; rfl
@[simp] theorem eqv_bl (i j : Bool) : T.eqv (.bl i) (.bl j) = decide (i = j) := by simp [T.eqv, T.py, PyData.eqv]; rfl
@[simp] theorem eqv_non : T.eqv .non .non = true := by simp [T.eqv, T.py, PyData.eqv]
@[simp] theorem eqv_int_str (i : Int) (j : Str) : T.eqv (.int i) (.str j) = false := by simp [T.eqv, T.py, PyData.eqv]
@[simp] theorem eqv_str_int (i : Int) (j : Str) : T.eqv (.str j) (.int i) = false := by simp [T.eqv, T.py, PyData.eqv]
@[simp] theorem eqv_bl_str (i : Bool) (j : Str) : T.eqv (.bl i) (.str j) = false := by simp [T.eqv, T.py, PyData.eqv]
@[simp] theorem eqv_str_bl (i : Bool) (j : Str) : T.eqv (.str j) (.bl i) = false := by simp [T.eqv, T.py, PyData.eqv]
@[simp] theorem eqv_int_tup (i : Int) (j : List T) : T.eqv (.int i) (.tup j) = false := by simp [T.eqv, T.py, PyData.eqv]
@[simp] theorem eqv_tup_int (i : Int) (j : List T) : T.eqv (.tup j) (.int i) = false := by simp [T.eqv, T.py, PyData.eqv]
@[simp] theorem eqv_str_tup (i : Str) (j : List T) : T.eqv (.str i) (.tup j) = false := by simp [T.eqv, T.py, PyData.eqv]
@[simp] theorem eqv_tup_str (i : Str) (j : List T) : T.eqv (.tup j) (.str i) = false := by simp [T.eqv, T.py, PyData.eqv]
@[simp] theorem eqv_bl_tup (i : Bool) (j : List T) : T.eqv (.bl i) (.tup j) = false := by simp [T.eqv, T.py, PyData.eqv]
@[simp] theorem eqv_tup_bl (i : Bool) (j : List T) : T.eqv (.tup j) (.bl i) = false := by simp [T.eqv, T.py, PyData.eqv]
@[simp] theorem eqv_non_int (i : Int) : T.eqv .non (.int i) = false := by simp [T.eqv, T.py, PyData.eqv]
@[simp] theorem eqv_non_str (i : Str) : T.eqv .non (.str i) = false := by simp [T.eqv, T.py, PyData.eqv]
@[simp] theorem eqv_non_tup (i : List T) : T.eqv .non (.tup i) = false := by simp [T.eqv, T.py, PyData.eqv]
@[simp] theorem eqv_non_bl (i : Bool) : T.eqv .non (.bl i) = false := by simp [T.eqv, T.py, PyData.eqv]
@[simp] theorem eqv_int_non (i : Int) : T.eqv (.int i) .non = false := by simp [T.eqv, T.py, PyData.eqv]
@[simp] theorem eqv_str_non (i : Str) : T.eqv (.str i) .non = false := by simp [T.eqv, T.py, PyData.eqv]
@[simp] theorem eqv_tup_non (i : List T) : T.eqv (.tup i) .non = false := by simp [T.eqv, T.py, PyData.eqv]
@[simp] theorem eqv_bl_non (i : Bool) : T.eqv (.bl i) .non = false := by simp [T.eqv, T.py, PyData.eqv]
@[simp] theorem eqv_int_bl (i : Int) (b : Bool) : T.eqv (.int i) (.bl b) = decide (i = if b then 1 else 0) := by simp [T.eqv, T.py, PyData.eqv]; rfl
@[simp] theorem eqv_bl_int (i : Int) (b : Bool) : T.eqv (.bl b) (.int i) = decide ((if b then 1 else 0) = i) := by simp [T.eqv, T.py, PyData.eqv]; rfl
@[simp] theorem eqv_non_ls (j : List T) : T.eqv .non (.ls j) = false := by simp [T.eqv, T.py, PyData.eqv]
@[simp] theorem eqv_ls_non (j : List T) : T.eqv (.ls j) .non = false := by simp [T.eqv, T.py, PyData.eqv]
@[simp] theorem eqv_int_ls (i : Int) (j : List T) : T.eqv (.int i) (.ls j) = false := by simp [T.eqv, T.py, PyData.eqv]
@[simp] theorem eqv_ls_int (i : Int) (j : List T) : T.eqv (.ls j) (.int i) = false := by simp [T.eqv, T.py, PyData.eqv]
@[simp] theorem eqv_str_ls (i : Str) (j : List T) : T.eqv (.str i) (.ls j) = false := by simp [T.eqv, T.py, PyData.eqv]
@[simp] theorem eqv_ls_str (i : Str) (j : List T) : T.eqv (.ls j) (.str i) = false := by simp [T.eqv, T.py, PyData.eqv]
@[simp] theorem eqv_tup_ls (i : List T) (j : List T) : T.eqv (.tup i) (.ls j) = false := by simp [T.eqv, T.py, PyData.eqv]
@[simp] theorem eqv_ls_tup (i : List T) (j : List T) : T.eqv (.ls j) (.tup i) = false := by simp [T.eqv, T.py, PyData.eqv]
@[simp] theorem eqv_bl_ls (i : Bool) (j : List T) : T.eqv (.bl i) (.ls j) = false := by simp [T.eqv, T.py, PyData.eqv]
@[simp] theorem eqv_ls_bl (i : Bool) (j : List T) : T.eqv (.ls j) (.bl i) = false := by simp [T.eqv, T.py, PyData.eqv]
def eqvs : List T → List T → Bool
  | [], [] => true
  | a :: as, b :: bs => T.eqv a b && eqvs as bs
  | _, _ => false
theorem eqvs_py : ∀ as bs : List T, PyData.eqvAll (T.pys as) (T.pys bs) = eqvs as bs
  | [], [] => by simp [T.pys, PyData.eqvAll, eqvs]
  | a :: as, b :: bs => by simp [T.pys, PyData.eqvAll, eqvs, eqvs_py as bs, T.eqv]
  | [], b :: bs => by simp [T.pys, PyData.eqvAll, eqvs]
  | a :: as, [] => by simp [T.pys, PyData.eqvAll, eqvs]
@[simp] theorem eqv_tup (as bs : List T) : T.eqv (.tup as) (.tup bs) = eqvs as bs := by
  show PyData.eqv (T.py (.tup as)) (T.py (.tup bs)) = _
  rw [T.py, T.py, PyData.eqv, eqvs_py]
@[simp] theorem eqv_ls (as bs : List T) : T.eqv (.ls as) (.ls bs) = eqvs as bs := by
  show PyData.eqv (T.py (.ls as)) (T.py (.ls bs)) = _
  rw [T.py, T.py, PyData.eqv, eqvs_py]
@[simp] theorem eqvs_nil : eqvs [] [] = true := rfl
@[simp] theorem eqvs_cons (a b : T) (as bs : List T) : eqvs (a :: as) (b :: bs) = (T.eqv a b && eqvs as bs) := rfl
@[simp] theorem eqvs_nc (b : T) (bs : List T) : eqvs [] (b :: bs) = false := rfl
@[simp] theorem eqvs_cn (b : T) (bs : List T) : eqvs (b :: bs) [] = false := rfl
@[simp] theorem dep_non : T.dep .non = 0 := by simp [T.dep, T.py, PyData.depth]
@[simp] theorem dep_bl (b : Bool) : T.dep (.bl b) = 0 := by simp [T.dep, T.py, PyData.depth]
@[simp] theorem dep_int (b : Int) : T.dep (.int b) = 0 := by simp [T.dep, T.py, PyData.depth]
@[simp] theorem dep_str (b : Str) : T.dep (.str b) = 0 := by simp [T.dep, T.py, PyData.depth]
@[simp] theorem dep_tup (b : List T) : T.dep (.tup b) = depS b + 1 := by simp [T.dep, T.py, PyData.depth, depS]
@[simp] theorem dep_ls (b : List T) : T.dep (.ls b) = depS b + 1 := by simp [T.dep, T.py, PyData.depth, depS]
@[simp] theorem depS_nil : depS [] = 0 := by simp [depS, T.pys, PyData.depthAll]
@[simp] theorem depS_cons (a : T) (as : List T) : depS (a :: as) = max a.dep (depS as) := by simp [depS, T.pys, PyData.depthAll, T.dep]
theorem depS_le {n : Nat} : ∀ {ts : List T}, (∀ t ∈ ts, t.dep ≤ n) → depS ts ≤ n
  | [], _ => by simp
  | t :: ts, h => by
    have h1 := h t (by simp)
    have h2 := depS_le (ts := ts) fun u hu => h u (by simp [hu])
    simp only [depS_cons]; omega
@[simp] theorem oEq_im (n : Bool) (a b : T) : oEq n (.im a) (.im b) = if min a.dep b.dep ≤ 64 then some (.im (.bl (if n then !T.eqv a b else T.eqv a b))) else none := by
  simp only [oEq, Val.flat]; rfl
@[simp] theorem oEq_il (n : Bool) (a b : List T) : oEq n (.il a) (.il b) = if min (depS a) (depS b) ≤ 63 then some (.im (.bl (if n then !eqvs a b else eqvs a b))) else none := by
  simp only [oEq, Val.flat, PyData.depth, PyData.eqv, eqvs_py]
  have e : min (PyData.depthAll (T.pys a) + 1) (PyData.depthAll (T.pys b) + 1) ≤ 64 ↔ min (depS a) (depS b) ≤ 63 := by unfold depS; omega
  by_cases h : min (depS a) (depS b) ≤ 63
  · rw [if_pos h, if_pos (e.mpr h)]
  · rw [if_neg h, if_neg fun q => h (e.mp q)]
@[simp] theorem oEq_im_il (n : Bool) (a : T) (b : List T) (h : ∀ us, a ≠ .ls us) : oEq n (.im a) (.il b) = if min a.dep (depS b + 1) ≤ 64 then some (.im (.bl n)) else none := by
  simp only [oEq, Val.flat, PyData.depth]
  have e : PyData.eqv a.py (.list (T.pys b)) = false := by cases a <;> simp [T.py, PyData.eqv] at h ⊢
  rw [e]
  cases n <;> rfl
@[simp] theorem oEq_il_im (n : Bool) (a : T) (b : List T) (h : ∀ us, a ≠ .ls us) : oEq n (.il b) (.im a) = if min (depS b + 1) a.dep ≤ 64 then some (.im (.bl n)) else none := by
  simp only [oEq, Val.flat, PyData.depth]
  have e : PyData.eqv (.list (T.pys b)) a.py = false := by cases a <;> simp [T.py, PyData.eqv] at h ⊢
  rw [e]
  cases n <;> rfl
/-! equal things of one kind are equal -/
mutual
/-- no truth values within -/
def T.nb : T → Bool
  | .bl _ => false
  | .tup ts => nbs ts
  | .ls ts => nbs ts
  | _ => true
def nbs : List T → Bool
  | [] => true
  | t :: ts => t.nb && nbs ts
end
@[simp] theorem nb_int (i : Int) : T.nb (.int i) = true := by simp [T.nb]
@[simp] theorem nb_str (i : Str) : T.nb (.str i) = true := by simp [T.nb]
@[simp] theorem nb_non : T.nb .non = true := by simp [T.nb]
@[simp] theorem nb_tup (ts : List T) : T.nb (.tup ts) = nbs ts := by simp [T.nb]
@[simp] theorem nb_ls (ts : List T) : T.nb (.ls ts) = nbs ts := by simp [T.nb]
@[simp] theorem nbs_nil : nbs [] = true := by simp [nbs]
@[simp] theorem nbs_cons (t : T) (ts : List T) : nbs (t :: ts) = (t.nb && nbs ts) := by simp [nbs]
mutual
theorem eqv_iff : ∀ {a b : T}, a.nb = true → b.nb = true → (T.eqv a b = true ↔ a = b)
  | .non, b, _, hb => by cases b <;> simp_all
  | .bl _, _, h, _ => by simp [T.nb] at h
  | .int i, b, _, hb => by cases b <;> simp_all [T.nb]
  | .str s, b, _, hb => by cases b <;> simp_all [T.nb]
  | .tup ts, b, ha, hb => by
    cases b with
    | tup us =>
      simp only [eqv_tup, T.tup.injEq]
      exact eqvs_iff (by simpa using ha) (by simpa using hb)
    | bl _ => simp [T.nb] at hb
    | _ => simp
  | .ls ts, b, ha, hb => by
    cases b with
    | ls us =>
      simp only [eqv_ls, T.ls.injEq]
      exact eqvs_iff (by simpa using ha) (by simpa using hb)
    | bl _ => simp [T.nb] at hb
    | _ => simp
theorem eqvs_iff : ∀ {a b : List T}, nbs a = true → nbs b = true → (eqvs a b = true ↔ a = b)
  | [], [], _, _ => by simp
  | [], b :: bs, _, _ => by simp
  | a :: as, [], _, _ => by simp
  | a :: as, b :: bs, ha, hb => by
    simp only [nbs_cons, Bool.and_eq_true] at ha hb
    simp only [eqvs_cons, Bool.and_eq_true, List.cons.injEq, eqv_iff ha.1 hb.1, eqvs_iff ha.2 hb.2]
end
theorem eqv_dec [DecidableEq T] {a b : T} (ha : a.nb = true) (hb : b.nb = true) : T.eqv a b = decide (a = b) := by
  by_cases h : a = b
  · rw [decide_eq_true h]; exact (eqv_iff ha hb).mpr h
  · rw [decide_eq_false h]
    cases e : T.eqv a b with
    | false => rfl
    | true => exact absurd ((eqv_iff ha hb).mp e) h
mutual
theorem eqv_refl : ∀ a : T, T.eqv a a = true
  | .non => by simp
  | .bl _ => by simp
  | .int _ => by simp
  | .str _ => by simp
  | .tup ts => by simp [eqvs_refl ts]
  | .ls ts => by simp [eqvs_refl ts]
theorem eqvs_refl : ∀ a : List T, eqvs a a = true
  | [] => rfl
  | a :: as => by simp [eqv_refl a, eqvs_refl as]
end
/-! places -/
@[simp] theorem atI_0 {α : Type} (a : α) (l : List α) : atI (a :: l) 0 = some a := atI_nat (j := 0) rfl
@[simp] theorem atI_1 {α : Type} (a b : α) (l : List α) : atI (a :: b :: l) 1 = some b := atI_nat (j := 1) rfl
@[simp] theorem atI_2 {α : Type} (a b c : α) (l : List α) : atI (a :: b :: c :: l) 2 = some c := atI_nat (j := 2) rfl
@[simp] theorem atI_3 {α : Type} (a b c d : α) (l : List α) : atI (a :: b :: c :: d :: l) 3 = some d := atI_nat (j := 3) rfl
@[simp] theorem atI_4 {α : Type} (a b c d e : α) (l : List α) : atI (a :: b :: c :: d :: e :: l) 4 = some e := atI_nat (j := 4) rfl
theorem atI_of {α : Type} {xs : List α} {i : Int} (h0 : 0 ≤ i) (h1 : i < xs.length) : ∃ v, atI xs i = some v ∧ xs[i.toNat]? = some v := by
  have hj : i.toNat < xs.length := by omega
  refine ⟨xs[i.toNat], ?_, List.getElem?_eq_getElem hj⟩
  have := atI_nat (xs := xs) (j := i.toNat) (List.getElem?_eq_getElem hj)
  rwa [show ((i.toNat : Nat) : Int) = i by omega] at this
@[simp] theorem line_eq : (sizeLine : Nat) = 16777216 := sizeLine_eq
@[simp] theorem asB_bl (b : Bool) (z : Zs) : asB (.im (.bl b)) z = .ok b z := rfl
@[simp] theorem im1_im (t : T) (z : Zs) : im1 (.im t) z = .ok (.im t) z := rfl
theorem sortI_of {ns ms : List Int} (p : ms.Perm ns) (s : ms.Pairwise (· ≤ ·)) : sortI ns = ms := (sortI_eq p s).symm
theorem sortI_two {a b : Int} (h : a ≤ b) : sortI [a, b] = [a, b] := sortI_of (List.Perm.refl _) (by simp [h])
theorem sortI_two' {a b : Int} (h : b ≤ a) : sortI [a, b] = [b, a] := sortI_of (List.Perm.swap _ _ _) (by simp [h])
theorem inR_of {i : Int} (h0 : -1000000000 ≤ i) (h : i ≤ 1000000000) : inR i = true := inR_iff (by omega) (by omega)
theorem cut_mem {α : Type} {xs : List α} {lo hi : Option Int} {t : α} (h : t ∈ cut xs lo hi) : t ∈ xs := List.mem_of_mem_drop (List.mem_of_mem_take h)
theorem cut_len {α : Type} {xs : List α} {lo hi : Option Int} : (cut xs lo hi).length ≤ xs.length := by
  unfold cut
  rw [List.length_take, List.length_drop]
  omega
theorem sIx_of {n d : Nat} {i : Int} (h : 0 ≤ i) : HT.sIx n d (some i) = min i.toNat n := by
  have := HT.sIx_nat n d i.toNat
  rwa [show ((i.toNat : Nat) : Int) = i by omega] at this
theorem cut_to {α : Type} {xs : List α} {i : Int} (h : 0 ≤ i) : cut xs none (some i) = xs.take i.toNat := by
  unfold cut
  rw [sIx_of h, HT.sIx_none, List.drop_zero, Nat.sub_zero]
  rcases Nat.le_total i.toNat xs.length with c | c
  · rw [Nat.min_eq_left c]
  · rw [Nat.min_eq_right c, List.take_of_length_le (Nat.le_refl _), List.take_of_length_le c]
theorem cut_from {α : Type} {xs : List α} {i : Int} (h : 0 ≤ i) : cut xs (some i) none = xs.drop i.toNat := by
  unfold cut
  rw [sIx_of h, HT.sIx_none]
  rcases Nat.le_total i.toNat xs.length with c | c
  · rw [Nat.min_eq_left c, List.take_of_length_le (by rw [List.length_drop]; omega)]
  · rw [Nat.min_eq_right c, List.drop_of_length_le c, List.drop_of_length_le (Nat.le_refl _)]; simp
theorem cut_two {α : Type} {xs : List α} {i j : Int} (h : 0 ≤ i) (g : i ≤ j) : cut xs (some i) (some j) = (xs.drop i.toNat).take (j.toNat - i.toNat) := by
  unfold cut
  rw [sIx_of h, sIx_of (Int.le_trans h g)]
  rcases Nat.le_total i.toNat xs.length with c | c
  · rw [Nat.min_eq_left c]
    rcases Nat.le_total j.toNat xs.length with d | d
    · rw [Nat.min_eq_left d]
    · rw [Nat.min_eq_right d, List.take_of_length_le (by rw [List.length_drop]; omega), List.take_of_length_le (by rw [List.length_drop]; omega)]
  · rw [Nat.min_eq_right c, List.drop_of_length_le c, List.drop_of_length_le (Nat.le_refl _)]; simp
/-! ### loops -/
theorem turns_ind {g : MGt} {body : MS} (P : Nat → List Sv → Zs → Prop) : ∀ {ts : List T} {n : Nat} {S : List Sv} {z : Zs}, (∀ i t S z, ts[i]? = some t → P (n + i) S z → ∃ S1, g t S = some S1 ∧ ∃ S2 z2, (body S1 z = .nx S2 z2 ∨ body S1 z = .ct S2 z2) ∧ P (n + i + 1) S2 z2) → P n S z →
    ∃ S' z', sTurns g body ts S z = .nx S' z' ∧ P (n + ts.length) S' z'
  | [], n, S, z, _, p => ⟨S, z, rfl, by simpa using p⟩
  | t :: ts, n, S, z, h, p => by
    obtain ⟨S1, e1, S2, z2, e2, p2⟩ := h 0 t S z rfl (by simpa using p)
    obtain ⟨S', z', e3, p3⟩ := turns_ind P (ts := ts) (n := n + 1) (S := S2) (z := z2) (fun i t S z e p => by
      obtain ⟨S1, e1, r⟩ := h (i + 1) t S z (by simpa using e) (by rw [show n + (i + 1) = n + 1 + i by omega]; exact p)
      exact ⟨S1, e1, by rw [show n + 1 + i + 1 = n + (i + 1) + 1 by omega]; exact r⟩) (by simpa using p2)
    refine ⟨S', z', ?_, by rw [List.length_cons, show n + (ts.length + 1) = n + 1 + ts.length by omega]; exact p3⟩
    rcases e2 with e2 | e2 <;> simp only [sTurns, e1, e2, e3]
theorem wh_ind {c : MT} {b : MS} (P : Nat → List Sv → Zs → Prop) (Q : List Sv → Zs → Prop)
    (h : ∀ n S z, P n S z → (∃ z', c S z = .ok false z' ∧ Q S z') ∨ (∃ z', c S z = .ok true z' ∧ ∃ S2 z2, (b S z' = .nx S2 z2 ∨ b S z' = .ct S2 z2) ∧ ∃ m, m < n ∧ P m S2 z2)) : ∀ n S z, P n S z → ∃ S' z', sWh c b S z = .nx S' z' ∧ Q S' z' := by
  intro n
  induction n using Nat.strongRecOn with
  | _ n ih =>
    intro S z p
    rcases h n S z p with ⟨z', e, q⟩ | ⟨z', e, S2, z2, e2, m, hm, p2⟩
    · exact ⟨S, z', by rw [sWh_eq, e]; simp [Rs.go], q⟩
    · obtain ⟨S', z'', e3, q⟩ := ih m hm S2 z2 p2
      refine ⟨S', z'', ?_, q⟩
      rw [sWh_eq, e]
      rcases e2 with e2 | e2 <;> simp [Rs.go, e2, e3]
@[simp] theorem rngI_length {lo : Int} {n : Nat} : (rngI lo n).length = n := by simp [rngI]
theorem rngI_get {lo : Int} {n i : Nat} {t : T} (h : (rngI lo n)[i]? = some t) : i < n ∧ t = .int (lo + i) := by
  unfold rngI at h
  rw [List.getElem?_map] at h
  by_cases c : i < n
  · rw [List.getElem?_range c] at h
    cases h
    exact ⟨c, rfl⟩
  · rw [List.getElem?_eq_none (by simpa using c)] at h
    cases h
/-- a plain comprehension whose every turn gives a thing of the kind R -/
theorem lc_all {j : Nat} {m : ME} {S0 : List Sv} (hj : j < S0.length) (R : T → T → Prop) : ∀ {ts acc : List T} {z : Zs}, (∀ t ∈ ts, ∀ z, ∃ u z', m (S0.set j (.o (.im t))) z = .ok (.im u) z' ∧ R t u) → acc.length + ts.length ≤ sizeLine →
    ∃ (us : List T) (z' : Zs), lcT j tYs m S0 ts acc z = .ok (.il (acc ++ us)) z' ∧ us.length = ts.length ∧ ∀ (i : Nat) (t : T), ts[i]? = some t → ∃ u : T, us[i]? = some u ∧ R t u
  | [], acc, z, _, _ => ⟨[], z, by simp [lcT], rfl, fun i t e => by simp at e⟩
  | t :: ts, acc, z, h, hl => by
    rw [List.length_cons] at hl
    obtain ⟨u, z1, e1, r1⟩ := h t (by simp) z
    obtain ⟨us, z2, e2, l2, r2⟩ := lc_all hj R (ts := ts) (acc := acc ++ [u]) (z := z1) (fun t ht => h t (by simp [ht])) (by rw [List.length_append, List.length_singleton]; omega)
    refine ⟨u :: us, z2, ?_, by simp [l2], fun i t' e => ?_⟩
    · simp only [lcT, tYs]
      rw [if_pos hj, e1]
      simp only
      rw [if_pos (by omega), e2]
      simp
    · cases i with
      | zero => simp at e; subst e; exact ⟨u, by simp, r1⟩
      | succ i => simp at e; obtain ⟨u', e', r'⟩ := r2 i t' e; exact ⟨u', by simpa using e', r'⟩
end MM

/-! MT: text * n, tuple * n, is True, texts walked sign by sign, index of a text. -/
namespace L2
open PySem PySem.Spec PyProof.Rows
set_option maxHeartbeats 4000000
theorem tuple_mulW1 (l : Addr) (items : Array Value) (n : Nat) (dd : Option Addr) (sl : Array (Option Value)) (u : Tok) :
    Meets (Builtin.«tuple.__mul__» ⟨[.ref l, .int 1 u], []⟩) (fun _ R s => s.heap.get? l = some { cls := .type "tuple", dict := dd, data := .seq items n, slots := sl } ∧
      R (.ok (.ret (Value.ref l))) s) :=
  .of_wp fun prog w A R s h => by
    obtain ⟨hp, g, d, tk, os⟩ := s
    obtain ⟨hl, h⟩ := h
    have f1 := AutoSeq1.idx_int
    wp_walk using wpAny_loadPart' hl
    repeat (first
      | (refine wpAny_ite_false (decide_eq_false (by decide)) ?_; wp_walk using wpAny_loadPart' hl)
      | (refine wpAny_ite_true (decide_eq_true (by simp)) ?_; wp_walk using wpAny_loadPart' hl))
    exact ⟨_, rfl, h⟩
theorem tuple_mulW0 (l : Addr) (items : Array Value) (n : Nat) (dd : Option Addr) (sl : Array (Option Value)) (u : Tok) (hi : items.isEmpty = false) :
    Meets (Builtin.«tuple.__mul__» ⟨[.ref l, .int 0 u], []⟩) (fun _ R s => s.heap.get? l = some { cls := .type "tuple", dict := dd, data := .seq items n, slots := sl } ∧
      R (.ok (.ret (Value.ref s.heap.objs.size))) { s with heap := s.heap.push { cls := Value.type "tuple", data := Data.seq #[] }, toks := s.toks }) :=
  .of_wp fun prog w A R s h => by
    obtain ⟨hp, g, d, tk, os⟩ := s
    obtain ⟨hl, h⟩ := h
    have f1 := AutoSeq1.idx_int
    wp_walk using wpAny_loadPart' hl
    repeat (first
      | (refine wpAny_ite_false (decide_eq_false (by decide)) ?_; wp_walk using wpAny_loadPart' hl)
      | (refine wpAny_ite_false (decide_eq_false (by rw [hi]; decide)) ?_; wp_walk using wpAny_loadPart' hl)
      | (refine wpAny_ite_true (decide_eq_true (by simp)) ?_; wp_walk using wpAny_loadPart' hl))
    exact ⟨_, rfl, h⟩
def rRepT1 (K : PySem.W.Frag) : R2 := fun x y H Q => ∃ l xs, x = .ref l ∧ y = .int 1 ∧ SqT K H l xs ∧ Q (.ref l) H
def rRepT0 (K : PySem.W.Frag) : R2 := fun x y H Q => ∃ l xs, x = .ref l ∧ y = .int 0 ∧ SqT K H l xs ∧ xs ≠ [] ∧ ∀ p, H p = none → Q (.ref p) (upd H p (.tup []))
section
variable {X : Cx}
theorem op_repT1 : OpR X (binaryOp .Mult) (rRepT1 X.K) := by
  intro pins s σ H x y v u Q I rx ry h
  obtain ⟨l, xs, rfl, rfl, hT, q⟩ := h
  cases rx
  obtain ⟨t, rfl⟩ := ry
  obtain ⟨its, r, ⟨⟨cls, dd, data, sl⟩, ho, hc, n, hd⟩, hs⟩ := I.tuple hT
  simp only at hc hd
  subst hc hd
  refine wpAny_binaryOp_repeat_ref (T := "tuple") (U := "int") (by decide) ⟨_, ho, rfl⟩ (fun s' => typeIs_int s' 1 t) noFill_tuple_mul F.fills_int_mul F.slot_int_rmul repeat_tuple F.slot_int_index.lookup
    (call_meets F.slot_int_rmul (typeIs_int s 1 t) F.entry_int_rmul (F.args_int_rmul_2 _ _) (int_rmul_tuple 1 t l its.toArray n dd sl)
      ⟨ho, rfl, ⟨_, ho, rfl⟩, call_meets F.slot_tuple_mul ⟨_, ho, rfl⟩ F.entry_tuple_mul (F.args_tuple_mul_2 _ _) (tuple_mulW1 l its.toArray n dd sl t) ⟨ho, ?_⟩⟩)
  exact ⟨.ref l, H, I, rfl, q⟩
theorem op_repT0 : OpR X (binaryOp .Mult) (rRepT0 X.K) := by
  intro pins s σ H x y v u Q I rx ry h
  obtain ⟨l, xs, rfl, rfl, hT, hne, q⟩ := h
  cases rx
  obtain ⟨t, rfl⟩ := ry
  obtain ⟨its, r, ⟨⟨cls, dd, data, sl⟩, ho, hc, n, hd⟩, hs⟩ := I.tuple hT
  simp only at hc hd
  subst hc hd
  have hle : its.length = xs.length := r.length.symm
  have hn : its ≠ [] := fun e => hne (by
    rw [e] at hle
    exact List.eq_nil_of_length_eq_zero hle.symm)
  have hi : its.toArray.isEmpty = false := by
    cases its with
    | nil => exact absurd rfl hn
    | cons a b => rfl
  refine wpAny_binaryOp_repeat_ref (T := "tuple") (U := "int") (by decide) ⟨_, ho, rfl⟩ (fun s' => typeIs_int s' 0 t) noFill_tuple_mul F.fills_int_mul F.slot_int_rmul repeat_tuple F.slot_int_index.lookup
    (call_meets F.slot_int_rmul (typeIs_int s 0 t) F.entry_int_rmul (F.args_int_rmul_2 _ _) (int_rmul_tuple 0 t l its.toArray n dd sl)
      ⟨ho, rfl, ⟨_, ho, rfl⟩, call_meets F.slot_tuple_mul ⟨_, ho, rfl⟩ F.entry_tuple_mul (F.args_tuple_mul_2 _ _) (tuple_mulW0 l its.toArray n dd sl t hi) ⟨ho, ?_⟩⟩)
  refine ⟨.ref s.heap.objs.size, _, I.laid (t' := s.toks) (o := .tup []) (fun b ob q => Heap.get?_push_of_some _ q) (Nat.le_refl _) ?_, rfl, q _ (I.hok.fresh (Nat.le_refl _))⟩
  exact ⟨by decide, [], .nil, IsTup.new _ _⟩
end
end L2
namespace MM
open PySem PySem.Spec PyProof.Rows L2
section
variable {X : Cx} {W : WX} {st : Option Addr} {pos : Pos}
/-! ### repetition -/
def rRepS : R2 := fun x y H Q => ∃ a n, x = .str a ∧ y = .int n ∧ a.length ≤ 1000 ∧ -1000 ≤ n ∧ n ≤ 1000 ∧ Q (.str (Txt.mul a n)) H
theorem op_repS : OpR X (binaryOp .Mult) rRepS := by
  intro pins s σ H x y v u Q I rx ry h
  obtain ⟨a, n, rfl, rfl, h1, h2, h3, q⟩ := h
  obtain ⟨t, rfl⟩ := rx
  obtain ⟨t', rfl⟩ := ry
  exact SB.mul (mulOk_of 1000 1000 h1 (by omega) (by omega) (by decide) (by decide)) fun t' k => ⟨.str _, H, I.tok _, ⟨_, rfl⟩, q⟩
theorem op_or {op : Value → Value → Sem Value} {r r' : R2} (h : OpR X op r) (h' : OpR X op r') : OpR X op (fun x y H Q => r x y H Q ∨ r' x y H Q) := h.or h'
theorem sOk_mul {x : Str} {n : Int} (h : sOk x = true) (h1 : x.length ≤ 1000) (h3 : n ≤ 1000) : sOk (Txt.mul x n) = true := by
  have hl : ((Txt.mul x n).length : Int) = (x.length : Int) * (if decide (n < 0) = true then 0 else n) := len_mul x n
  have hb : (x.length : Int) * (if decide (n < 0) = true then 0 else n) ≤ 1000 * 1000 := by
    apply Int.mul_le_mul (by omega) (by split <;> omega) (by split <;> simp at * <;> omega) (by decide)
  unfold sOk at *
  simp only [Bool.and_eq_true, decide_eq_true_eq] at *
  refine ⟨?_, by rw [sizeLine_eq]; omega⟩
  unfold Txt.mul
  split
  · decide +kernel
  · split
    · exact h.1
    · have fl : ∀ (m : Nat) (acc : Array Nat), (∀ c ∈ acc.toList, PyData.strOk ⟨#[c]⟩ = true) → ∀ c ∈ ((List.replicate m x.cps).foldl (· ++ ·) acc).toList, PyData.strOk ⟨#[c]⟩ = true := by
        intro m
        induction m with
        | zero => intro acc ha; simpa using ha
        | succ m ih =>
          intro acc ha
          rw [List.replicate_succ, List.foldl_cons]
          refine ih _ fun c hc => ?_
          rw [Array.toList_append] at hc
          rcases List.mem_append.mp hc with q | q
          · exact ha c q
          · exact strOk_mem h.1 q
      have := fl n.toNat #[] (by simp)
      unfold PyData.strOk
      rw [Array.all_eq_true_iff_forall_mem]
      intro c hc
      have hc2 := this c (Array.mem_toList_iff.mpr hc)
      unfold PyData.strOk at hc2
      simpa using hc2
@[simp] def oRep (x y : Val) : Option Val := match x, y with
  | .im (.str a), .im (.int n) => if a.length ≤ 1000 ∧ -1000 ≤ n ∧ n ≤ 1000 then some (.im (.str (Txt.mul a n))) else none
  | .im (.tup ts), .im (.int n) => if ts ≠ [] ∧ 0 ≤ n ∧ n ≤ 1000 ∧ ts.length ≤ 1000 then some (.im (.tup (List.replicate n.toNat ts).flatten)) else none
  | _, _ => none
theorem reps_flat {K : PySem.W.Frag} {H : Hp} {vs : List V} {ts : List T} (h : RepTs K H vs ts) : ∀ n : Nat, RepTs K H (List.replicate n vs).flatten (List.replicate n ts).flatten
  | 0 => .nil
  | n + 1 => by
    rw [List.replicate_succ, List.replicate_succ, List.flatten_cons, List.flatten_cons]
    exact h.append (reps_flat h n)
theorem op2_rep : Op2 X st (fun x y H Q => rRepS x y H Q ∨ (rRepT X.K x y H Q ∨ (rRepT1 X.K x y H Q ∨ rRepT0 X.K x y H Q))) oRep := by
  intro H va vb xa xb y Q ha hb e q
  unfold oRep at e
  split at e
  · rename_i a n
    split at e
    · rename_i c
      cases e
      obtain ⟨rfl, ok⟩ := bor_str ha
      have := bor_int hb
      subst this
      exact .inl ⟨_, _, rfl, rfl, c.1, c.2.1, c.2.2, q _ H [] (Same.refl H) (.im (.str _ (sOk_mul ok c.1 c.2.2))) List.nodup_nil (fun _ z => by cases z)⟩
    · cases e
  · rename_i ts n
    split at e
    · rename_i c
      cases e
      have := bor_int hb
      subst this
      cases ha with
      | im ha =>
        cases ha with
        | @tup a xs _ sa ra =>
          have hne : xs ≠ [] := fun z => c.1 (by subst z; cases ra; rfl)
          by_cases c1 : n = 1
          · subst c1
            have e1 : (List.replicate (1 : Int).toNat ts).flatten = ts := by show (List.replicate 1 ts).flatten = ts; simp
            rw [e1] at q
            exact .inr (.inr (.inl ⟨a, xs, rfl, rfl, sqt_hid sa, q _ H [] (Same.refl H) (.im (.tup (sqt_hid sa) (rep_hid ra))) List.nodup_nil (fun _ z => by cases z)⟩))
          by_cases c0 : n = 0
          · subst c0
            have e1 : (List.replicate (0 : Int).toNat ts).flatten = [] := by show (List.replicate 0 ts).flatten = []; simp
            rw [e1] at q
            exact .inr (.inr (.inr ⟨a, xs, rfl, rfl, sqt_hid sa, hne, fun p np => q _ _ [] (Same.upd_new np) (.im (.tup (.inl (.inl upd_same)) .nil)) List.nodup_nil (fun _ z => by cases z)⟩))
          · refine .inr (.inl ⟨a, n, xs, rfl, rfl, sqt_hid sa, hne, by omega, c.2.2.1, by rw [ra.length]; exact c.2.2.2, fun p np => ?_⟩)
            exact q _ _ [] (Same.upd_new np) (.im (.tup (.inl (.inl upd_same)) ((rep_hid (reps_flat ra _)).mono (Le.of_same (Same.upd_new np))))) List.nodup_nil (fun _ z => by cases z)
    · cases e
  · cases e
@[simp] def eRep := eBin oRep
theorem fe_rep {a b : Expr} {ma mb : ME} (ha : RE X W st a ma) (hb : RE X W st b mb) : FE X W st (.BinOp a .Mult b pos) (eRep ma mb) := fe_op (op_or op_repS (op_or op_repT (op_or op_repT1 op_repT0))) op2_rep ha hb
/-! ### is True, is False -/
@[simp] def oIsB (x y : Val) : Option Val := match x, y with
  | .im (.bl a), .im (.bl b) => some (.im (.bl (decide (a = b))))
  | _, _ => none
@[simp] def oIsntB (x y : Val) : Option Val := match x, y with
  | .im (.bl a), .im (.bl b) => some (.im (.bl (!decide (a = b))))
  | _, _ => none
theorem op2_isB : Op2 X st (fun x y H Q => ∃ a b, x = .bl a ∧ y = .bl b ∧ Q (.bl (decide (a = b))) H) oIsB := by
  intro H va vb xa xb y Q ha hb e q
  unfold oIsB at e
  split at e
  · cases e
    exact ⟨_, _, bor_bl ha, bor_bl hb, q _ H [] (Same.refl H) (.im (.bl _)) List.nodup_nil (fun _ z => by cases z)⟩
  · cases e
theorem op2_isntB : Op2 X st (fun x y H Q => ∃ a b, x = .bl a ∧ y = .bl b ∧ Q (.bl (!decide (a = b))) H) oIsntB := by
  intro H va vb xa xb y Q ha hb e q
  unfold oIsntB at e
  split at e
  · cases e
    exact ⟨_, _, bor_bl ha, bor_bl hb, q _ H [] (Same.refl H) (.im (.bl _)) List.nodup_nil (fun _ z => by cases z)⟩
  · cases e
section
variable {a b : Expr} {ma mb : ME}
theorem fe_isb (ha : RE X W st a ma) (hb : RE X W st b mb) : FE X W st (.Compare a [.Is] [b] pos) (eBin oIsB ma mb) := fe_cmp op_is_bl op2_isB ha hb
theorem rt_isb (ha : RE X W st a ma) (hb : RE X W st b mb) : RT X W st (.Compare a [.Is] [b] pos) (tCp oIsB ma mb) := rt_cmp op_is_bl op2_isB ha hb
theorem fe_isntb (ha : RE X W st a ma) (hb : RE X W st b mb) : FE X W st (.Compare a [.IsNot] [b] pos) (eBin oIsntB ma mb) := fe_cmp op_isnot_bl op2_isntB ha hb
theorem rt_isntb (ha : RE X W st a ma) (hb : RE X W st b mb) : RT X W st (.Compare a [.IsNot] [b] pos) (tCp oIsntB ma mb) := rt_cmp op_isnot_bl op2_isntB ha hb
end
/-! ### walks -/
/-- the turns of a walk whose items are the things ts, whatever the heap -/
def YT (K : PySem.W.Frag) (ts : List T) : Nat → Hp → V → Hp → Prop := fun i H x H' => H' = H ∧ ∃ t, ts[i]? = some t ∧ RepT K H x t
theorem it_core {J : It} {ts : List T} {GH : Hp → Prop} {g : MGt} {tG : TG} {tb : TS} {mb : MS} (fg : ∀ H0 B Ls S z σ H v u S' (Q : L2.St → Hp → Prop), Stt X.K st H0 B Ls [] S z σ H → RepT X.K H v u → g u S = some S' → (∀ σ', Stt X.K st H0 B Ls [] S' z σ' H → Q σ' H) → tG v σ H Q)
    (fb : ∀ H0 B Ls S z σ H D, Stt X.K st H0 B Ls [] S z σ H → Cs X W st H0 B Ls D (mb S z) → tb D σ H) (w : Walk J ts.length GH (YT X.K ts))
    {H0 B H : Hp} {Ls : List (Option (V × Val))} {S : List Sv} {z : Zs} {σ : L2.St} {D : Ends} (h : Stt X.K st H0 B Ls [] S z σ H) (hG : ∀ S z σ H, Stt X.K st H0 B Ls [] S z σ H → GH H) (hq : Cs X W st H0 B Ls D (sTurns g mb ts S z)) :
    ∃ W' : Nat → Nat → L2.St → Hp → Prop, (∃ m, W' 0 m σ H) ∧ ∀ i m σ H, W' i m σ H →
      (J.stop i H ∧ D.nx σ H) ∨ (J.go i H ∧ ∃ N : L2.St → Hp → Prop, (∀ σ' H', N σ' H' → ∃ m', m' < m ∧ W' (i + 1) m' σ' H') ∧ ∀ x H', J.yld i H x H' → tG x σ H' fun σ2 H2 => tb { D with nx := N, ct := N, bk := D.nx } σ2 H2) := by
  refine for_it w (fun i σ H => ∃ S z, Stt X.K st H0 B Ls [] S z σ H ∧ Cs X W st H0 B Ls D (sTurns g mb (ts.drop i) S z)) ⟨S, z, h, by simpa using hq⟩ (fun i σ1 H1 hi ⟨S1, z1, h1, q1⟩ => hG _ _ _ _ h1) (fun i x σ1 H1 H2 hi ⟨S1, z1, h1, q1⟩ ⟨e, t, et, rt⟩ => ?_) (fun σ1 H1 ⟨S1, z1, h1, q1⟩ => ?_)
  · subst e
    obtain ⟨hl, e2⟩ := List.getElem?_eq_some_iff.mp et
    rw [List.drop_eq_getElem_cons hl, e2] at q1
    exact turn_ok fg fb h1 rt q1
  · rw [List.drop_length] at q1
    exact q1 σ1 H1 h1
/-- the signs of a text -/
def signs (z : Str) : List T := z.cps.toList.map fun c => .str ⟨#[c]⟩
@[simp] theorem signs_length (z : Str) : (signs z).length = z.length := by simp [signs]; rfl
theorem sOk_one {z : Str} {c : Nat} (h : sOk z = true) (hc : c ∈ z.cps.toList) : sOk ⟨#[c]⟩ = true := by
  unfold sOk at *
  simp only [Bool.and_eq_true, decide_eq_true_eq] at *
  exact ⟨strOk_mem h.1 hc, by rw [sizeLine_eq]; show 1 ≤ 16777216; decide⟩
theorem walk_signs {K : PySem.W.Frag} {z : Str} (h : sOk z = true) : Walk (Its z) (signs z).length (fun _ => True) (YT K (signs z)) := by
  have e : (signs z).length = z.cps.size := by simp; rfl
  rw [e]
  refine Walk.mono walk_str (fun _ h => h) fun i H x H' hi _ ⟨e1, c, ec, ev⟩ => ⟨e1, .str ⟨#[c]⟩, ?_, ?_⟩
  · unfold signs
    rw [List.getElem?_map, Array.getElem?_toList, ec]; rfl
  · subst ev
    exact .str _ (sOk_one h (Array.mem_toList_iff.mpr (Array.mem_of_getElem? ec)))
/-- for over a text -/
@[simp] def sForS (m : ME) (g : MGt) (body : MS) : MS := fun S z => (m S z).go S fun x z => match x with
  | .im (.str s) => sTurns g body (signs s) S z
  | _ => .no
theorem se_forS {tg iter : Expr} {body : List Stmt} {m : ME} {g : MGt} {mb : MS} (hp : PassesOwn (model X.prog X.w) X.A X.env X.xe) (hc : X.calm = true) (hi : RE X W st iter m) (hg : GE X st tg g) (hb : SEs X W st body mb)
    (hs : ∀ x, foldedSetIterable iter X.env x = pure x := by intro _; rfl) : SE X W st (.For tg iter body [] pos) (sForS m g mb) := by
  obtain ⟨t, p, f⟩ := hi
  obtain ⟨tG, pG, fg⟩ := hg
  obtain ⟨tb, pb, fb⟩ := hb
  refine ⟨_, ps_for hp hc (pi_str p) pG pb hs, fun H0 B Ls S z σ H D h hq => ?_⟩
  refine f H0 B Ls [] S z σ H _ h (Cs.go h hq fun x z1 H1 _ x1 hz1 hq1 v hv => ?_)
  split at hq1
  · rename_i s _
    obtain ⟨rfl, ok⟩ := bor_str hv
    exact ⟨s, rfl, it_core fg fb (walk_signs ok) (h.grow x1 hz1) (fun _ _ _ _ _ => trivial) hq1⟩
  · exact hq1.elim
/-- .. a comprehension over a walk -/
theorem lcW_rd {J : It} {ts : List T} {c : MT} {m : ME} {tt : TT} {te : TE} (j : Nat) (w : Walk J ts.length (fun _ => True) (YT X.K ts))
    (ft : ∀ H0 B Ls G S z σ H Q, Stt X.K st H0 B Ls G S z σ H → Ct X W0 st σ H (c S z) (fun x z' H' => Q x H') → tt σ H Q)
    (fe : ∀ H0 B Ls G S z σ H Q, Stt X.K st H0 B Ls G S z σ H → Ct X W0 st σ H (m S z) (fun x z' H' => ∀ v, Bor X.K (hid st H') v x → Q v H') → te σ H Q)
    {H0 B H1 : Hp} {Ls : List (Option (V × Val))} {G : List Addr} {S : List Sv} {σ : L2.St} {Q : VK} {z1 : Zs} (h1 : Stt X.K st H0 B Ls G S z1 σ H1)
    (hq1 : Ct X W st σ H1 (lcT j c m (wipS j S) ts [] z1) (fun x z' H' => ∀ v G', Own X.K H' v x G' → Stt X.K st H0 B Ls (G' ++ G) S z' σ H' → Q v H')) {D : Addr} (nD : H1 D = none) :
    ∃ W : Nat → Nat → Hp → Prop, (∃ m, W 0 m (L2.upd H1 D (.lst []))) ∧ ∀ i m H, W i m H →
      (J.stop i H ∧ Q (.ref D) H) ∨ (J.go i H ∧ ∃ Nx : Hp → Prop, (∀ H', Nx H' → ∃ m', m' < m ∧ W (i + 1) m' H') ∧ ∀ x H', J.yld i H x H' → gName j x (wipe σ [j]) H' fun σ2 H2 => wipe σ2 [j] = wipe σ [j] ∧ tt σ2 H2 fun b H3 =>
        if b = true then te σ2 H3 fun y H4 => ∃ acc, H4 D = some (.lst acc) ∧ acc.length < sizeLine ∧ Nx (L2.upd H4 D (.lst (acc ++ [y]))) else Nx H3) := by
  have hz1 := h1.zr
  have sn : Same H1 (L2.upd H1 D (.lst [])) := Same.upd_new nD
  refine lc_it w (fun i H => ∃ z acc av, LcP X st H0 B Ls G S σ D (fun v H' => (∀ a o, st ≠ some a → a ≠ D → H1 a = some o → H' a = some o) → Q v H') j c m H1 (ts.drop i) H z acc av)
    ⟨z1, [], [], h1.add (G' := [D]) (.of_same sn) (hz1.new sn) (by simp) (fun a ha => by simp at ha; subst ha; exact nD) (fun a ha => by simp at ha; subst ha; exact ⟨_, upd_same, True.intro⟩), upd_same, .nil, fun a o _ _ e => sn a o e, lc_start h1 nD hq1 fun _ _ _ => trivial⟩
    (fun _ _ _ _ => trivial) (fun i x H H' hi ⟨z2, acc, av, P⟩ ⟨e, t, et, rt⟩ => ?_) (fun H ⟨z2, acc, av, P⟩ => ?_)
  · subst e
    obtain ⟨hl, e2⟩ := List.getElem?_eq_some_iff.mp et
    rw [List.drop_eq_getElem_cons hl, e2] at P
    exact lc_turn ft fe P rt
  · rw [List.drop_length] at P
    have hq := P.q
    exact hq H av P.s P.d P.r P.k
@[simp] def eLcS (it : ME) (j : Nat) (c : MT) (m : ME) : ME := fun S z => (it S z).bind fun x z => match x with
  | .im (.str s) => lcT j c m (wipS j S) (signs s) [] z
  | _ => .no
theorem fe_lcS {elt tg iter : Expr} {ifs : List Expr} {scope : Scope} {x : Str} {it : ME} {c : MT} {m : ME} (j : Nat) (hc : X.calm = true) (hN : X.N.Nodup) (hi : RE X W st iter it) (ok : BlkOk X.N X.env.scope scope [(x, j)])
    (hg : ∀ s H C cl fp, PG (Bk X scope s H C cl fp) tg (gName j)) (ht : ∀ s H C cl fp, RTs (Bk X scope s H C cl fp) W0 st ifs c) (he : ∀ s H C cl fp, RE (Bk X scope s H C cl fp) W0 st elt m)
    (hs : ∀ x, foldedSetIterable iter X.env x = pure x := by intro _; rfl) : FE X W st (.ListComp elt [⟨tg, iter, ifs, 0⟩] scope pos) (eLcS it j c m) := by
  obtain ⟨ti, pi, fi⟩ := hi
  obtain ⟨tt, pt, ft⟩ := rts_uni ht
  obtain ⟨te, pe, fe⟩ := re_uni he
  refine ⟨_, pe_lc hc hN (pi_str pi) ok hg pt pe hs, fun H0 B Ls G S z σ H Q h hq => ?_⟩
  refine fi H0 B Ls G S z σ H _ h (hq.bind fun y z1 H1 _ x1 hz1 hq1 v hv => ?_)
  split at hq1
  · rename_i s _
    obtain ⟨rfl, ok⟩ := bor_str hv
    exact ⟨s, rfl, fun D nD => lcW_rd j (walk_signs ok) ft fe (h.grow x1 hz1) hq1 nD⟩
  · exact hq1.elim
theorem se_setLcS (i : Nat) {elt tg iter : Expr} {ifs : List Expr} {scope : Scope} {x y : Str} {py lp : Pos} {it : ME} {c : MT} {m : ME} (j : Nat) (hc : X.calm = true) (hN : X.N.Nodup) (hy : X.N[i]? = some y) (hyl : X.env.scope.names.lookup y = some .local)
    (hsw : swapsWith (.ListComp elt [⟨tg, iter, ifs, 0⟩] scope lp) (some (.Name y py)) pos.line X.env = pure true) (hi : RE X W st iter it) (ok : BlkOk X.N X.env.scope scope [(x, j)])
    (hg : ∀ s H C cl fp, PG (Bk X scope s H C cl fp) tg (gName j)) (ht : ∀ s H C cl fp, RTs (Bk X scope s H C cl fp) W0 st ifs c) (he : ∀ s H C cl fp, RE (Bk X scope s H C cl fp) W0 st elt m)
    (hs : ∀ x, foldedSetIterable iter X.env x = pure x := by intro _; rfl) : SE X W st (.Assign [.Name y py] (.ListComp elt [⟨tg, iter, ifs, 0⟩] scope lp) pos) (sSet i (eLcS it j c m)) := by
  obtain ⟨ti, pi, fi⟩ := hi
  obtain ⟨tt, pt, ft⟩ := rts_uni ht
  obtain ⟨te, pe, fe⟩ := re_uni he
  refine ⟨_, ps_setLc hc hN hy hyl hsw (pi_str pi) ok hg pt pe hs, fun H0 B Ls S z σ H D h hq => ?_⟩
  unfold sSet at hq
  split at hq
  · rename_i hl
    unfold eLcS at hq
    have hq' : Cs X W st H0 B Ls D ((it S z).go S fun x z => (match x with
      | .im (.str s) => lcT j c m (wipS j S) (signs s) [] z
      | _ => Rs.no).go S fun x z => .nx (S.set i (.o x)) z) := by
      cases e : it S z <;> rw [e] at hq <;> exact hq
    refine fi H0 B Ls [] S z σ H _ h (Cs.go h hq' fun y z1 H1 _ x1 hz1 hq1 v hv => ?_)
    split at hq1
    · rename_i s _
      obtain ⟨rfl, ok⟩ := bor_str hv
      refine ⟨s, rfl, fun D' nD => lcW_rd (Q := fun v H1 => gName i v σ H1 D.nx) j (walk_signs ok) ft fe (h.grow x1 hz1) (Cs.go (h.grow x1 hz1) hq1 fun y z2 H2 _ x2 hz2 hq2 v G' ow h2 => ?_) nD⟩
      exact hq2 _ H2 (h2.put ow hl)
    · exact hq1.elim
  · exact hq.elim
/-! ### a text's method of one argument -/
def SpM (X : Cx) (st : Option Addr) (r : V → List V → Hp → VK → Prop) (o : Val → Val → Option Val) : Prop := ∀ (H : Hp) (va vb : V) (xa xb y : Val) (Q : VK), Bor X.K (hid st H) va xa → Bor X.K (hid st H) vb xb → o xa xb = some y →
  (∀ v H' G', Same H H' → Own X.K H' v y G' → G'.Nodup → (∀ a ∈ G', H a = none) → Q v H') → r va [vb] H Q
@[simp] def eSm1 (o : Val → Val → Option Val) (ma mb : ME) : ME := fun S z => (ma S z).bind fun x z => match x with
  | .im (.str a) => (mb S z).bind fun y z => lft (o (.im (.str a)) y) z
  | _ => .no
theorem fe_sm1 {a b : Expr} {ma mb : ME} {ap : Pos} {name : Str} {id : String} {r : V → List V → Hp → VK → Prop} {o : Val → Val → Option Val} (slot : Slot "str" name id) (hty : typeOf (.builtin id) = pure (.type "method_descriptor")) (hm : MtM X id r) (sp : SpM X st r o) (ha : RE X W st a ma) (hb : RE X W st b mb)
    (hbase : attributeBase a name X.env (eval a X.env) = eval a X.env := by rfl)
    (hfew : ((backTo pos (starEach [b] X.env)).all (fun x => !x.1) && (backToKw pos (keywordEach [] X.env)).all (fun x => x.1.isSome)
      && decide (([b] : List Expr).length + ([] : List Keyword).length + (if ([] : List Keyword).isEmpty then 0 else 1) < 30)) = true := by rfl)
    (hline : (ap.endLine == pos.line) = true := by rfl) (hs : starEach [b] X.env = (false, eval b X.env) :: starEach [] X.env := by rfl) (hplain : (backTo pos (starEach [] X.env)).any (·.1) = false := by rfl) :
    FE X W st (.Call (.Attribute a name ap) [b] [] pos) (eSm1 o ma mb) := by
  obtain ⟨ta, pa, fa⟩ := ha
  obtain ⟨tb, pb, fb⟩ := hb
  refine ⟨_, pe_bm PySem.F.plainAttrs_str slot hty hm pa (pa_cons pb pa_nil hs) hbase hfew hline hs hplain, fun H0 B Ls G S z σ H Q h hq => ?_⟩
  refine fa H0 B Ls G S z σ H _ h (Ct.bind hq fun x z1 H1 ex x1 hz1 hq1 v hv => ?_)
  split at hq1
  · rename_i u
    obtain ⟨rfl, ok⟩ := bor_str hv
    refine ⟨rfl, ?_⟩
    refine fb H0 B Ls G S z1 σ H1 _ (h.grow x1 hz1) (hq1.bind fun y z2 H2 _ x2 hz2 hq2 w hw => ?_)
    cases e : o (.im (.str u)) y with
    | none => rw [e] at hq2; exact hq2.elim
    | some k =>
      rw [e] at hq2
      exact sp H2 (.str u) w _ y k Q (.im (.str u ok)) hw e fun v' H' G' s ow nd fr => Ct.fin ((h.grow x1 hz1).grow x2 hz2) hq2 s ow nd fr
  · exact hq1.elim
/-- s.index(t), t within s -/
def rIndex0 : V → List V → Hp → VK → Prop := fun x xs H Q => ∃ (a b : Str) (k : Nat), x = .str a ∧ xs = [.str b] ∧ Txt.index0 a b = some k ∧ Q (.int (k : Nat)) H
theorem mt_index0 : MtM X "str.index" rIndex0 := by
  intro pins s σ H x xs v us Q I rx rs h
  obtain ⟨a, b, k, rfl, rfl, e, w⟩ := h
  obtain ⟨t, rfl⟩ := rx
  cases rs with
  | cons r1 rs =>
    cases rs
    obtain ⟨u, rfl⟩ := r1
    cases q : Builtin.Str.occurrences a b 0 a.length 1 with
    | nil => unfold Txt.index0 at e; rw [q] at e; cases e
    | cons k' rest =>
      have e2 : k' = k := by unfold Txt.index0 at e; rw [q] at e; exact Option.some.inj e
      subst e2
      exact PySem.SC.index q ⟨.int (k' : Nat), H, I.tok _, ⟨_, rfl⟩, w⟩
@[simp] def oIndexS (x y : Val) : Option Val := match x, y with
  | .im (.str a), .im (.str b) => (Txt.index0 a b).map fun k => .im (.int (k : Nat))
  | _, _ => none
theorem sp_index0 : SpM X st rIndex0 oIndexS := by
  intro H va vb xa xb y Q ha hb e q
  unfold oIndexS at e
  split at e
  · rename_i a b
    cases ek : Txt.index0 a b with
    | none => rw [ek] at e; cases e
    | some k =>
      rw [ek] at e; cases e
      obtain ⟨rfl, _⟩ := bor_str ha
      obtain ⟨rfl, _⟩ := bor_str hb
      exact ⟨_, _, k, rfl, rfl, ek, q _ H [] (Same.refl H) (.im (.int _)) List.nodup_nil (fun _ z => by cases z)⟩
  · cases e
@[simp] def eIndexS := eSm1 oIndexS
theorem fe_indexS {a b : Expr} {ma mb : ME} {ap : Pos} (ha : RE X W st a ma) (hb : RE X W st b mb)
    (hbase : attributeBase a "index" X.env (eval a X.env) = eval a X.env := by rfl)
    (hfew : ((backTo pos (starEach [b] X.env)).all (fun x => !x.1) && (backToKw pos (keywordEach [] X.env)).all (fun x => x.1.isSome)
      && decide (([b] : List Expr).length + ([] : List Keyword).length + (if ([] : List Keyword).isEmpty then 0 else 1) < 30)) = true := by rfl)
    (hline : (ap.endLine == pos.line) = true := by rfl) (hs : starEach [b] X.env = (false, eval b X.env) :: starEach [] X.env := by rfl) (hplain : (backTo pos (starEach [] X.env)).any (·.1) = false := by rfl) :
    FE X W st (.Call (.Attribute a "index" ap) [b] [] pos) (eIndexS ma mb) := fe_sm1 PySem.F.slot_str_index PySem.F.type_str_index mt_index0 sp_index0 ha hb hbase hfew hline hs hplain
end
/-! ### constants of the top: nested tuples -/
mutual
def repTB (K : PySem.W.Frag) : T → Value → Bool
  | .non, .none => true
  | .bl b, .bool c => b == c
  | .int i, .int j _ => decide (i = j)
  | .str s, .str z _ => decide (s = z) && sOk s
  | .tup ts, .ref a => match K.lookup a with
    | some ⟨cls, _, .seq its _, _⟩ => decide (cls = .type "tuple") && decide (its.size ≤ sizeLine) && repTsB K ts its.toList
    | _ => false
  | _, _ => false
def repTsB (K : PySem.W.Frag) : List T → List Value → Bool
  | [], [] => true
  | t :: ts, v :: vs => repTB K t v && repTsB K ts vs
  | _, _ => false
end
mutual
theorem repTB_ok {K : PySem.W.Frag} : ∀ {t : T} {u : Value}, repTB K t u = true → ∃ v, RelV v u ∧ ∀ H, RepT K H v t
  | .non, u, h => by
    cases u <;> simp [repTB] at h
    exact ⟨.non, rfl, fun _ => .non⟩
  | .bl b, u, h => by
    cases u <;> simp [repTB] at h
    subst h
    exact ⟨.bl b, rfl, fun _ => .bl b⟩
  | .int i, u, h => by
    cases u <;> simp [repTB] at h
    subst h
    exact ⟨.int i, ⟨_, rfl⟩, fun _ => .int i⟩
  | .str s, u, h => by
    cases u <;> simp [repTB] at h
    obtain ⟨rfl, h⟩ := h
    exact ⟨.str s, ⟨_, rfl⟩, fun _ => .str s h⟩
  | .tup ts, u, h => by
    cases u with
    | ref a =>
      unfold repTB at h
      split at h
      · rename_i cls od its n sl e
        simp only [Bool.and_eq_true, decide_eq_true_eq] at h
        obtain ⟨⟨h1, h2⟩, h3⟩ := h
        obtain ⟨vs, r1, r2⟩ := repTsB_ok h3
        exact ⟨.ref a, rfl, fun H => .tup (.inr ⟨_, its, n, e, h1, rfl, h2, r1⟩) (r2 H)⟩
      · cases h
    | _ => simp [repTB] at h
  | .ls ts, u, h => by cases u <;> simp [repTB] at h
theorem repTsB_ok {K : PySem.W.Frag} : ∀ {ts : List T} {us : List Value}, repTsB K ts us = true → ∃ vs, Vals vs us ∧ ∀ H, RepTs K H vs ts
  | [], us, h => by
    cases us <;> simp [repTsB] at h
    exact ⟨[], .nil, fun _ => .nil⟩
  | t :: ts, us, h => by
    cases us with
    | nil => simp [repTsB] at h
    | cons u us =>
      simp only [repTsB, Bool.and_eq_true] at h
      obtain ⟨v, r1, r2⟩ := repTB_ok h.1
      obtain ⟨vs, r3, r4⟩ := repTsB_ok h.2
      exact ⟨v :: vs, .cons r1 r3, fun H => .cons (r2 H) (r4 H)⟩
end
def constB (K : PySem.W.Frag) (x : Str) (t : T) : Bool := match PySem.W.nsIn K mainGlobals x with
  | some (some u) => repTB K t u
  | _ => false
theorem constB_ok {K : PySem.W.Frag} {h : Heap} {mg : Str → Option Value} {x : Str} {t : T} (X : K.In h) (G : h.Ns mainGlobals mg) (c : constB K x t = true) : ∃ u v, mg x = some u ∧ RelV v u ∧ ∀ H, RepT K H v t := by
  unfold constB at c
  split at c
  · rename_i u e
    obtain ⟨v, r1, r2⟩ := repTB_ok c
    exact ⟨u, v, PySem.W.mg_of X G e, r1, r2⟩
  · cases c
end MM

/-! MU: loops as folds, comprehensions as maps and filters; what a mirror is worth, by the kernel. -/
namespace MM
open PySem PySem.Spec PyProof.Rows L2
/-- a loop that never leaves -/
theorem turns_fold {α : Type} {g : MGt} {body : MS} {z : Zs} (R : α → List Sv → Prop) (step : α → T → α) : ∀ {ts : List T} {a : α} {S : List Sv},
    (∀ t ∈ ts, ∀ a S, R a S → ∃ S1, g t S = some S1 ∧ ∃ S2, (body S1 z = .nx S2 z ∨ body S1 z = .ct S2 z) ∧ R (step a t) S2) → R a S → ∃ S', sTurns g body ts S z = .nx S' z ∧ R (ts.foldl step a) S'
  | [], a, S, _, p => ⟨S, rfl, p⟩
  | t :: ts, a, S, h, p => by
    obtain ⟨S1, e1, S2, e2, p2⟩ := h t (by simp) a S p
    obtain ⟨S', e3, p3⟩ := turns_fold R step (ts := ts) (a := step a t) (S := S2) (fun u hu => h u (by simp [hu])) p2
    refine ⟨S', ?_, p3⟩
    rcases e2 with e2 | e2 <;> simp only [sTurns, e1, e2, e3]
/-- one that may return r -/
theorem turns_exit {α : Type} {g : MGt} {body : MS} {z : Zs} {r : Val} (R : α → List Sv → Prop) (step : α → T → Option α) : ∀ {ts : List T} {a : α} {S : List Sv},
    (∀ t ∈ ts, ∀ a S, R a S → ∃ S1, g t S = some S1 ∧ match step a t with
      | some a' => ∃ S2, (body S1 z = .nx S2 z ∨ body S1 z = .ct S2 z) ∧ R a' S2
      | none => body S1 z = .rt r z) → R a S → match ts.foldlM step a with
      | some a' => ∃ S', sTurns g body ts S z = .nx S' z ∧ R a' S'
      | none => sTurns g body ts S z = .rt r z
  | [], a, S, _, p => ⟨S, rfl, p⟩
  | t :: ts, a, S, h, p => by
    obtain ⟨S1, e1, h1⟩ := h t (by simp) a S p
    rw [List.foldlM_cons]
    cases e : step a t with
    | none =>
      rw [e] at h1
      show sTurns g body (t :: ts) S z = .rt r z
      simp only [sTurns, e1, h1]
    | some a' =>
      rw [e] at h1
      obtain ⟨S2, e2, p2⟩ := h1
      have ih := turns_exit R step (ts := ts) (a := a') (S := S2) (fun u hu => h u (by simp [hu])) p2
      show match ts.foldlM step a' with
        | some a' => _
        | none => _
      cases e3 : ts.foldlM step a' with
      | none =>
        rw [e3] at ih
        rcases e2 with e2 | e2 <;> simp only [sTurns, e1, e2, ih]
      | some a'' =>
        rw [e3] at ih
        obtain ⟨S', e4, p4⟩ := ih
        exact ⟨S', by rcases e2 with e2 | e2 <;> simp only [sTurns, e1, e2, e4], p4⟩
/-- a comprehension as a map -/
theorem lc_mapG {j : Nat} {m : ME} {S0 : List Sv} (hj : j < S0.length) (g : T → T) (z : Zs) : ∀ {ts acc : List T}, (∀ t ∈ ts, m (S0.set j (.o (.im t))) z = .ok (.im (g t)) z) → acc.length + ts.length ≤ 16777216 → lcT j tYs m S0 ts acc z = .ok (.il (acc ++ ts.map g)) z
  | [], acc, _, _ => by simp [lcT]
  | t :: ts, acc, h, hl => by
    rw [List.length_cons] at hl
    have ih := lc_mapG hj g z (ts := ts) (acc := acc ++ [g t]) (fun u hu => h u (by simp [hu])) (by rw [List.length_append, List.length_singleton]; omega)
    simp only [lcT, tYs]
    rw [if_pos hj, h t (by simp)]
    simp only [line_eq]
    rw [if_pos (by omega), ih]
    simp
/-- .. over things that stand for others -/
theorem lc_mapF {α : Type} {j : Nat} {m : ME} {S0 : List Sv} (hj : j < S0.length) (f g : α → T) (z : Zs) : ∀ {ts : List α} {acc : List T}, (∀ t ∈ ts, m (S0.set j (.o (.im (f t)))) z = .ok (.im (g t)) z) → acc.length + ts.length ≤ 16777216 → lcT j tYs m S0 (ts.map f) acc z = .ok (.il (acc ++ ts.map g)) z
  | [], acc, _, _ => by simp [lcT]
  | t :: ts, acc, h, hl => by
    rw [List.length_cons] at hl
    have ih := lc_mapF hj f g z (ts := ts) (acc := acc ++ [g t]) (fun u hu => h u (by simp [hu])) (by rw [List.length_append, List.length_singleton]; omega)
    simp only [List.map_cons, lcT, tYs]
    rw [if_pos hj, h t (by simp)]
    simp only [line_eq]
    rw [if_pos (by omega), ih]
    simp
theorem turns_foldF {α β : Type} {g : MGt} {body : MS} {z : Zs} (f : β → T) (R : α → List Sv → Prop) (step : α → β → α) : ∀ {ts : List β} {a : α} {S : List Sv},
    (∀ t ∈ ts, ∀ a S, R a S → ∃ S1, g (f t) S = some S1 ∧ ∃ S2, (body S1 z = .nx S2 z ∨ body S1 z = .ct S2 z) ∧ R (step a t) S2) → R a S → ∃ S', sTurns g body (ts.map f) S z = .nx S' z ∧ R (ts.foldl step a) S'
  | [], a, S, _, p => ⟨S, rfl, p⟩
  | t :: ts, a, S, h, p => by
    obtain ⟨S1, e1, S2, e2, p2⟩ := h t (by simp) a S p
    obtain ⟨S', e3, p3⟩ := turns_foldF f R step (ts := ts) (a := step a t) (S := S2) (fun u hu => h u (by simp [hu])) p2
    refine ⟨S', ?_, p3⟩
    rcases e2 with e2 | e2 <;> simp only [List.map_cons, sTurns, e1, e2, e3]
/-- .. with a test -/
theorem lc_filtG {j : Nat} {c : MT} {m : ME} {S0 : List Sv} (hj : j < S0.length) (p : T → Bool) (g : T → T) (z : Zs) : ∀ {ts acc : List T}, (∀ t ∈ ts, c (S0.set j (.o (.im t))) z = .ok (p t) z) → (∀ t ∈ ts, p t = true → m (S0.set j (.o (.im t))) z = .ok (.im (g t)) z) → acc.length + ts.length ≤ 16777216 →
    lcT j c m S0 ts acc z = .ok (.il (acc ++ (ts.filter p).map g)) z
  | [], acc, _, _, _ => by simp [lcT]
  | t :: ts, acc, hc, h, hl => by
    rw [List.length_cons] at hl
    simp only [lcT]
    rw [if_pos hj, hc t (by simp)]
    cases e : p t with
    | false =>
      simp only
      rw [lc_filtG hj p g z (ts := ts) (acc := acc) (fun u hu => hc u (by simp [hu])) (fun u hu => h u (by simp [hu])) (by omega), List.filter_cons_of_neg (by simp [e])]
    | true =>
      simp only [h t (by simp) e, line_eq]
      rw [if_pos (by omega), lc_filtG hj p g z (ts := ts) (acc := acc ++ [g t]) (fun u hu => hc u (by simp [hu])) (fun u hu => h u (by simp [hu])) (by rw [List.length_append, List.length_singleton]; omega), List.filter_cons_of_pos (by simp [e])]
      simp
@[simp] theorem bools_map {α : Type} (p : α → Bool) : ∀ ts : List α, bools? (ts.map fun t => .bl (p t)) = some (ts.map p)
  | [] => rfl
  | t :: ts => by
    rw [List.map_cons, List.map_cons]
    show (bools? (ts.map fun t => .bl (p t))).map (p t :: ·) = _
    rw [bools_map p ts]; rfl
@[simp] theorem depS_append : ∀ (a b : List T), depS (a ++ b) = max (depS a) (depS b)
  | [], b => by simp
  | t :: a, b => by
    rw [List.cons_append, depS_cons, depS_cons, depS_append a b]; omega
theorem eqvs_self (a : List T) : eqvs a a = true := eqvs_refl a
/-! ### results read off by the kernel -/
def okB : Rs Val → Option Bool
  | .ok (.im (.bl b)) _ => some b
  | _ => none
def okI : Rs Val → Option Int
  | .ok (.im (.int b)) _ => some b
  | _ => none
theorem okB_some {r : Rs Val} {b : Bool} (h : okB r = some b) : ∃ z, r = .ok (.im (.bl b)) z := by
  unfold okB at h
  split at h
  · cases h; exact ⟨_, rfl⟩
  · cases h
theorem okI_some {r : Rs Val} {b : Int} (h : okI r = some b) : ∃ z, r = .ok (.im (.int b)) z := by
  unfold okI at h
  split at h
  · cases h; exact ⟨_, rfl⟩
  · cases h
end MM

/-! MV: the head with facts of any kind; raise, try. -/
namespace MM
open PySem PySem.Spec PyProof.Rows L2
/-! ### the head's facts and any tests of what the top leaves -/
abbrev AlX : Type := He.AlD × List Bool
def obsX (fa : List He.Fa) (fn : List He.DefD) (xs : List (PySem.W.Frag → Bool)) (K : PySem.W.Frag) : AlX := (He.obsD fa fn K, xs.map fun f => f K)
def valX (fn : List He.DefD) (xs : List (PySem.W.Frag → Bool)) : AlX := (He.valD fn, xs.map fun _ => true)
def SaysX (fa : List He.Fa) (fn : List He.DefD) (xs : List (PySem.W.Frag → Bool)) (K : PySem.W.Frag) : Prop := obsX fa fn xs K = valX fn xs
def obsXG (n : Nat) (fa : List He.Fa) (fn : List He.DefD) (xs : List (PySem.W.Frag → Bool)) (g : Addr → Option Obj) : AlX := obsX fa fn xs (He.frG g (He.asD g n))
def hookX (n : Nat) (fa : List He.Fa) (fn : List He.DefD) (xs : List (PySem.W.Frag → Bool)) : PySem.W.Hook where
  α := AlX
  obs := fun s => obsXG n fa fn xs s.heap.get?
  val := fun _ => valX fn xs
  says := fun _ h => ∃ K : PySem.W.Frag, K.In h ∧ SaysX fa fn xs K
  of := fun _ _ e => ⟨_, He.frG_in, e⟩
  keeps := fun _ _ _ ⟨K, hK, c⟩ k => ⟨K, PySem.W.Frag.In.keeps hK k, c⟩
theorem obsXG_eq {n : Nat} {fa : List He.Fa} {fn : List He.DefD} {xs : List (PySem.W.Frag → Bool)} {g : Addr → Option Obj} {s : Shared} (h : ∀ a, g a = s.heap.get? a) : obsXG n fa fn xs g = (hookX n fa fn xs).obs s := by
  have e : g = s.heap.get? := funext h
  rw [e] <;> rfl
theorem SaysX.d {fa : List He.Fa} {fn : List He.DefD} {xs : List (PySem.W.Frag → Bool)} {K : PySem.W.Frag} (c : SaysX fa fn xs K) : He.SaysD fa fn K := congrArg (fun z : AlX => z.1) c
theorem SaysX.x {fa : List He.Fa} {fn : List He.DefD} {xs : List (PySem.W.Frag → Bool)} {K : PySem.W.Frag} (c : SaysX fa fn xs K) (i : Nat) {f : PySem.W.Frag → Bool} (h : xs[i]? = some f := by rfl) : f K = true := by
  have e : xs.map (fun f => f K) = xs.map fun _ => true := congrArg (fun z : AlX => z.2) c
  have e2 : (xs.map fun f => f K)[i]? = (xs.map fun _ => true)[i]? := by rw [e]
  rw [List.getElem?_map, List.getElem?_map, h] at e2
  exact Option.some.inj e2
/-! ### errors -/
/-- what raising the text's class x needs -/
def ExcF (K : PySem.W.Frag) (mg : Str → Option Value) (x : Str) : Prop := ∃ C, mg x = some (.ref C) ∧ PySem.W.excIn K C He.veBase "ValueError.__new__" = true ∧ PySem.W.keepIn K (.ref C) = true ∧ PySem.W.subIn K (.ref C) (.type "BaseException") = some true ∧ PySem.W.typeIn K (.ref C) = some (.type "type")
section
variable {X : Cx} {W : WX} {st : Option Addr} {pos : Pos}
@[simp] def sRaise (nm : Str) : MS := fun S z => .xc ⟨nm, none⟩ S z
theorem se_raise {x m : Str} {j : Nat} {p p2 p3 : Pos} (F : ExcF X.K X.mg x) (tk : Takes X W) (hc : X.calm = true) (hg : Gl X x) (hdb : (x == ("__debug__" : Str)) = false := by decide) : SE X W st (.Raise (some (.Call (.Name x p) [.Constant (.str m) j p2] [] p3)) none pos) (sRaise x) := by
  obtain ⟨C, gC, q, kC, b, t⟩ := F
  refine ⟨_, ps_raise hc tk (pmk_own PySem.F.excBase_ValueError q gC kC (raises_own b t) hg hdb), fun H0 B Ls S z σ H D h hq => ?_⟩
  exact hq (.ref C) none σ H h ⟨⟨C, gC, rfl⟩, rfl⟩
/-- the suite raises nothing -/
@[simp] def noX : Ro → Ro
  | .xc _ _ _ => .no
  | r => r
@[simp] def sTry (cat : List (Str × Bool)) (b : MS) (mh : Str → MS) : MS := fun S z => match b S z with
  | .xc e S z => match e.fld with
    | none => match cat.lookup e.nm with
      | some true => noX (mh e.nm S z)
      | some false => .xc e S z
      | none => .no
    | some _ => .no
  | r => r
/-- slot i -/
@[simp] def setU (i : Nat) : Ro → Ro
  | .nx S z => if i < S.length then .nx (S.set i .un) z else .no
  | .bk S z => if i < S.length then .bk (S.set i .un) z else .no
  | .ct S z => if i < S.length then .ct (S.set i .un) z else .no
  | .rt x z => .rt x z
  | _ => .no
@[simp] def sTryAs (i : Nat) (cat : List (Str × Bool)) (b : MS) (mh : Str → MS) : MS := fun S z => match b S z with
  | .xc e S z => match e.fld with
    | none => match cat.lookup e.nm with
      | some true => if i < S.length then setU i (mh e.nm (S.set i .un) z) else .no
      | some false => .xc e S z
      | none => .no
    | some _ => .no
  | r => r
theorem Stt.unset {K : PySem.W.Frag} {H0 B H : Hp} {Ls : List (Option (V × Val))} {S : List Sv} {z : Zs} {σ : L2.St} {i : Nat} (h : Stt K st H0 B Ls [] S z σ H) (hi : i < S.length) (w : Option V) : Stt K st H0 B Ls [] (S.set i .un) z (σ.set i w) H := by
  obtain ⟨Gs, hs, nd, fr⟩ := h.ex
  obtain ⟨Ga, Gm, Gb, e, q⟩ := hs.set hi (y := .un) (w := w) (G2 := []) fun l => .un .nil
  rw [List.nil_append] at nd fr
  subst e
  refine ⟨h.fr, h.zr, h.ble, h.z0, h.bst, h.gt, h.lks, _, q, ?_, fun a ha => fr a ?_⟩
  · simp only [List.nil_append, List.append_nil]
    exact nd.sublist (List.Sublist.append_right (List.sublist_append_left Ga Gm) Gb)
  · simp only [List.nil_append, List.append_nil, List.mem_append] at ha ⊢
    rcases ha with q | q
    · exact .inl (.inl q)
    · exact .inr q
/-- which classes the clause takes -/
def CatOk (K : PySem.W.Frag) (mg : Str → Option Value) (c : Value) (cat : List (Str × Bool)) : Prop := ∀ nm b, cat.lookup nm = some b → ∀ D, mg nm = some (.ref D) → PySem.W.exmOne K (.ref D) c = some b
theorem cat_nil {K : PySem.W.Frag} {mg : Str → Option Value} {c : Value} : CatOk K mg c [] := fun nm b e => by cases e
theorem cat_cons {K : PySem.W.Frag} {mg : Str → Option Value} {c : Value} {x : Str} {b : Bool} {cat : List (Str × Bool)} (h : ∀ D, mg x = some (.ref D) → PySem.W.exmOne K (.ref D) c = some b) (hs : CatOk K mg c cat) : CatOk K mg c ((x, b) :: cat) := fun nm b' e D hD => by
  rw [List.lookup_cons] at e
  split at e
  · rename_i q
    cases e
    rw [beq_iff_eq] at q
    subst q
    exact h D hD
  · exact hs nm b' e D hD
section
variable {x n : Str} {c : Value} {body suite : List Stmt} {b₀ : Stmt} {np pos' : Pos} {mb : MS} {mh : Str → MS} {cat : List (Str × Bool)}
/-- the body's term, whatever the wish -/
theorem body_any (hb : ∀ (W' : WX) (pn : List (Addr × Obj)) (xe : Value → Shared → Prop), Takes (X.tr pn xe) W' → PassesOwn (model X.prog X.w) X.A X.env xe → SEs (X.tr pn xe) W' st body mb) :
    ∃ tb : WX → TS, (∀ (W' : WX) (pn : List (Addr × Obj)) (xe : Value → Shared → Prop), Takes (X.tr pn xe) W' → PassesOwn (model X.prog X.w) X.A X.env xe → PSs (X.tr pn xe) body (tb W')) ∧
      ∀ W' H0 B Ls S z σ H D, Stt X.K st H0 B Ls [] S z σ H → Cs X W' st H0 B Ls D (mb S z) → tb W' D σ H := by
  refine ⟨fun W' D σ H => ∀ pn xe (tk : Takes (X.tr pn xe) W') (ps : PassesOwn (model X.prog X.w) X.A X.env xe), Classical.choose (hb W' pn xe tk ps) D σ H, fun W' pn xe tk ps => ?_, fun W' H0 B Ls S z σ H D h hq pn xe tk ps => ?_⟩
  · exact ⟨fun pins s σ H D I hw => (Classical.choose_spec (hb W' pn xe tk ps)).1.run pins s σ H D I (hw pn xe tk ps)⟩
  · refine (Classical.choose_spec (hb W' pn xe tk ps)).2 H0 B Ls S z σ H D h ?_
    cases e : mb S z <;> rw [e] at hq <;> exact hq
theorem suite_any (hsu : ∀ (a : Addr) (oe : Obj) (C : Addr) (pn : List (Addr × Obj)) (nm : Str), Zc (.ref C) none oe → (∃ vs, oe.data = .fields vs) → X.mg nm = some (.ref C) → (cat.lookup nm).isSome = true → SEs (X.suite a ((a, oe) :: pn)) W0 st (b₀ :: suite) (mh nm)) :
    ∃ ts : Addr → Value → Option Addr → TS, (∀ (a : Addr) (oe : Obj) (cls : Value) (d : Option Addr) (pn : List (Addr × Obj)), Zc cls d oe → (∃ vs, oe.data = .fields vs) → PSs (X.suite a ((a, oe) :: pn)) (b₀ :: suite) (ts a cls d)) ∧
      ∀ a C nm H0 B Ls S z σ H D, X.mg nm = some (.ref C) → (cat.lookup nm).isSome = true → Stt X.K st H0 B Ls [] S z σ H → Cs X W0 st H0 B Ls D (mh nm S z) → ts a (.ref C) none D σ H := by
  refine ⟨fun a cls d D σ H => ∃ C nm, ∃ (e1 : cls = .ref C) (e2 : d = none) (g : X.mg nm = some (.ref C)) (l : (cat.lookup nm).isSome = true), ∀ oe pn (hz : Zc (.ref C) none oe) (hf : ∃ vs, oe.data = .fields vs), Classical.choose (hsu a oe C pn nm hz hf g l) D σ H, fun a oe cls d pn hz hf => ?_, fun a C nm H0 B Ls S z σ H D g l h hq => ?_⟩
  · refine ⟨fun pins s σ H D I hw => ?_⟩
    obtain ⟨C, nm, e1, e2, g, l, hw⟩ := hw
    subst e1 e2
    exact (Classical.choose_spec (hsu a oe C pn nm hz hf g l)).1.run pins s σ H D I (hw oe pn hz hf)
  · refine ⟨C, nm, rfl, rfl, g, l, fun oe pn hz hf => ?_⟩
    refine (Classical.choose_spec (hsu a oe C pn nm hz hf g l)).2 H0 B Ls S z σ H D h ?_
    cases e : mh nm S z <;> rw [e] at hq <;> exact hq
theorem se_try (hs : X.stack = X.env :: X.outer) (hf : X.env.frame = some X.env.locals) (hc : Names X x c) (tk : Takes X W) (hcat : CatOk X.K X.mg c cat)
    (hb : ∀ (W' : WX) (pn : List (Addr × Obj)) (xe : Value → Shared → Prop), Takes (X.tr pn xe) W' → PassesOwn (model X.prog X.w) X.A X.env xe → SEs (X.tr pn xe) W' st body mb)
    (hsu : ∀ (a : Addr) (oe : Obj) (C : Addr) (pn : List (Addr × Obj)) (nm : Str), Zc (.ref C) none oe → (∃ vs, oe.data = .fields vs) → X.mg nm = some (.ref C) → (cat.lookup nm).isSome = true → SEs (X.suite a ((a, oe) :: pn)) W0 st (b₀ :: suite) (mh nm)) :
    SE X W st (.Try body [.ExceptHandler (some (.Name x np)) none (b₀ :: suite) pos'] [] [] pos) (sTry cat mb mh) := by
  obtain ⟨tb, pb, fb⟩ := body_any hb
  obtain ⟨ts, psu, fsu⟩ := suite_any hsu
  refine ⟨_, ps_try_only hs hf hc tk (fun W' pn xe tk ps => pb W' pn xe tk ps) psu, fun H0 B Ls S z σ H D h hq => ?_⟩
  refine fb _ H0 B Ls S z σ H D h ?_
  unfold sTry at hq
  cases e : mb S z with
  | xc c' S1 z1 =>
    rw [e] at hq
    intro cv d σ1 H1 h1 xr
    obtain ⟨nm, fld⟩ := c'
    cases fld with
    | some _ => exact hq.elim
    | none =>
      dsimp only at hq
      obtain ⟨⟨C, g, rfl⟩, hd⟩ := id xr
      dsimp only at g hd
      subst hd
      cases el : cat.lookup nm with
      | none => rw [el] at hq; exact hq.elim
      | some b =>
        rw [el] at hq
        refine ⟨b, hcat nm b el C g, fun eb a _ => ?_, fun eb => ?_⟩
        · subst eb
          refine fsu a C nm H0 B Ls S1 z1 σ1 H1 D g (by rw [el]; rfl) h1 ?_
          cases e2 : mh nm S1 z1 with
          | xc c2 S2 z2 => dsimp only at hq; rw [e2] at hq; exact hq.elim
          | nx S2 z2 => dsimp only at hq; rw [e2] at hq; exact hq
          | bk S2 z2 => dsimp only at hq; rw [e2] at hq; exact hq
          | ct S2 z2 => dsimp only at hq; rw [e2] at hq; exact hq
          | rt x2 z2 => dsimp only at hq; rw [e2] at hq; exact hq
          | no => dsimp only at hq; rw [e2] at hq; exact hq.elim
        · subst eb
          exact hq _ _ σ1 H1 h1 xr
  | nx S1 z1 => rw [e] at hq; exact hq
  | rt x z1 => rw [e] at hq; exact hq
  | bk S1 z1 => rw [e] at hq; exact hq
  | ct S1 z1 => rw [e] at hq; exact hq
  | no => rw [e] at hq; exact hq
end
end
/-! ### a suite that asks isinstance of its error first -/
/-- slot i holds the error at a -/
def RTx (a : Addr) (i : Nat) (X : Cx) (W : WX) (st : Option Addr) (e : Expr) (m : MT) : Prop := ∃ t, PT X e t ∧ ∀ H0 B Ls G S z σ H Q, Stt X.K st H0 B Ls G S z σ H → σ[i]? = some (some (.ref a)) →
  Ct X W st σ H (m S z) (fun x z' H' => Q x H') → t σ H Q
def RWx (a : Addr) (i : Nat) (X : Cx) (W : WX) (st : Option Addr) (e : Expr) (m : MT) : Prop := ∃ t, PW X e t ∧ ∀ H0 B Ls G S z σ H Q, Stt X.K st H0 B Ls G S z σ H → σ[i]? = some (some (.ref a)) →
  Ct X W st σ H (m S z) (fun x z' H' => Q x H') → t σ H Q
section
variable {X : Cx} {W : WX} {st : Option Addr} {pos : Pos} {ax : Addr} {ix : Nat}
theorem rtx_of {e : Expr} {m : MT} (h : RT X W st e m) : RTx ax ix X W st e m := let ⟨t, p, f⟩ := h; ⟨t, p, fun H0 B Ls G S z σ H Q s _ q => f H0 B Ls G S z σ H Q s q⟩
theorem rtx_rw {e : Expr} {m : MT} (h : RWx ax ix X W st e m) : RTx ax ix X W st e m := let ⟨t, p, f⟩ := h; ⟨t, p.pt, f⟩
theorem rtx_not {e : Expr} {m : MT} (he : RTx ax ix X W st e m) : RTx ax ix X W st (.UnaryOp .Not e pos) (tNt m) := by
  obtain ⟨t, p, f⟩ := he
  refine ⟨tNot t, pt_not p, fun H0 B Ls G S z σ H Q h hx hq => ?_⟩
  exact f H0 B Ls G S z σ H _ h hx (hq.bind fun b z1 H1 _ x1 hz1 hq1 => Ct.ok (k := fun x z' H' => Q x H') hq1 hz1)
variable {a b : Expr} {ma mb : MT} {rest : List Expr}
theorem rwx_and1 (ha : RTx ax ix X W st a ma) : RWx ax ix X W st (.BoolOp .And [a] pos) ma := let ⟨t, p, f⟩ := ha; ⟨t, pw_and1 p, f⟩
theorem rwx_or1 (ha : RTx ax ix X W st a ma) : RWx ax ix X W st (.BoolOp .Or [a] pos) ma := let ⟨t, p, f⟩ := ha; ⟨t, pw_or1 p, f⟩
theorem rwx_and (ha : RTx ax ix X W st a ma) (hb : RWx ax ix X W st (.BoolOp .And (b :: rest) pos) mb) : RWx ax ix X W st (.BoolOp .And (a :: b :: rest) pos) (tAn ma mb) := by
  obtain ⟨t, p, f⟩ := ha
  obtain ⟨u, q, g⟩ := hb
  refine ⟨tAnd t u, pw_and p q, fun H0 B Ls G S z σ H Q h hx hq => ?_⟩
  refine f H0 B Ls G S z σ H _ h hx (hq.bind fun c z1 H1 _ x1 hz1 hq1 => ?_)
  cases c with
  | true => exact iteT (g H0 B Ls G S z1 σ H1 Q (h.grow x1 hz1) hx hq1)
  | false => exact iteF (Ct.ok (k := fun x z' H' => Q x H') hq1 hz1)
theorem rwx_or (ha : RTx ax ix X W st a ma) (hb : RWx ax ix X W st (.BoolOp .Or (b :: rest) pos) mb) : RWx ax ix X W st (.BoolOp .Or (a :: b :: rest) pos) (tOr' ma mb) := by
  obtain ⟨t, p, f⟩ := ha
  obtain ⟨u, q, g⟩ := hb
  refine ⟨tOr t u, pw_or p q, fun H0 B Ls G S z σ H Q h hx hq => ?_⟩
  refine f H0 B Ls G S z σ H _ h hx (hq.bind fun c z1 H1 _ x1 hz1 hq1 => ?_)
  cases c with
  | false => exact iteF (g H0 B Ls G S z1 σ H1 Q (h.grow x1 hz1) hx hq1)
  | true => exact iteT (Ct.ok (k := fun x z' H' => Q x H') hq1 hz1)
end
/-- the answer is told -/
@[simp] def tIs (k : Bool) : MT := fun _ z => .ok k z
/-- a class as a value: its V, its Value -/
structure ClsE (X : Cx) (e : Expr) (cv : Value) : Prop where
  ex : ∃ c : V, PE X e (tC c) ∧ ∀ u, RelV c u → u = cv
theorem clsE_own {X : Cx} {y : Str} {q : Pos} {C : Addr} (hg : Gl X y) (hm : X.mg y = some (.ref C)) (hd : (y == ("__debug__" : Str)) = false := by decide) : ClsE X (.Name y q) (.ref C) := ⟨.ref C, pe_glob hg hm rfl hd, fun u r => r⟩
theorem clsE_ty {X : Cx} {y : Str} {q : Pos} {nm : String} (hg : Gl X y) (hm : X.mg y = none) (hv : bootBuiltins y = some (.type nm)) (hn : y ≠ "__name__" := by decide) (hd : (y == ("__debug__" : Str)) = false := by decide) : ClsE X (.Name y q) (.type nm) := ⟨.ty nm, pe_bltn hg hm hv rfl hn hd, fun u r => r⟩
def KitOk (K : PySem.W.Frag) (mg : Str → Option Value) (cv : Value) (lst : List (Str × Bool)) : Prop := ∀ nm b, lst.lookup nm = some b → ∀ D, mg nm = some (.ref D) → ExcC K D ∧ PySem.W.kitOne K (.ref D) cv = some b
theorem kit_nil {K : PySem.W.Frag} {mg : Str → Option Value} {c : Value} : KitOk K mg c [] := fun nm b e => by cases e
theorem kit_cons {K : PySem.W.Frag} {mg : Str → Option Value} {c : Value} {x : Str} {b : Bool} {cat : List (Str × Bool)} (h : ∀ D, mg x = some (.ref D) → ExcC K D ∧ PySem.W.kitOne K (.ref D) c = some b) (hs : KitOk K mg c cat) : KitOk K mg c ((x, b) :: cat) := fun nm b' e D hD => by
  rw [List.lookup_cons] at e
  split at e
  · rename_i q
    cases e
    rw [beq_iff_eq] at q
    subst q
    exact h D hD
  · exact hs nm b' e D hD
theorem lookup_some {nm : Str} : ∀ {cat lst : List (Str × Bool)}, cat.map (·.1) = lst.map (·.1) → (cat.lookup nm).isSome = true → ∃ b, lst.lookup nm = some b
  | [], _, _, h => by cases h
  | (x, b) :: cat, [], e, _ => by cases e
  | (x, b) :: cat, (y, d) :: lst, e, h => by
    simp only [List.map_cons, List.cons.injEq] at e
    obtain ⟨e1, e2⟩ := e
    subst e1
    rw [List.lookup_cons] at h ⊢
    split at h
    · exact ⟨d, rfl⟩
    · exact lookup_some e2 h
section
variable {X : Cx} {W : WX} {st : Option Addr} {pos : Pos}
theorem rtx_isE {cat lst : List (Str × Bool)} {ax : Addr} {oe : Obj} {C : Addr} {pn : List (Addr × Obj)} {nm : Str} (i : Nat) {n : Str} {np p : Pos} {ce : Expr} {cv : Value} (hz : Zc (.ref C) none oe) (hf : ∃ vs, oe.data = .fields vs) (hC : X.mg nm = some (.ref C)) (hnm : (cat.lookup nm).isSome = true)
    (hc : ClsE (X.suite ax ((ax, oe) :: pn)) ce cv) (hk : KitOk X.K X.mg cv lst) (hg : Gl X "isinstance") (hm : X.mg "isinstance" = none) (hkeys : cat.map (·.1) = lst.map (·.1) := by rfl)
    (hN : X.N[i]? = some n := by rfl) (hv : Vis X.env.scope n := by first | exact Or.inl rfl | exact Or.inr (Or.inl rfl) | exact Or.inr (Or.inr rfl)) (hd : (n == ("__debug__" : Str)) = false := by decide) (hcd : (n == ("__classdict__" : Str)) = false := by decide)
    (he : starEach [.Name n np, ce] X.env = (false, eval (.Name n np) X.env) :: starEach [ce] X.env := by rfl) (hpl : (backTo pos (starEach [ce] X.env)).any (·.1) = false := by rfl) (he2 : starEach [ce] X.env = (false, eval ce X.env) :: starEach [] X.env := by rfl)
    (hw : ∀ whole, isTrue (.Call (.Name "isinstance" p) [.Name n np, ce] [] pos) X.env whole = (do let v ← whole; standAt pos; holding [v] (truthy v)) := by intro _; rfl) :
    RTx ax i (X.suite ax ((ax, oe) :: pn)) W st (.Call (.Name "isinstance" p) [.Name n np, ce] [] pos) (tIs ((lst.lookup nm).getD false)) := by
  obtain ⟨c, pc, uc⟩ := hc.ex
  obtain ⟨b, eb⟩ := lookup_some hkeys hnm
  obtain ⟨xc, kc⟩ := hk nm b eb C hC
  refine ⟨_, pt_val (pe_callB (call_isE xc hz hf) hg hm (by decide +kernel) (pa_cons (pe_var (i := i) hN hv hd hcd) (pa_cons pc pa_nil he2) he) (he := he) (hpl := hpl)) hw, fun H0 B Ls G S z σ H Q h hx hq => ?_⟩
  rw [eb] at hq
  refine ⟨.ref ax, hx, c, cv, b, rfl, uc, kc, b, rfl, ?_⟩
  exact Ct.ok (k := fun x z' H' => Q x H') hq h.zr
def SEx (a : Addr) (i : Nat) (X : Cx) (W : WX) (st : Option Addr) (s : Stmt) (m : MS) : Prop := ∃ t, PS X s t ∧ ∀ H0 B Ls S z σ H D, Stt X.K st H0 B Ls [] S z σ H → σ[i]? = some (some (.ref a)) → Cs X W st H0 B Ls D (m S z) → t D σ H
def SEsx (a : Addr) (i : Nat) (X : Cx) (W : WX) (st : Option Addr) (s : List Stmt) (m : MS) : Prop := ∃ t, PSs X s t ∧ ∀ H0 B Ls S z σ H D, Stt X.K st H0 B Ls [] S z σ H → σ[i]? = some (some (.ref a)) → Cs X W st H0 B Ls D (m S z) → t D σ H
section
variable {ax : Addr} {ix : Nat}
theorem sex_of {s : Stmt} {m : MS} (h : SE X W st s m) : SEx ax ix X W st s m := let ⟨t, p, f⟩ := h; ⟨t, p, fun H0 B Ls S z σ H D s _ q => f H0 B Ls S z σ H D s q⟩
theorem sex_if {c : Expr} {a b : List Stmt} {mc : MT} {ma mb : MS} (hc : RTx ax ix X W st c mc) (ha : SEs X W st a ma) (hb : SEs X W st b mb) : SEx ax ix X W st (.If c a b pos) (sIf mc ma mb) := by
  obtain ⟨tc, pc, fc⟩ := hc
  obtain ⟨ta, pa, fa⟩ := ha
  obtain ⟨tb, pb, fb⟩ := hb
  refine ⟨tIfS tc ta tb, ps_if pc pa pb, fun H0 B Ls S z σ H D h hx hq => ?_⟩
  refine fc H0 B Ls [] S z σ H _ h hx (Cs.go h hq fun k z1 H1 _ x1 hz1 hq1 => ?_)
  cases k with
  | true => exact iteT (fa H0 B Ls S z1 σ H1 D (h.grow x1 hz1) hq1)
  | false => exact iteF (fb H0 B Ls S z1 σ H1 D (h.grow x1 hz1) hq1)
theorem ssx_one {s : Stmt} {m : MS} (h : SEx ax ix X W st s m) : SEsx ax ix X W st [s] m := let ⟨t, p, f⟩ := h; ⟨t, pss_one p, f⟩
theorem ssx_cons {s : Stmt} {r : List Stmt} {a b : MS} (h : SEx ax ix X W st s a) (hr : SEs X W st r b) : SEsx ax ix X W st (s :: r) (sSeq a b) := by
  obtain ⟨t, p, f⟩ := h
  obtain ⟨u, q, g⟩ := hr
  refine ⟨tSeq t u, pss_cons p q, fun H0 B Ls S z σ H D h hx hq => ?_⟩
  refine f H0 B Ls S z σ H { D with nx := u D } h hx ?_
  unfold sSeq at hq
  cases e : a S z with
  | nx S1 z1 => rw [e] at hq; exact fun σ1 H1 h1 => g H0 B Ls S1 z1 σ1 H1 D h1 hq
  | rt x z1 => rw [e] at hq; exact hq
  | bk S1 z1 => rw [e] at hq; exact hq
  | ct S1 z1 => rw [e] at hq; exact hq
  | xc c S1 z1 => rw [e] at hq; exact hq
  | no => rw [e] at hq; exact hq
end
section
variable {x n : Str} {c : Value} {body suite : List Stmt} {b₀ : Stmt} {np pos' : Pos} {mb : MS} {mh : Str → MS} {cat : List (Str × Bool)} {i : Nat}
theorem suite_anyx (hsu : ∀ (a : Addr) (oe : Obj) (C : Addr) (pn : List (Addr × Obj)) (nm : Str), Zc (.ref C) none oe → (∃ vs, oe.data = .fields vs) → X.mg nm = some (.ref C) → (cat.lookup nm).isSome = true → SEsx a i (X.suite a ((a, oe) :: pn)) W0 st (b₀ :: suite) (mh nm)) :
    ∃ ts : Addr → Value → Option Addr → TS, (∀ (a : Addr) (oe : Obj) (cls : Value) (d : Option Addr) (pn : List (Addr × Obj)), Zc cls d oe → (∃ vs, oe.data = .fields vs) → PSs (X.suite a ((a, oe) :: pn)) (b₀ :: suite) (ts a cls d)) ∧
      ∀ a C nm H0 B Ls S z σ H D, X.mg nm = some (.ref C) → (cat.lookup nm).isSome = true → Stt X.K st H0 B Ls [] S z σ H → σ[i]? = some (some (.ref a)) → Cs X W0 st H0 B Ls D (mh nm S z) → ts a (.ref C) none D σ H := by
  refine ⟨fun a cls d D σ H => ∃ C nm, ∃ (e1 : cls = .ref C) (e2 : d = none) (g : X.mg nm = some (.ref C)) (l : (cat.lookup nm).isSome = true), ∀ oe pn (hz : Zc (.ref C) none oe) (hf : ∃ vs, oe.data = .fields vs), Classical.choose (hsu a oe C pn nm hz hf g l) D σ H, fun a oe cls d pn hz hf => ?_, fun a C nm H0 B Ls S z σ H D g l h hx hq => ?_⟩
  · refine ⟨fun pins s σ H D I hw => ?_⟩
    obtain ⟨C, nm, e1, e2, g, l, hw⟩ := hw
    subst e1 e2
    exact (Classical.choose_spec (hsu a oe C pn nm hz hf g l)).1.run pins s σ H D I (hw oe pn hz hf)
  · refine ⟨C, nm, rfl, rfl, g, l, fun oe pn hz hf => ?_⟩
    refine (Classical.choose_spec (hsu a oe C pn nm hz hf g l)).2 H0 B Ls S z σ H D h hx ?_
    cases e : mh nm S z <;> rw [e] at hq <;> exact hq
theorem se_tryAs (hs : X.stack = X.env :: X.outer) (hf : X.env.frame = some X.env.locals) (hN : X.N.Nodup) (hi : X.N[i]? = some n) (hln : X.env.kindOf n = some .local) (hc : Names X x c) (tk : Takes X W) (hcat : CatOk X.K X.mg c cat)
    (hb : ∀ (W' : WX) (pn : List (Addr × Obj)) (xe : Value → Shared → Prop), Takes (X.tr pn xe) W' → PassesOwn (model X.prog X.w) X.A X.env xe → SEs (X.tr pn xe) W' st body mb)
    (hsu : ∀ (a : Addr) (oe : Obj) (C : Addr) (pn : List (Addr × Obj)) (nm : Str), Zc (.ref C) none oe → (∃ vs, oe.data = .fields vs) → X.mg nm = some (.ref C) → (cat.lookup nm).isSome = true → SEsx a i (X.suite a ((a, oe) :: pn)) W0 st (b₀ :: suite) (mh nm)) :
    SE X W st (.Try body [.ExceptHandler (some (.Name x np)) (some n) (b₀ :: suite) pos'] [] [] pos) (sTryAs i cat mb mh) := by
  obtain ⟨tb, pb, fb⟩ := body_any hb
  obtain ⟨ts, psu, fsu⟩ := suite_anyx hsu
  refine ⟨_, ps_try_as hs hf hN hi hln hc tk (fun W' pn xe tk ps => pb W' pn xe tk ps) psu, fun H0 B Ls S z σ H D h hq => ?_⟩
  refine fb _ H0 B Ls S z σ H D h ?_
  unfold sTryAs at hq
  cases e : mb S z with
  | xc c' S1 z1 =>
    rw [e] at hq
    intro cv d σ1 H1 h1 xr
    obtain ⟨nm, fld⟩ := c'
    cases fld with
    | some _ => exact hq.elim
    | none =>
      dsimp only at hq
      obtain ⟨⟨C, g, rfl⟩, hd⟩ := id xr
      dsimp only at g hd
      subst hd
      cases el : cat.lookup nm with
      | none => rw [el] at hq; exact hq.elim
      | some b =>
        rw [el] at hq
        refine ⟨b, hcat nm b el C g, fun eb a _ => ?_, fun eb => ?_⟩
        · subst eb
          dsimp only at hq
          split at hq
          · rename_i hl
            have hl2 : i < σ1.length := by
              obtain ⟨Gs, hs, _⟩ := h1.ex
              rw [hs.length]; exact hl
            have un : ∀ {S2 : List Sv} {z2 : Zs} {σ2 : L2.St} {H2 : Hp}, i < S2.length → Stt X.K st H0 B Ls [] S2 z2 σ2 H2 → Stt X.K st H0 B Ls [] (S2.set i .un) z2 (σ2.set i none) H2 := fun hl h => h.unset hl none
            refine fsu a C nm H0 B Ls (S1.set i .un) z1 (σ1.set i (some (.ref a))) H1 _ g (by rw [el]; rfl) (h1.unset hl _) (by rw [List.getElem?_set_self hl2]) ?_
            cases e2 : mh nm (S1.set i .un) z1 with
            | xc c2 S2 z2 => rw [e2] at hq; exact hq.elim
            | no => rw [e2] at hq; exact hq.elim
            | rt x2 z2 => rw [e2] at hq; exact hq
            | nx S2 z2 =>
              rw [e2] at hq
              simp only [setU] at hq
              split at hq
              · rename_i hl3; exact fun σ2 H2 h2 => hq _ H2 (un hl3 h2)
              · exact hq.elim
            | bk S2 z2 =>
              rw [e2] at hq
              simp only [setU] at hq
              split at hq
              · rename_i hl3; exact fun σ2 H2 h2 => hq _ H2 (un hl3 h2)
              · exact hq.elim
            | ct S2 z2 =>
              rw [e2] at hq
              simp only [setU] at hq
              split at hq
              · rename_i hl3; exact fun σ2 H2 h2 => hq _ H2 (un hl3 h2)
              · exact hq.elim
          · exact hq.elim
        · subst eb
          exact hq _ _ σ1 H1 h1 xr
  | nx S1 z1 => rw [e] at hq; exact hq
  | rt x z1 => rw [e] at hq; exact hq
  | bk S1 z1 => rw [e] at hq; exact hq
  | ct S1 z1 => rw [e] at hq; exact hq
  | no => rw [e] at hq; exact hq
end
end
end MM
namespace MM
open PySem PySem.Spec PyProof.Rows L2
/-! ### facts of error classes as tests -/
def excCB (K : PySem.W.Frag) (D : Addr) : Bool := He.eqO (PySem.W.findIn K (.ref D) "__getattribute__") (some (some (.builtin "BaseException.__getattribute__"))) && (He.eqO (PySem.W.findIn K (.ref D) "__getattr__") (some none) && (decide (PySem.W.subIn K (.ref D) (.type "BaseException") = some true) && (PySem.W.hasDictIn K D &&
  (He.eqO (PySem.W.findIn K (.ref D) "__class__") (some (some (.builtin "object.__class__"))) && (He.eqO (PySem.W.specialIn K (.builtin "object.__class__") "__get__") (some (some (.builtin "getset_descriptor.__get__"))) && (decide (PySem.W.takesIn K (.builtin "object.__class__") = some true) && decide (PySem.W.mroIn K D (.type "object") = some true)))))))
theorem excCB_ok {K : PySem.W.Frag} {D : Addr} (h : excCB K D = true) : ExcC K D := by
  unfold excCB at h
  simp only [Bool.and_eq_true, decide_eq_true_eq] at h
  obtain ⟨h1, h2, h3, h4, h5, h6, h7, h8⟩ := h
  exact ⟨He.eqO_ok h1, He.eqO_ok h2, h3, h4, He.eqO_ok h5, He.eqO_ok h6, h7, h8⟩
def kitOB (K : PySem.W.Frag) (D : Addr) (c : Value) (b : Bool) : Bool := decide (PySem.W.kitOne K (.ref D) c = some b)
theorem kitOB_ok {K : PySem.W.Frag} {D : Addr} {c : Value} {b : Bool} (h : kitOB K D c b = true) : PySem.W.kitOne K (.ref D) c = some b := of_decide_eq_true h
end MM
namespace MM
open PySem PySem.Spec PyProof.Rows L2
/-! ### nothing is said -/
def sNo : MS := fun _ _ => .no
theorem sss_no {X : Cx} {W : WX} {st : Option Addr} {s : List Stmt} : SEs X W st s sNo := ⟨fun _ _ _ => False, ⟨fun _ _ _ _ _ _ h => h.elim⟩, fun H0 B Ls S z σ H D h hq => hq⟩
end MM

/-! MW: dicts walked: for, comprehensions, list(d). -/
namespace MM
open PySem PySem.Spec PyProof.Rows L2
/-! ### a dict that is kept as it is for a while -/
open Classical in
/-- F with u at d frozen, where it stands there -/
noncomputable def fzd (d : Addr) (od : Obj) (u : HO) (F : Hp) : Hp := fun a => if a = d ∧ F d = some u then some (.frz od u) else F a
def isDk (u : HO) : Prop := (∃ xs, u = .dK xs) ∨ ∃ xs, u = .dT xs
section
variable {d : Addr} {od : Obj} {u : HO} {F : Hp}
theorem fzd_ne {a : Addr} (h : a ≠ d) : fzd d od u F a = F a := by unfold fzd; rw [if_neg fun c => h c.1]
theorem fzd_at (h : F d = some u) : fzd d od u F d = some (.frz od u) := by unfold fzd; rw [if_pos ⟨rfl, h⟩]
theorem fzd_off (h : F d ≠ some u) : fzd d od u F = F := by funext a; unfold fzd; rw [if_neg fun c => h c.2]
theorem fzd_none {a : Addr} (h : F a = none) : fzd d od u F a = none := by
  by_cases e : F d = some u
  · rw [fzd_ne fun c => by rw [c, e] at h; cases h]; exact h
  · rw [fzd_off e]; exact h
theorem fzd_none' {a : Addr} (h : fzd d od u F a = none) : F a = none := by
  by_cases e : F d = some u
  · by_cases c : a = d
    · rw [c, fzd_at e] at h; cases h
    · rwa [fzd_ne c] at h
  · rwa [fzd_off e] at h
/-- what is no dict is as it was -/
theorem fzd_same (k : isDk u) {a : Addr} {o : HO} (ho : ¬ isDk o) (h : F a = some o) : fzd d od u F a = some o := by
  by_cases e : F d = some u
  · rw [fzd_ne fun c => by
      rw [c, e] at h
      cases h
      exact ho k]
    exact h
  · rw [fzd_off e]; exact h
theorem fzd_same' {a : Addr} {o : HO} (ho : ∀ od u, o ≠ .frz od u ∨ ¬ isDk u) (k : isDk u) (h : fzd d od u F a = some o) : F a = some o := by
  by_cases e : F d = some u
  · by_cases c : a = d
    · rw [c, fzd_at e] at h
      cases h
      rcases ho od u with q | q
      · exact absurd rfl q
      · exact absurd k q
    · rwa [fzd_ne c] at h
  · rwa [fzd_off e] at h
theorem notDk_tup (xs : List V) : ¬ isDk (.tup xs) := by rintro (⟨_, h⟩ | ⟨_, h⟩) <;> cases h
theorem notDk_lst (xs : List V) : ¬ isDk (.lst xs) := by rintro (⟨_, h⟩ | ⟨_, h⟩) <;> cases h
theorem notDk_frz (o : Obj) (w : HO) : ¬ isDk (.frz o w) := by rintro (⟨_, h⟩ | ⟨_, h⟩) <;> cases h
theorem fzd_le (k : isDk u) : Le F (fzd d od u F) := ⟨fun a xs h => fzd_same k (notDk_tup xs) h, fun a o xs h => fzd_same k (notDk_frz _ _) h, fun a o xs h => fzd_same k (notDk_frz _ _) h⟩
theorem frz_tup (o : Obj) (xs : List V) (k : isDk u) : ∀ od' u', HO.frz o (.tup xs) ≠ .frz od' u' ∨ ¬ isDk u' := fun od' u' => by
  by_cases q : HO.frz o (.tup xs) = .frz od' u'
  · cases q; exact .inr (notDk_tup xs)
  · exact .inl q
theorem frz_lst (o : Obj) (xs : List V) (k : isDk u) : ∀ od' u', HO.frz o (.lst xs) ≠ .frz od' u' ∨ ¬ isDk u' := fun od' u' => by
  by_cases q : HO.frz o (.lst xs) = .frz od' u'
  · cases q; exact .inr (notDk_lst xs)
  · exact .inl q
theorem fzd_le' (k : isDk u) : Le (fzd d od u F) F :=
  ⟨fun a xs h => fzd_same' (fun _ _ => .inl fun q => by cases q) k h, fun a o xs h => fzd_same' (frz_tup o xs k) k h, fun a o xs h => fzd_same' (frz_lst o xs k) k h⟩
theorem fzd_rd {a : Addr} {w : HO} (k : isDk u) (kw : isDk w) (h : Rd F a w) : Rd (fzd d od u F) a w := by
  by_cases e : F d = some u
  · by_cases c : a = d
    · subst c
      rcases h with h | ⟨o, h⟩
      · rw [e] at h; cases h
        exact .inr ⟨od, fzd_at e⟩
      · rw [e] at h; cases h
        exact absurd k (notDk_frz _ _)
    · rcases h with h | ⟨o, h⟩
      · exact .inl (by rw [fzd_ne c]; exact h)
      · exact .inr ⟨o, by rw [fzd_ne c]; exact h⟩
  · rw [fzd_off e]; exact h
theorem fzd_rd' {a : Addr} {w : HO} (kw : isDk w) (h : Rd (fzd d od u F) a w) : Rd F a w := by
  by_cases e : F d = some u
  · by_cases c : a = d
    · subst c
      rcases h with h | ⟨o, h⟩
      · rw [fzd_at e] at h; cases h
        exact absurd kw (notDk_frz _ _)
      · rw [fzd_at e] at h; cases h
        exact .inl e
    · rcases h with h | ⟨o, h⟩
      · exact .inl (by rw [fzd_ne c] at h; exact h)
      · exact .inr ⟨o, by rw [fzd_ne c] at h; exact h⟩
  · rw [fzd_off e] at h; exact h
end
theorem Bor.via {K : PySem.W.Frag} {F F' : Hp} (le : Le F F') (ls : ∀ a xs, F a = some (.lst xs) → F' a = some (.lst xs)) (rd : ∀ a w, isDk w → Rd F a w → Rd F' a w) {v : V} {x : Val} (h : Bor K F v x) : Bor K F' v x := by
  induction h with
  | im h => exact .im (h.mono le)
  | il h g => exact .il (ls _ _ h) (g.mono le)
  | dk h g => exact .dk (rd _ _ (.inl ⟨_, rfl⟩) h) (g.mono le)
  | dt h g => exact .dt (rd _ _ (.inr ⟨_, rfl⟩) h) (g.mono le)
  | tup h hl g ih => exact .tup (le.sqt h) hl ih
  | lst h hl g ih => exact .lst (ls _ _ h) hl ih
section
variable {K : PySem.W.Frag} {st : Option Addr} {d : Addr} {od : Obj} {u : HO}
theorem Bor.fzd {F : Hp} (k : isDk u) {v : V} {x : Val} (h : Bor K F v x) : Bor K (MM.fzd d od u F) v x := h.via (fzd_le k) (fun a xs e => fzd_same k (notDk_lst xs) e) fun a w kw r => fzd_rd k kw r
theorem Bor.unfzd {F : Hp} (k : isDk u) {v : V} {x : Val} (h : Bor K (MM.fzd d od u F) v x) : Bor K F v x := h.via (fzd_le' k) (fun a xs e => fzd_same' (fun _ _ => .inl fun q => by cases q) k e) fun a w kw r => fzd_rd' kw r
theorem hid_fzd {F : Hp} (n : st ≠ some d) : hid st (fzd d od u F) = fzd d od u (hid st F) := by
  have e : hid st F d = F d := by unfold hid; rw [if_neg n]
  funext a
  by_cases c : st = some a
  · have h1 : hid st (MM.fzd d od u F) a = none := by unfold hid; rw [if_pos c]
    have h2 : hid st F a = none := by unfold hid; rw [if_pos c]
    rw [h1, fzd_none h2]
  · have h1 : hid st (MM.fzd d od u F) a = MM.fzd d od u F a := by unfold hid; rw [if_neg c]
    have h2 : hid st F a = F a := by unfold hid; rw [if_neg c]
    rw [h1]
    unfold MM.fzd
    rw [e, h2]
theorem SlS.via {B B' H H' : Hp} {Ls : List (Option (V × Val))} {σ : L2.St} {S : List Sv} {Gs : List Addr} (hb : ∀ v x, Bor K B v x → Bor K B' v x) (le : Le H H') (h : SlS K st B H Ls σ S Gs) (k : ∀ a ∈ Gs, ∀ o, H a = some o → H' a = some o) : SlS K st B' H' Ls σ S Gs := by
  induction h with
  | nil => exact .nil
  | un h ih => exact .un (ih k)
  | b h g ih => exact .b (hb _ _ h) (ih k)
  | o h g ih => exact .o (h.mono le fun a ha => k a (List.mem_append_left _ ha)) (ih fun a ha => k a (List.mem_append_right _ ha))
  | s h g ih => exact .s h (ih k)
  | lk g ih => exact .lk (ih k)
variable {H0 B H : Hp} {Ls : List (Option (V × Val))} {G : List Addr} {S : List Sv} {z : Zs} {σ : L2.St}
theorem Stt.st_ne (h : Stt K st H0 B Ls G S z σ H) (k : isDk u) (hd : H d = some u) : st ≠ some d := fun c => by
  obtain ⟨l, q, _⟩ := h.zr d c
  rw [hd] at q; cases q
  exact notDk_lst _ k
theorem Stt.frz (h : Stt K st H0 B Ls G S z σ H) (k : isDk u) (hd : H d = some u) (hb : H0 d = some u ∨ B d = some u) : Stt K st (fzd d od u H0) (fzd d od u B) Ls G S z σ (upd H d (.frz od u)) := by
  have nd := h.st_ne k hd
  have h0 : ∀ o, H0 d = some o → o = u := fun o e => by have := h.fr.k d o nd e; rw [hd] at this; cases this; rfl
  have hB : ∀ o, B d = some o → o = u := fun o e => by have := h.ble d o e; rw [hd] at this; cases this; rfl
  obtain ⟨Gs, hs, ndp, fr⟩ := h.ex
  have ow : ∀ a ∈ G ++ Gs, a ≠ d := fun a ha c => by
    subst c
    obtain ⟨q1, q2⟩ := fr a ha
    rcases hb with q | q
    · rw [q1] at q; cases q
    · rw [q2] at q; cases q
  have st_ne : ∀ {a}, st = some a → a ≠ d := fun {a} e c => nd (by rw [e, c])
  have zrf : ∀ {z : Zs} {F : Hp}, Zr K st z F → Zr K st z (fzd d od u F) := fun {z F} hz a e => by
    obtain ⟨l, q1, q2, q3, q4⟩ := hz a e
    exact ⟨l, fzd_same k (notDk_lst _) q1, q2, fzd_same k (notDk_lst _) q3, q4⟩
  refine ⟨⟨fun a o n e => ?_, fun a x r e ha => ?_⟩, fun a e => ?_, fun a o e => ?_, ?_, fun a e => fzd_none (h.bst a e), fun a ha => ?_, fun j v x e => (h.lks j v x e).fzd k, Gs, ?_, ndp, fun a ha => ⟨fzd_none (fr a ha).1, fzd_none (fr a ha).2⟩⟩
  · by_cases c : a = d
    · subst c
      cases q : H0 a with
      | none => rw [fzd_none q] at e; cases e
      | some o' =>
        have := h0 o' q
        subst this
        rw [fzd_at q] at e
        rw [upd_same]; exact e
    · rw [fzd_ne c] at e
      rw [upd_ne c]; exact h.fr.k a o n e
  · rw [fzd_ne (st_ne e)] at ha
    rw [upd_ne (st_ne e)]
    exact h.fr.l a x r e ha
  · obtain ⟨l, q1, q2, q3, q4⟩ := h.zr a e
    have nl : l ≠ d := fun c => by
      rw [c, hd] at q3; cases q3
      exact notDk_lst _ k
    exact ⟨l, by rw [upd_ne (st_ne e)]; exact q1, q2, by rw [upd_ne nl]; exact q3, q4⟩
  · by_cases c : a = d
    · subst c
      cases q : B a with
      | none => rw [fzd_none q] at e; cases e
      | some o' =>
        have := hB o' q
        subst this
        rw [fzd_at q] at e
        rw [upd_same]; exact e
    · rw [fzd_ne c] at e
      rw [upd_ne c]; exact h.ble a o e
  · obtain ⟨z0, hz0⟩ := h.z0
    exact ⟨z0, zrf hz0⟩
  · obtain ⟨o, e, m⟩ := h.gt a ha
    exact ⟨o, by rw [upd_ne (ow a (List.mem_append_left _ ha))]; exact e, m⟩
  · rw [hid_fzd nd]
    refine hs.via (fun v x b => b.fzd k) (Le.upd hd (fun xs c => ?_) (fun ob xs c => ?_) fun ob xs c => ?_) fun a ha o e => ?_
    · subst c; exact notDk_tup _ k
    · subst c; exact notDk_frz _ _ k
    · subst c; exact notDk_frz _ _ k
    · rw [upd_ne (ow a (List.mem_append_right _ ha))]; exact e
/-- what was told of the base before -/
structure FzB (K : PySem.W.Frag) (st : Option Addr) (H0 B : Hp) (d : Addr) (u : HO) : Prop where
  k : isDk u
  nd : st ≠ some d
  b : H0 d = some u ∨ B d = some u
  h0 : ∀ o, H0 d = some o → o = u
  hB : ∀ o, B d = some o → o = u
theorem Stt.fzb (h : Stt K st H0 B Ls G S z σ H) (k : isDk u) (hd : H d = some u) (hb : H0 d = some u ∨ B d = some u) : FzB K st H0 B d u :=
  ⟨k, h.st_ne k hd, hb, fun o e => by have := h.fr.k d o (h.st_ne k hd) e; rw [hd] at this; cases this; rfl, fun o e => by have := h.ble d o e; rw [hd] at this; cases this; rfl⟩
theorem FzB.at_ (f : FzB K st H0 B d u) (h1 : SameX st (fzd d od u H0) H) (h2 : Same (fzd d od u B) H) : H d = some (.frz od u) := by
  rcases f.b with q | q
  · exact h1.k d _ f.nd (fzd_at q)
  · exact h2 d _ (fzd_at q)
theorem FzB.same (f : FzB K st H0 B d u) (h1 : SameX st (fzd d od u H0) H) : SameX st H0 (upd H d u) := by
  refine ⟨fun a o n e => ?_, fun a x r e ha => ?_⟩
  · by_cases c : a = d
    · subst c; rw [upd_same, f.h0 o e]
    · rw [upd_ne c]; exact h1.k a o n (by rw [fzd_ne c]; exact e)
  · have c : a ≠ d := fun c => f.nd (by rw [e, c])
    rw [upd_ne c]
    exact h1.l a x r e (by rw [fzd_ne c]; exact ha)
theorem FzB.sameB (f : FzB K st H0 B d u) (h2 : Same (fzd d od u B) H) : Same B (upd H d u) := fun a o e => by
  by_cases c : a = d
  · subst c; rw [upd_same, f.hB o e]
  · rw [upd_ne c]; exact h2 a o (by rw [fzd_ne c]; exact e)
theorem FzB.zr (f : FzB K st H0 B d u) (hd : H d = some (.frz od u)) (hz : Zr K st z H) : Zr K st z (upd H d u) := fun a e => by
  obtain ⟨l, q1, q2, q3, q4⟩ := hz a e
  have c : a ≠ d := fun c => f.nd (by rw [e, c])
  have nl : l ≠ d := fun c => by rw [c, hd] at q3; cases q3
  exact ⟨l, by rw [upd_ne c]; exact q1, q2, by rw [upd_ne nl]; exact q3, q4⟩
theorem FzB.le (f : FzB K st H0 B d u) (hd : H d = some (.frz od u)) : Le H (upd H d u) := by
  refine Le.upd hd (fun xs c => by cases c) (fun ob xs c => ?_) fun ob xs c => ?_
  · cases c; exact notDk_tup _ f.k
  · cases c; exact notDk_lst _ f.k
theorem Stt.unfrz (f : FzB K st H0 B d u) (h : Stt K st (fzd d od u H0) (fzd d od u B) Ls G S z σ H) : H d = some (.frz od u) ∧ Stt K st H0 B Ls G S z σ (upd H d u) := by
  have hd := f.at_ h.fr h.ble
  obtain ⟨Gs, hs, ndp, fr⟩ := h.ex
  have ow : ∀ a ∈ G ++ Gs, a ≠ d := fun a ha c => by
    subst c
    obtain ⟨q1, q2⟩ := fr a ha
    rcases f.b with q | q
    · rw [fzd_at q] at q1; cases q1
    · rw [fzd_at q] at q2; cases q2
  refine ⟨hd, f.same h.fr, f.zr hd h.zr, f.sameB h.ble, ?_, fun a e => fzd_none' (h.bst a e), fun a ha => ?_, fun j v x e => (h.lks j v x e).unfzd f.k, Gs, ?_, ndp, fun a ha => ⟨fzd_none' (fr a ha).1, fzd_none' (fr a ha).2⟩⟩
  · obtain ⟨z0, hz0⟩ := h.z0
    refine ⟨z0, fun a e => ?_⟩
    obtain ⟨l, q1, q2, q3, q4⟩ := hz0 a e
    exact ⟨l, fzd_same' (fun _ _ => .inl fun q => by cases q) f.k q1, q2, fzd_same' (fun _ _ => .inl fun q => by cases q) f.k q3, q4⟩
  · obtain ⟨o, e, m⟩ := h.gt a ha
    exact ⟨o, by rw [upd_ne (ow a (List.mem_append_left _ ha))]; exact e, m⟩
  · rw [hid_fzd f.nd] at hs
    exact hs.via (fun v x b => b.unfzd f.k) (f.le hd) fun a ha o e => by rw [upd_ne (ow a (List.mem_append_right _ ha))]; exact e
end
end MM
namespace MM
open PySem PySem.Spec PyProof.Rows L2
/-! ### what a dict walks over -/
def kyT : Key → T
  | .inl i => .int i
  | .inr s => .str s
def kOk : Key → Bool
  | .inl _ => true
  | .inr s => sOk s
theorem kyT_rep {K : PySem.W.Frag} {H : Hp} {k : Key} (h : kOk k = true) : RepT K H (kV k) (kyT k) := by
  cases k with
  | inl i => exact .int i
  | inr s => exact .str s h
/-- the things a dict walks over -/
@[simp] def keysV : Val → Option (List T)
  | .dk kvs => if (kvs.all fun kv => kOk kv.1) = true then some (kvs.map fun kv => kyT kv.1) else none
  | .dt kvs => if (kvs.all fun kv => kv.1.all kOk) = true then some (kvs.map fun kv => .tup (kv.1.map kyT)) else none
  | _ => none
/-- the dict u walks over ts -/
inductive DictAt (K : PySem.W.Frag) (H : Hp) : HO → Val → Prop
  | dk {xs : List (Key × V)} {kvs : List (Key × T)} : RepK K H xs kvs → DictAt K H (.dK xs) (.dk kvs)
  | dt {xs : List (List Key × V)} {kvs : List (List Key × T)} : RepK K H xs kvs → DictAt K H (.dT xs) (.dt kvs)
theorem DictAt.k {K : PySem.W.Frag} {H : Hp} {u : HO} {x : Val} (h : DictAt K H u x) : isDk u := by
  cases h
  · exact .inl ⟨_, rfl⟩
  · exact .inr ⟨_, rfl⟩
theorem DictAt.mut {K : PySem.W.Frag} {H : Hp} {u : HO} {x : Val} (h : DictAt K H u x) : Mut (some u) := by cases h <;> exact trivial
theorem fst_get {κ α β : Type} {xs : List (κ × α)} {ys : List (κ × β)} (h : xs.map (·.1) = ys.map (·.1)) {i : Nat} {k : κ} {a : α} (e : xs[i]? = some (k, a)) : ∃ b, ys[i]? = some (k, b) := by
  have h1 : (xs.map (·.1))[i]? = some k := by rw [List.getElem?_map, e]; rfl
  rw [h, List.getElem?_map] at h1
  cases q : ys[i]? with
  | none => rw [q] at h1; cases h1
  | some y => rw [q] at h1; obtain ⟨k', b⟩ := y; cases h1; exact ⟨b, rfl⟩
theorem kts_rep {K : PySem.W.Frag} {H : Hp} : ∀ {ks : List Key}, ks.all kOk = true → RepTs K H (ks.map kV) (ks.map kyT)
  | [], _ => .nil
  | k :: ks, h => by
    simp only [List.all_cons, Bool.and_eq_true] at h
    exact .cons (kyT_rep h.1) (kts_rep h.2)
/-- for over it, wherever it stands frozen -/
theorem keys_go {K : PySem.W.Frag} {H H1 : Hp} {u : HO} {x : Val} {ts : List T} (h : DictAt K H1 u x) (hk : keysV x = some ts) {d : Addr} {od : Obj} (hd : H d = some (.frz od u)) {σ : L2.St} {i : Nat} (e1 : σ[i]? = some (some (.ref d))) {R : It → Hp → Prop} (go : ∀ J, Walk J ts.length (fun H => H d = some (.frz od u)) (YT K ts) → R J H) :
    iKeys (tVar i) σ H R := by
  refine ⟨.ref d, e1, ?_⟩
  cases h with
  | @dk xs kvs r =>
    simp only [keysV] at hk
    split at hk
    · rename_i ok
      cases hk
      refine ⟨d, od, rfl, .inl ⟨xs, hd, go _ ?_⟩⟩
      have hl : (kvs.map fun kv => kyT kv.1).length = xs.length := by
        have := congrArg List.length r.1
        simpa using this.symm
      rw [hl]
      refine Walk.mono walk_keys (fun _ h => h) fun i H x H' hi _ ⟨e1, k, v, ek, ev⟩ => ?_
      obtain ⟨t, et⟩ := fst_get r.1 ek
      refine ⟨e1, kyT k, by rw [List.getElem?_map, et]; rfl, ?_⟩
      rw [ev]
      exact kyT_rep (List.all_eq_true.mp ok _ (List.mem_of_getElem? et))
    · cases hk
  | @dt xs kvs r =>
    simp only [keysV] at hk
    split at hk
    · rename_i ok
      cases hk
      refine ⟨d, od, rfl, .inr ⟨xs, hd, go _ ?_⟩⟩
      have hl : (kvs.map fun kv => T.tup (kv.1.map kyT)).length = xs.length := by
        have := congrArg List.length r.1
        simpa using this.symm
      rw [hl]
      refine Walk.mono walk_keysT (fun _ h => h) fun i H x H' hi _ ⟨e1, k, v, q, ek, ev, eq⟩ => ?_
      obtain ⟨t, et⟩ := fst_get r.1 ek
      refine ⟨e1, .tup (k.map kyT), by rw [List.getElem?_map, et]; rfl, ?_⟩
      subst e1
      rw [ev]
      exact .tup (.inl (.inl eq)) (kts_rep (List.all_eq_true.mp ok _ (List.mem_of_getElem? et)))
    · cases hk
section
variable {X : Cx} {W : WX} {st : Option Addr} {pos : Pos}
/-- an owned slot that holds a dict, locked and frozen -/
theorem Stt.lockD {K : PySem.W.Frag} {H0 B H : Hp} {Ls : List (Option (V × Val))} {S : List Sv} {z : Zs} {σ : L2.St} {i : Nat} {x : Val} {ts : List T} (h : Stt K st H0 B Ls [] S z σ H) (e : S[i]? = some (.o x)) (hk : keysV x = some ts) :
    ∃ d u, σ[i]? = some (some (.ref d)) ∧ DictAt K H u x ∧ H d = some u ∧ Own K (Bex B H [d]) (.ref d) x [d] ∧ (H0 d = none ∧ B d = none) ∧ Bex B H [d] d = some u ∧ Stt K st H0 (Bex B H [d]) (Ls.set i (some (.ref d, x))) [] (S.set i (.lk x)) z σ H := by
  obtain ⟨v, Gi, e1, od, nd, fr, h2⟩ := h.lock e
  cases od with
  | im _ => cases hk
  | il _ _ => cases hk
  | tnil _ => cases hk
  | tup _ _ _ _ => cases hk
  | lst _ _ _ _ => cases hk
  | @dk d xs kvs q r =>
    have hd := h2.ble _ _ q
    exact ⟨d, _, e1, .dk (r.mono (Le.of_same h2.ble)), hd, .dk q r, fr d (by simp), q, h2⟩
  | @dt d xs kvs q r =>
    have hd := h2.ble _ _ q
    exact ⟨d, _, e1, .dt (r.mono (Le.of_same h2.ble)), hd, .dt q r, fr d (by simp), q, h2⟩
/-- the outcomes of a body while the dict is frozen -/
def lockE (d : Addr) (od : Obj) (u : HO) (D : Ends) : Ends := ⟨fun σ' H' => H' d = some (.frz od u) ∧ D.nx σ' (upd H' d u), fun v H' => H' d = some (.frz od u) ∧ D.rt v (upd H' d u), fun σ' H' => H' d = some (.frz od u) ∧ D.bk σ' (upd H' d u), fun σ' H' => H' d = some (.frz od u) ∧ D.ct σ' (upd H' d u)⟩
theorem Cs.unfrz {H0 B : Hp} {Ls : List (Option (V × Val))} {D : Ends} {r : Ro} {d : Addr} {od : Obj} {u : HO} (f : FzB X.K st H0 B d u) (hq : Cs X W st H0 B Ls D (noX r)) : Cs X W st (fzd d od u H0) (fzd d od u B) Ls (lockE d od u D) r := by
  cases r with
  | nx S z => exact fun σ H h => ⟨(h.unfrz f).1, hq σ _ (h.unfrz f).2⟩
  | bk S z => exact fun σ H h => ⟨(h.unfrz f).1, hq σ _ (h.unfrz f).2⟩
  | ct S z => exact fun σ H h => ⟨(h.unfrz f).1, hq σ _ (h.unfrz f).2⟩
  | xc c S z => exact hq.elim
  | no => exact hq.elim
  | rt x z =>
    intro v H G sx sb hz ow nd fr
    have hd := f.at_ sx sb
    have le := f.le hd
    refine ⟨hd, hq v (upd H d u) G (f.same sx) (f.sameB sb) (f.zr hd hz) (ow.mono le fun a ha o e => ?_) nd fun a ha => fzd_none' (fr a ha)⟩
    obtain ⟨o', e', m⟩ := ow.there a ha
    have : a ≠ d := fun c => by
      subst c
      rw [hd] at e'; cases e'
      exact m
    rw [upd_ne this]; exact e
@[simp] def sForD (i : Nat) (g : MGt) (body : MS) : MS := fun S z => match S[i]? with
  | some (.o x) => match keysV x with
    | some ts => (noX (sTurns g body ts (S.set i (.lk x)) z)).map (unlk i)
    | none => .no
  | some (.b x) => match keysV x with
    | some ts => noX (sTurns g body ts S z)
    | none => .no
  | _ => .no
theorem bor_dict {K : PySem.W.Frag} {H : Hp} {v : V} {x : Val} {ts : List T} (h : Bor K H v x) (hk : keysV x = some ts) : ∃ d u, v = .ref d ∧ Rd H d u ∧ DictAt K H u x := by
  cases h with
  | im _ => cases hk
  | il _ _ => cases hk
  | tup _ _ _ => cases hk
  | lst _ _ _ => cases hk
  | dk q r => exact ⟨_, _, rfl, q, .dk r⟩
  | dt q r => exact ⟨_, _, rfl, q, .dt r⟩
theorem se_forD (i : Nat) {x : Str} {xp : Pos} {tg : Expr} {body : List Stmt} {g : MGt} {mb : MS} (hp : PassesOwn (model X.prog X.w) X.A X.env X.xe) (hc : X.calm = true) (hg : GE X st tg g) (hb : SEs X W st body mb)
    (hN : X.N[i]? = some x := by rfl) (hv : Vis X.env.scope x := by first | exact Or.inl rfl | exact Or.inr (Or.inl rfl) | exact Or.inr (Or.inr rfl)) (hd : (x == ("__debug__" : Str)) = false := by decide) (hcd : (x == ("__classdict__" : Str)) = false := by decide)
    (hs : ∀ y, foldedSetIterable (.Name x xp) X.env y = pure y := by intro _; rfl) : SE X W st (.For tg (.Name x xp) body [] pos) (sForD i g mb) := by
  obtain ⟨tG, pG, fg⟩ := hg
  obtain ⟨tb, pb, fb⟩ := hb
  have p0 := ps_for hp hc (pi_keys (tg := tg) (pe_var (X := X) (pos := xp) hN hv hd hcd)) pG pb hs (pos := pos)
  refine ⟨fun D σ H => tLock (tFor (iKeys (tVar i)) tG tb) D σ H ∨ tFor (iKeys (tVar i)) tG tb D σ H, ⟨fun pins s σ H D I hw => hw.elim (fun q => (ps_lock p0).run pins s σ H D I q) fun q => p0.run pins s σ H D I q⟩, fun H0 B Ls S z σ H D h hq => ?_⟩
  obtain ⟨Gs, hsl, nd, fr⟩ := h.ex
  unfold sForD at hq
  split at hq
  · rename_i y e
    split at hq
    · rename_i ts ek
      obtain ⟨d, u, e1, da, hdu, ow, ⟨f0, f1⟩, hB, h2⟩ := h.lockD e ek
      have hl : i < Ls.length := by rw [hsl.lengthL]; exact (List.getElem?_eq_some_iff.mp e).1
      have hq2 := Cs.unlock (Bex.up h.ble) h.lks hl ow (by simp) (fun a ha => by simp at ha; subst ha; exact ⟨f0, f1⟩) hq
      left
      refine ⟨d, u, hdu, da.mut, fun od => ?_⟩
      have hL := h2.frz (od := od) da.k hdu (.inr hB)
      have f := h2.fzb da.k hdu (.inr hB)
      show iKeys (tVar i) σ _ _
      exact keys_go da ek upd_same e1 fun J w => it_core fg fb w hL (fun S z σ H h => f.at_ h.fr h.ble) (Cs.unfrz f hq2)
    · exact hq.elim
  · rename_i y e
    split at hq
    · rename_i ts ek
      obtain ⟨v, e1, bw⟩ := hsl.get_b e
      obtain ⟨d, u, rfl, rd, da⟩ := bor_dict bw ek
      rcases rd with q | ⟨o, q⟩
      · left
        have q0 := not_hid q
        have nst : st ≠ some d := fun c => by
          unfold hid at q
          rw [if_pos c] at q; cases q
        have hdu := h.fr.k d _ nst q0
        have f := h.fzb da.k hdu (.inl q0)
        refine ⟨d, u, hdu, da.mut, fun od => ?_⟩
        have hL := h.frz (od := od) da.k hdu (.inl q0)
        show iKeys (tVar i) σ _ _
        exact keys_go da ek upd_same e1 fun J w => it_core fg fb w hL (fun S z σ H h => f.at_ h.fr h.ble) (Cs.unfrz f hq)
      · right
        have q0 := not_hid q
        have nst : st ≠ some d := fun c => by
          unfold hid at q
          rw [if_pos c] at q; cases q
        have at_ : ∀ S z σ H, Stt X.K st H0 B Ls [] S z σ H → H d = some (.frz o u) := fun S z σ H h => h.fr.k d _ nst q0
        show iKeys (tVar i) σ H _
        refine keys_go da ek (at_ _ _ _ _ h) e1 fun J w => it_core fg fb w h at_ ?_
        cases er : sTurns g mb ts S z <;> rw [er] at hq <;> first | exact hq | exact hq.elim
    · exact hq.elim
  · exact hq.elim
end
end MM
namespace MM
open PySem PySem.Spec PyProof.Rows L2
section
variable {K : PySem.W.Frag} {st : Option Addr} {H0 B B' H : Hp} {Ls : List (Option (V × Val))} {G : List Addr} {S : List Sv} {z : Zs} {σ : L2.St} {i : Nat} {x y : Val} {v : V} {Gi : List Addr}
theorem Stt.lockG (h : Stt K st H0 B Ls G S z σ H) (e : S[i]? = some (.o x)) :
    ∃ v Gi, σ[i]? = some (some v) ∧ Own K (Bex B H Gi) v x Gi ∧ Gi.Nodup ∧ (∀ a ∈ Gi, H0 a = none ∧ B a = none) ∧ Stt K st H0 (Bex B H Gi) (Ls.set i (some (v, x))) G (S.set i (.lk x)) z σ H := by
  obtain ⟨Gs, hs, nd, fr⟩ := h.ex
  obtain ⟨v, Gi, Ga, Gb, e1, o1, eg, put⟩ := hs.get_o e
  subst eg
  have od : Own K (Bex B H Gi) v x Gi := o1.mono (Bex.le h.ble) fun a ha o e => by rw [Bex.in_ ha]; exact e
  have put' := put (hid st H0) H (some (v, x)) (.lk x) (some v) [] (fun _ _ q => q) (Le.refl H) (fun _ _ _ q => q) (.lk .nil)
  rw [set_same e1] at put'
  have nd0 := List.nodup_append.mp nd
  have nd1 := List.nodup_append.mp nd0.2.1
  have nd2 := List.nodup_append.mp nd1.1
  have nin : ∀ a ∈ G ++ (Ga ++ [] ++ Gb), a ∉ Gi := fun a ha hi => by
    simp only [List.append_nil, List.mem_append] at ha
    rcases ha with q | q | q
    · exact nd0.2.2 a q a (by simp [hi]) rfl
    · exact nd2.2.2 a q a hi rfl
    · exact nd1.2.2 a (List.mem_append_right _ hi) a q rfl
  refine ⟨v, Gi, e1, od, nd2.2.1, fun a ha => fr a (by simp [ha]), h.fr, h.zr, Bex.sub h.ble, h.z0, fun a c => ?_, h.gt, fun j w y ej => ?_, _, put', ?_, fun a ha => ?_⟩
  · obtain ⟨l, q, _⟩ := h.zr a c
    exact Bex.none (fun hx => h.nst (fr a (by simp [hx])).1 c) (h.bst a c) q True.intro
  · rw [List.getElem?_set] at ej
    split at ej
    · split at ej
      · injection ej with ej
        injection ej with ej
        injection ej with e1 e2
        subst e1 e2
        exact od.bor
      · cases ej
    · exact (h.lks j w y ej).mono (Bex.up h.ble)
  · exact nd.sublist (List.Sublist.append_left (by simpa using List.Sublist.append_right (List.sublist_append_left Ga Gi) Gb) G)
  · have ha' : a ∈ G ++ (Ga ++ Gi ++ Gb) := by
      simp only [List.append_nil, List.mem_append] at ha ⊢
      rcases ha with q | q | q
      · exact .inl q
      · exact .inr (.inl (.inl q))
      · exact .inr (.inr q)
    refine ⟨(fr a ha').1, ?_⟩
    rcases List.mem_append.mp ha' with q | q
    · obtain ⟨o, q, m⟩ := h.gt a q
      exact Bex.none (nin a ha) (fr a ha').2 q m
    · obtain ⟨o, q, m⟩ := hs.there a q
      exact Bex.none (nin a ha) (fr a ha').2 q m
theorem Stt.unlockG (h : Stt K st H0 B' (Ls.set i (some (v, x))) G S z σ H) (e : S[i]? = some (.lk y)) (hb : Same B B')
    (lk : ∀ (j : Nat) v x, Ls[j]? = some (some (v, x)) → Bor K B v x) (hl : i < Ls.length) (od : Own K B' v x Gi) (nd : Gi.Nodup) (fr : ∀ a ∈ Gi, H0 a = none ∧ B a = none) : y = x ∧ Stt K st H0 B Ls G (S.set i (.o x)) z σ H := by
  obtain ⟨Gs, hs, nds, frs⟩ := h.ex
  obtain ⟨w, e1, e2⟩ := hs.get_lk e
  rw [List.getElem?_set_self hl] at e2
  injection e2 with e2
  injection e2 with e2
  injection e2 with e2 e3
  subst e2 e3
  refine ⟨rfl, ?_⟩
  have ow : Own K H v x Gi := od.mono (Le.of_same h.ble) fun a _ o q => h.ble a o q
  obtain ⟨Ga, Gm, Gb, eg, q⟩ := hs.setL (i := i) (List.getElem?_eq_some_iff.mp e).1 (l := Ls[i]) (y := .o x) (w := some v) (G2 := Gi ++ []) (.o ow .nil)
  rw [set_same e1, List.set_set, List.append_nil] at q
  have el : Ls.set i Ls[i] = Ls := by simp
  rw [el] at q
  subst eg
  have dj : ∀ a ∈ G ++ (Ga ++ Gm ++ Gb), a ∉ Gi := fun a ha hi => by
    obtain ⟨o, c, _⟩ := od.there a hi
    rw [(frs a ha).2] at c; cases c
  have nb : ∀ a, B' a = none → B a = none := fun a e => by
    cases q : B a with
    | none => rfl
    | some o => rw [hb a o q] at e; cases e
  have nds1 := List.nodup_append.mp nds
  refine ⟨h.fr, h.zr, fun a o e => h.ble a o (hb a o e), h.z0, fun a e => nb a (h.bst a e), h.gt, lk, _, q, ?_, fun a ha => ?_⟩
  · refine List.nodup_append.mpr ⟨nds1.1, nodup_mid (Gm := Gm) ?_, fun a ha b hb2 c => ?_⟩
    · refine List.nodup_append.mpr ⟨nd, nds1.2.1, fun a ha b hb e => ?_⟩
      subst e
      exact dj a (List.mem_append_right _ hb) ha
    · subst c
      simp only [List.mem_append] at hb2
      rcases hb2 with (q | q) | q
      · exact nds1.2.2 a ha a (by simp [q]) rfl
      · exact dj a (List.mem_append_left _ ha) q
      · exact nds1.2.2 a ha a (by simp [q]) rfl
  · simp only [List.mem_append] at ha
    rcases ha with q | (q | q) | q
    · have := frs a (by simp [q]); exact ⟨this.1, nb a this.2⟩
    · have := frs a (by simp [q]); exact ⟨this.1, nb a this.2⟩
    · exact fr a q
    · have := frs a (by simp [q]); exact ⟨this.1, nb a this.2⟩
/-- back from the frozen dict, whatever came to the owned part -/
def BackD (K : PySem.W.Frag) (st : Option Addr) (H0 B H0' B' : Hp) (Ls Ls' : List (Option (V × Val))) (S S' : List Sv) (d : Addr) (od : Obj) (u : HO) : Prop := ∀ G z σ H, Stt K st H0' B' Ls' G S' z σ H → H d = some (.frz od u) ∧ Stt K st H0 B Ls G S z σ (upd H d u)
/-- the dict of slot i is frozen: what the slots then are, and the way back -/
theorem Stt.openD {ts : List T} (h : Stt K st H0 B Ls G S z σ H) {S' : List Sv} (e : (S[i]? = some (.o x) ∧ S' = S.set i (.lk x)) ∨ (S[i]? = some (.b x) ∧ S' = S)) (hk : keysV x = some ts) : ∃ d u, σ[i]? = some (some (.ref d)) ∧ DictAt K H u x ∧
    ((H d = some u ∧ ∀ od, ∃ H0' B' Ls', Stt K st H0' B' Ls' G S' z σ (upd H d (.frz od u)) ∧ BackD K st H0 B H0' B' Ls Ls' S S' d od u ∧ ∀ G S z σ H, Stt K st H0' B' Ls' G S z σ H → H d = some (.frz od u)) ∨
      ∃ od, S' = S ∧ ∀ G S z σ H, Stt K st H0 B Ls G S z σ H → H d = some (.frz od u)) := by
  rcases e with ⟨e, rfl⟩ | ⟨e, rfl⟩
  · obtain ⟨v, Gi, e1, od, ndi, fri, h2⟩ := h.lockG e
    obtain ⟨Gs, hsl, _, _⟩ := h.ex
    have hl : i < Ls.length := by rw [hsl.lengthL]; exact (List.getElem?_eq_some_iff.mp e).1
    have hlS : i < S.length := (List.getElem?_eq_some_iff.mp e).1
    have back : ∀ {d : Addr} {od' : Obj} {u : HO}, isDk u → H d = some u → Bex B H Gi d = some u → ∀ G z σ H', Stt K st (fzd d od' u H0) (fzd d od' u (Bex B H Gi)) (Ls.set i (some (v, x))) G (S.set i (.lk x)) z σ H' → H' d = some (.frz od' u) ∧ Stt K st H0 B Ls G S z σ (upd H' d u) := fun {d od' u} k hd hB G z σ H' h' => by
      have f := h2.fzb k hd (.inr hB)
      obtain ⟨q1, q2⟩ := h'.unfrz f
      obtain ⟨_, q3⟩ := q2.unlockG (y := x) (List.getElem?_set_self hlS) (Bex.up h.ble) h.lks hl od ndi fri
      rw [List.set_set, set_same e] at q3
      exact ⟨q1, q3⟩
    have at_ : ∀ {d : Addr} {od' : Obj} {u : HO}, isDk u → H d = some u → Bex B H Gi d = some u → ∀ G S z σ H', Stt K st (fzd d od' u H0) (fzd d od' u (Bex B H Gi)) (Ls.set i (some (v, x))) G S z σ H' → H' d = some (.frz od' u) := fun k hd hB G S z σ H' h' => (h2.fzb k hd (.inr hB)).at_ h'.fr h'.ble
    cases od with
    | im _ => cases hk
    | il _ _ => cases hk
    | tnil _ => cases hk
    | tup _ _ _ _ => cases hk
    | lst _ _ _ _ => cases hk
    | @dk d xs kvs q r =>
      have hd := h2.ble _ _ q
      have k : isDk (.dK xs) := .inl ⟨_, rfl⟩
      exact ⟨d, _, e1, .dk (r.mono (Le.of_same h2.ble)), .inl ⟨hd, fun od' => ⟨_, _, _, h2.frz k hd (.inr q), back k hd q, at_ k hd q⟩⟩⟩
    | @dt d xs kvs q r =>
      have hd := h2.ble _ _ q
      have k : isDk (.dT xs) := .inr ⟨_, rfl⟩
      exact ⟨d, _, e1, .dt (r.mono (Le.of_same h2.ble)), .inl ⟨hd, fun od' => ⟨_, _, _, h2.frz k hd (.inr q), back k hd q, at_ k hd q⟩⟩⟩
  · obtain ⟨Gs, hsl, _, _⟩ := h.ex
    obtain ⟨v, e1, bw⟩ := hsl.get_b e
    obtain ⟨d, u, rfl, rd, da⟩ := bor_dict bw hk
    have da' : DictAt K H u x := by
      have le : Le (hid st H0) H := Le.of_same fun a o q => hid_same st H a o (h.fr.hid a o q)
      cases da with
      | dk r => exact .dk (r.mono le)
      | dt r => exact .dt (r.mono le)
    have nst : ∀ {w : HO}, hid st H0 d = some w → st ≠ some d := fun {w} q c => by
      unfold hid at q
      rw [if_pos c] at q; cases q
    refine ⟨d, u, e1, da', ?_⟩
    rcases rd with q | ⟨o, q⟩
    · have q0 := not_hid q
      have hdu := h.fr.k d _ (nst q) q0
      exact .inl ⟨hdu, fun od => ⟨_, _, _, h.frz da.k hdu (.inl q0), fun G z σ H' h' => h'.unfrz (h.fzb da.k hdu (.inl q0)), fun G S z σ H' h' => (h.fzb da.k hdu (.inl q0)).at_ h'.fr h'.ble⟩⟩
    · exact .inr ⟨o, rfl, fun G S z σ H h => h.fr.k d _ (nst q) (not_hid q)⟩
end
section
variable {X : Cx} {W : WX} {st : Option Addr} {pos : Pos}
/-- a comprehension over a walk, the wish told -/
theorem lcG_rd {J : It} {ts : List T} {GH : Hp → Prop} {c : MT} {m : ME} {tt : TT} {te : TE} (j : Nat) (w : Walk J ts.length GH (YT X.K ts))
    (ft : ∀ H0 B Ls G S z σ H Q, Stt X.K st H0 B Ls G S z σ H → Ct X W0 st σ H (c S z) (fun x z' H' => Q x H') → tt σ H Q)
    (fe : ∀ H0 B Ls G S z σ H Q, Stt X.K st H0 B Ls G S z σ H → Ct X W0 st σ H (m S z) (fun x z' H' => ∀ v, Bor X.K (hid st H') v x → Q v H') → te σ H Q)
    {H0 B H1 : Hp} {Ls : List (Option (V × Val))} {G : List Addr} {S : List Sv} {σ : L2.St} {Q : VK} {z1 : Zs} (h1 : Stt X.K st H0 B Ls G S z1 σ H1) (hG : ∀ G S z σ H, Stt X.K st H0 B Ls G S z σ H → GH H) {D : Addr} (nD : H1 D = none)
    (hq1 : LcK X.K st H0 B Ls G S σ D (fun v H' => (∀ a o, st ≠ some a → a ≠ D → H1 a = some o → H' a = some o) → Q v H') (lcT j c m (wipS j S) ts [] z1)) :
    ∃ W : Nat → Nat → Hp → Prop, (∃ m, W 0 m (L2.upd H1 D (.lst []))) ∧ ∀ i m H, W i m H →
      (J.stop i H ∧ Q (.ref D) H) ∨ (J.go i H ∧ ∃ Nx : Hp → Prop, (∀ H', Nx H' → ∃ m', m' < m ∧ W (i + 1) m' H') ∧ ∀ x H', J.yld i H x H' → gName j x (wipe σ [j]) H' fun σ2 H2 => wipe σ2 [j] = wipe σ [j] ∧ tt σ2 H2 fun b H3 =>
        if b = true then te σ2 H3 fun y H4 => ∃ acc, H4 D = some (.lst acc) ∧ acc.length < sizeLine ∧ Nx (L2.upd H4 D (.lst (acc ++ [y]))) else Nx H3) := by
  have hz1 := h1.zr
  have sn : Same H1 (L2.upd H1 D (.lst [])) := Same.upd_new nD
  refine lc_it w (fun i H => ∃ z acc av, LcP X st H0 B Ls G S σ D (fun v H' => (∀ a o, st ≠ some a → a ≠ D → H1 a = some o → H' a = some o) → Q v H') j c m H1 (ts.drop i) H z acc av)
    ⟨z1, [], [], h1.add (G' := [D]) (.of_same sn) (hz1.new sn) (by simp) (fun a ha => by simp at ha; subst ha; exact nD) (fun a ha => by simp at ha; subst ha; exact ⟨_, upd_same, True.intro⟩), upd_same, .nil, fun a o _ _ e => sn a o e, hq1⟩
    (fun i H _ ⟨_, _, _, P⟩ => hG _ _ _ _ _ P.s) (fun i x H H' hi ⟨z2, acc, av, P⟩ ⟨e, t, et, rt⟩ => ?_) (fun H ⟨z2, acc, av, P⟩ => ?_)
  · subst e
    obtain ⟨hl, e2⟩ := List.getElem?_eq_some_iff.mp et
    rw [List.drop_eq_getElem_cons hl, e2] at P
    exact lc_turn ft fe P rt
  · rw [List.drop_length] at P
    have hq := P.q
    exact hq H av P.s P.d P.r P.k
@[simp] def eLcD (i j : Nat) (c : MT) (m : ME) : ME := fun S z => match S[i]? with
  | some (.o x) => match keysV x with
    | some ts => lcT j c m (wipS j (S.set i (.lk x))) ts [] z
    | none => .no
  | some (.b x) => match keysV x with
    | some ts => lcT j c m (wipS j S) ts [] z
    | none => .no
  | _ => .no
theorem eLcD_cases {i j : Nat} {c : MT} {m : ME} {S : List Sv} {z : Zs} (P : Rs Val → Prop) (h : P (eLcD i j c m S z)) (no : ¬ P .no) : ∃ x ts S', keysV x = some ts ∧ ((S[i]? = some (.o x) ∧ S' = S.set i (.lk x)) ∨ (S[i]? = some (.b x) ∧ S' = S)) ∧ P (lcT j c m (wipS j S') ts [] z) := by
  unfold eLcD at h
  split at h
  · rename_i x e
    split at h
    · rename_i ts ek; exact ⟨x, ts, _, ek, .inl ⟨e, rfl⟩, h⟩
    · exact absurd h no
  · rename_i x e
    split at h
    · rename_i ts ek; exact ⟨x, ts, _, ek, .inr ⟨e, rfl⟩, h⟩
    · exact absurd h no
  · exact absurd h no
theorem lcD_rd {c : MT} {m : ME} {tt : TT} {te : TE} (i j : Nat)
    (ft : ∀ H0 B Ls G S z σ H Q, Stt X.K st H0 B Ls G S z σ H → Ct X W0 st σ H (c S z) (fun x z' H' => Q x H') → tt σ H Q)
    (fe : ∀ H0 B Ls G S z σ H Q, Stt X.K st H0 B Ls G S z σ H → Ct X W0 st σ H (m S z) (fun x z' H' => ∀ v, Bor X.K (hid st H') v x → Q v H') → te σ H Q) :
    ∀ H0 B Ls G S z σ H Q, Stt X.K st H0 B Ls G S z σ H → Ct X W st σ H (eLcD i j c m S z) (fun x z' H' => ∀ v G', Own X.K H' v x G' → Stt X.K st H0 B Ls (G' ++ G) S z' σ H' → Q v H') → tLockE (tLc (iKeys (tVar i)) (gName j) tt te [j]) σ H Q ∨ tLc (iKeys (tVar i)) (gName j) tt te [j] σ H Q := by
  intro H0 B Ls G S z σ H Q h hq
  obtain ⟨x, ts, S', ek, eS, hq⟩ := eLcD_cases (fun r => Ct X W st σ H r (fun x z' H' => ∀ v G', Own X.K H' v x G' → Stt X.K st H0 B Ls (G' ++ G) S z' σ H' → Q v H')) hq id
  obtain ⟨d, u, e1, da, hh⟩ := h.openD eS ek
  rcases hh with ⟨hd, hh⟩ | ⟨od, rfl, hG⟩
  · left
    refine ⟨d, u, hd, da.mut, fun od => ?_⟩
    obtain ⟨H0', B', Ls', hL, back, at_⟩ := hh od
    show iKeys (tVar i) σ _ _
    refine keys_go da ek upd_same e1 fun J w => fun D nD => ?_
    have nD0 : H D = none := by
      by_cases c : D = d
      · rw [c, upd_same] at nD; cases nD
      · rwa [upd_ne c] at nD
    refine lcG_rd (Q := fun v H' => H' d = some (.frz od u) ∧ Q v (upd H' d u)) j w ft fe hL at_ nD ?_
    cases er : lcT j c m (wipS j S') ts [] z with
    | ok x z' =>
      obtain ⟨us, rfl⟩ := lcT_il er
      rw [er] at hq
      intro H' av hs hD r k
      obtain ⟨hd', hs'⟩ := back _ _ _ _ hs
      have nDd : D ≠ d := fun c => by rw [c, upd_same] at nD; cases nD
      have hD' : upd H' d u D = some (.lst av) := by rw [upd_ne nDd]; exact hD
      have le : Le H' (upd H' d u) := by
        refine Le.upd hd' (fun xs c => by cases c) (fun ob xs c => ?_) fun ob xs c => ?_
        · cases c; exact notDk_tup _ da.k
        · cases c; exact notDk_lst _ da.k
      refine ⟨hd', hq (upd H' d u) (SameX.two h hs' nD0 fun a o n1 n2 e => ?_) hs'.zr _ [D] (.il hD' (r.mono le)) (by simpa using hs')⟩
      by_cases c : a = d
      · subst c
        rw [hd] at e; cases e
        rw [upd_same]
      · rw [upd_ne c]
        exact k a o n1 n2 (by rw [upd_ne c]; exact e)
    | ex d z => exact absurd er lcT_ex
    | no => rw [er] at hq; exact hq.elim
  · right
    show iKeys (tVar i) σ _ _
    refine keys_go da ek (hG _ _ _ _ _ h) e1 fun J w => fun D nD => ?_
    exact lcG_rd j w ft fe h (fun G S z σ H h => hG _ _ _ _ _ h) nD (lc_start h nD hq fun _ _ _ => trivial)
end
end MM
namespace MM
open PySem PySem.Spec PyProof.Rows L2
section
variable {X : Cx} {W : WX} {st : Option Addr} {pos : Pos}
theorem fe_lcD (i : Nat) {elt tg : Expr} {ifs : List Expr} {scope : Scope} {x d : Str} {xp : Pos} {c : MT} {m : ME} (j : Nat) (hc : X.calm = true) (hN : X.N.Nodup) (ok : BlkOk X.N X.env.scope scope [(x, j)])
    (hg : ∀ s H C cl fp, PG (Bk X scope s H C cl fp) tg (gName j)) (ht : ∀ s H C cl fp, RTs (Bk X scope s H C cl fp) W0 st ifs c) (he : ∀ s H C cl fp, RE (Bk X scope s H C cl fp) W0 st elt m)
    (hi : X.N[i]? = some d := by rfl) (hv : Vis X.env.scope d := by first | exact Or.inl rfl | exact Or.inr (Or.inl rfl) | exact Or.inr (Or.inr rfl)) (hd : (d == ("__debug__" : Str)) = false := by decide) (hcd : (d == ("__classdict__" : Str)) = false := by decide)
    (hs : ∀ x, foldedSetIterable (.Name d xp) X.env x = pure x := by intro _; rfl) : FE X W st (.ListComp elt [⟨tg, .Name d xp, ifs, 0⟩] scope pos) (eLcD i j c m) := by
  obtain ⟨tt, pt, ft⟩ := rts_uni ht
  obtain ⟨te, pe, fe⟩ := re_uni he
  have p0 := pe_lc hc hN (pi_keys (tg := tg) (pe_var (X := X) (pos := xp) hi hv hd hcd)) ok hg pt pe hs (pos := pos)
  exact ⟨fun σ H Q => tLockE (tLc (iKeys (tVar i)) (gName j) tt te [j]) σ H Q ∨ tLc (iKeys (tVar i)) (gName j) tt te [j] σ H Q,
    ⟨fun pins s σ H Q I hw => hw.elim (fun q => (pe_lock p0).run pins s σ H Q I q) fun q => p0.run pins s σ H Q I q⟩, lcD_rd i j ft fe⟩
theorem se_setLcD (k i : Nat) {elt tg : Expr} {ifs : List Expr} {scope : Scope} {x d y : Str} {xp py lp : Pos} {c : MT} {m : ME} (j : Nat) (hc : X.calm = true) (hN : X.N.Nodup) (hy : X.N[k]? = some y) (hyl : X.env.scope.names.lookup y = some .local)
    (hsw : swapsWith (.ListComp elt [⟨tg, .Name d xp, ifs, 0⟩] scope lp) (some (.Name y py)) pos.line X.env = pure true) (ok : BlkOk X.N X.env.scope scope [(x, j)])
    (hg : ∀ s H C cl fp, PG (Bk X scope s H C cl fp) tg (gName j)) (ht : ∀ s H C cl fp, RTs (Bk X scope s H C cl fp) W0 st ifs c) (he : ∀ s H C cl fp, RE (Bk X scope s H C cl fp) W0 st elt m)
    (hi : X.N[i]? = some d := by rfl) (hv : Vis X.env.scope d := by first | exact Or.inl rfl | exact Or.inr (Or.inl rfl) | exact Or.inr (Or.inr rfl)) (hd : (d == ("__debug__" : Str)) = false := by decide) (hcd : (d == ("__classdict__" : Str)) = false := by decide)
    (hs : ∀ x, foldedSetIterable (.Name d xp) X.env x = pure x := by intro _; rfl) : SE X W st (.Assign [.Name y py] (.ListComp elt [⟨tg, .Name d xp, ifs, 0⟩] scope lp) pos) (sSet k (eLcD i j c m)) := by
  obtain ⟨tt, pt, ft⟩ := rts_uni ht
  obtain ⟨te, pe, fe⟩ := re_uni he
  have p0 := ps_setLc hc hN hy hyl hsw (pi_keys (tg := tg) (pe_var (X := X) (pos := xp) hi hv hd hcd)) ok hg pt pe hs (pos := lp) (spos := pos)
  refine ⟨fun D σ H => tLockE (tLc (iKeys (tVar i)) (gName j) tt te [j]) σ H (fun v H1 => gName k v σ H1 D.nx) ∨ tLc (iKeys (tVar i)) (gName j) tt te [j] σ H (fun v H1 => gName k v σ H1 D.nx), ?_, fun H0 B Ls S z σ H D h hq => ?_⟩
  · exact ⟨fun pins s σ H D I hw => hw.elim (fun q => (ps_lock p0).run pins s σ H D I (let ⟨d, u, h1, h2, h3⟩ := q; ⟨d, u, h1, h2, fun od => h3 od⟩)) fun q => p0.run pins s σ H D I q⟩
  · unfold sSet at hq
    split at hq
    · rename_i hl
      refine lcD_rd i j ft fe H0 B Ls [] S z σ H _ h (Cs.go h hq fun y z1 H1 _ x1 hz1 hq1 v G' ow h1 => ?_)
      exact hq1 _ H1 (h1.put ow hl)
    · exact hq.elim
end
end MM
namespace MM
open PySem PySem.Spec PyProof.Rows L2
section
variable {X : Cx} {W : WX} {st : Option Addr} {pos : Pos}
/-- the turns of a dict comprehension -/
def dcT (j : Nat) (c : MT) (mk mv : ME) (S0 : List Sv) : List T → List (Key × T) → Zs → Rs Val
  | [], acc, z => .ok (.dk acc) z
  | t :: ts, acc, z => if j < S0.length then match c (S0.set j (.o (.im t))) z with
    | .ok true z => match mk (S0.set j (.o (.im t))) z with
      | .ok (.im u) z => match mv (S0.set j (.o (.im t))) z with
        | .ok (.im v) z => match u.key? with
          | some k => if acc.length < sizeLine then dcT j c mk mv S0 ts (putT acc k v) z else .no
          | none => .no
        | _ => .no
      | _ => .no
    | .ok false z => dcT j c mk mv S0 ts acc z
    | _ => .no
    else .no
def DcK (K : PySem.W.Frag) (st : Option Addr) (H0 B : Hp) (Ls : List (Option (V × Val))) (G : List Addr) (S : List Sv) (σ : L2.St) (D : Addr) (Q : VK) : Rs Val → Prop
  | .ok (.dk acc) z => ∀ H av, Stt K st H0 B Ls (D :: G) S z σ H → H D = some (.dK av) → RepK K H av acc → Q (.ref D) H
  | _ => False
structure DcP (X : Cx) (st : Option Addr) (H0 B : Hp) (Ls : List (Option (V × Val))) (G : List Addr) (S : List Sv) (σ : L2.St) (D : Addr) (Q : VK) (j : Nat) (c : MT) (mk mv : ME) (H1 : Hp) (ts : List T) (H : Hp) (z : Zs) (acc : List (Key × T)) (av : List (Key × V)) : Prop where
  s : Stt X.K st H0 B Ls (D :: G) S z σ H
  d : H D = some (.dK av)
  r : RepK X.K H av acc
  k : ∀ a o, st ≠ some a → a ≠ D → H1 a = some o → H a = some o
  q : DcK X.K st H0 B Ls G S σ D Q (dcT j c mk mv (wipS j S) ts acc z)
theorem dc_turn {j : Nat} {c : MT} {mk mv : ME} {tt : TT} {tk tv : TE}
    (fc : ∀ H0 B Ls G S z σ H Q, Stt X.K st H0 B Ls G S z σ H → Ct X W0 st σ H (c S z) (fun x z' H' => Q x H') → tt σ H Q)
    (fk : ∀ H0 B Ls G S z σ H Q, Stt X.K st H0 B Ls G S z σ H → Ct X W0 st σ H (mk S z) (fun x z' H' => ∀ v, Bor X.K (hid st H') v x → Q v H') → tk σ H Q)
    (fm : ∀ H0 B Ls G S z σ H Q, Stt X.K st H0 B Ls G S z σ H → Ct X W0 st σ H (mv S z) (fun x z' H' => ∀ v, Bor X.K (hid st H') v x → Q v H') → tv σ H Q)
    {H0 B H1 H : Hp} {Ls : List (Option (V × Val))} {G : List Addr} {S : List Sv} {σ : L2.St} {D : Addr} {Q : VK} {z : Zs} {acc : List (Key × T)} {ts : List T} {av : List (Key × V)} {t : T} {v : V}
    (P : DcP X st H0 B Ls G S σ D Q j c mk mv H1 (t :: ts) H z acc av) (r : RepT X.K H v t) :
    gName j v (wipe σ [j]) H fun σ2 H2 => wipe σ2 [j] = wipe σ [j] ∧ tt σ2 H2 fun b H3 => if b = true then tk σ2 H3 fun y H4 => tv σ2 H4 fun x H5 => ∃ kvs k, y = kV k ∧ H5 D = some (.dK kvs) ∧ kvs.length < sizeLine ∧ (∃ z acc av, DcP X st H0 B Ls G S σ D Q j c mk mv H1 ts (L2.upd H5 D (.dK (putK kvs k x))) z acc av)
      else ∃ z acc av, DcP X st H0 B Ls G S σ D Q j c mk mv H1 ts H3 z acc av := by
  have hq := P.q
  unfold dcT at hq
  split at hq
  · rename_i hj
    have hj' : j < S.length := by unfold wipS at hj; simpa using hj
    have hs := P.s.slot hj' r
    have nD : st ≠ some D := by
      obtain ⟨Gs, _, _, fr⟩ := P.s.ex
      exact P.s.nst (fr D (by simp)).1
    refine ⟨by simp [wipe], ?_⟩
    show tt ((σ.set j none).set j (some v)) H _
    unfold wipS at hq
    refine fc _ _ _ _ _ _ _ _ _ hs ?_
    cases ec : c ((S.set j .un).set j (.o (.im t))) z with
    | no => rw [ec] at hq; exact hq.elim
    | ex d z1 => rw [ec] at hq; exact hq.elim
    | ok b z1 =>
      rw [ec] at hq
      intro H3 x3 hz3
      have s3 := P.s.grow x3 hz3
      have d3 := x3.k D _ nD P.d
      have r3 := P.r.mono (x3.le P.s.zr)
      cases b with
      | false => exact iteF ⟨z1, acc, av, s3, d3, r3, fun a o h1 h2 h3 => x3.k a o h1 (P.k a o h1 h2 h3), hq⟩
      | true =>
        refine iteT ?_
        refine fk _ _ _ _ _ _ _ _ _ (hs.grow x3 hz3) ?_
        dsimp only at hq
        cases em : mk ((S.set j .un).set j (.o (.im t))) z1 with
        | no => rw [em] at hq; exact hq.elim
        | ex d z2 => rw [em] at hq; exact hq.elim
        | ok y z2 =>
          rw [em] at hq
          intro H4 x4 hz4 w hw
          cases y with
          | im u =>
            dsimp only at hq
            refine fm _ _ _ _ _ _ _ _ _ ((hs.grow x3 hz3).grow x4 hz4) ?_
            cases en : mv ((S.set j .un).set j (.o (.im t))) z2 with
            | no => rw [en] at hq; exact hq.elim
            | ex d z3 => rw [en] at hq; exact hq.elim
            | ok y2 z3 =>
              rw [en] at hq
              intro H5 x5 hz5 w2 hw2
              cases y2 with
              | im v2 =>
                dsimp only at hq
                split at hq
                · rename_i k ek
                  split at hq
                  · rename_i hl
                    have s4 := s3.grow x4 hz4
                    have d4 := x4.k D _ nD d3
                    have r4 := r3.mono (x4.le s3.zr)
                    have s5 := s4.grow x5 hz5
                    have d5 := x5.k D _ nD d4
                    have r5 := r4.mono (x5.le s4.zr)
                    have hlen := congrArg List.length r5.1
                    rw [List.length_map, List.length_map] at hlen
                    cases hw with
                    | im hw =>
                      cases hw2 with
                      | im hw2 =>
                        refine ⟨av, k, rep_key hw ek, d5, by rw [hlen]; exact hl, z3, putT acc k v2, putK av k w2, s5.chgG d5 True.intro True.intro, upd_same, repK_put ((repT_hid hw2).mono (Le.upd_dK d5)) (r5.mono (Le.upd_dK d5)), fun a o h1 h2 h3 => ?_, hq⟩
                        rw [upd_ne h2]
                        exact x5.k a o h1 (x4.k a o h1 (x3.k a o h1 (P.k a o h1 h2 h3)))
                  · exact hq.elim
                · exact hq.elim
              | _ => exact hq.elim
          | _ => exact hq.elim
  · exact hq.elim
theorem dcT_ok {j : Nat} {c : MT} {mk mv : ME} {S0 : List Sv} : ∀ {ts : List T} {acc : List (Key × T)} {z : Zs} {r : Rs Val}, dcT j c mk mv S0 ts acc z = r → (∃ us z', r = .ok (.dk us) z') ∨ r = .no
  | [], acc, z, r, h => by cases h; exact .inl ⟨_, _, rfl⟩
  | t :: ts, acc, z, r, h => by
    unfold dcT at h
    split at h
    · split at h
      · split at h
        · split at h
          · split at h
            · split at h
              · exact dcT_ok h
              · exact .inr h.symm
            · exact .inr h.symm
          · exact .inr h.symm
        · exact .inr h.symm
      · exact dcT_ok h
      · exact .inr h.symm
    · exact .inr h.symm
theorem dc_it {J : It} {n : Nat} {G : Hp → Prop} {Y : Nat → Hp → V → Hp → Prop} (w : Walk J n G Y) {g : TG} {tt : TT} {tk tv : TE} {vs : List Nat} {σ : L2.St} {H1 : Hp} {D : Addr} {Qd : Hp → Prop} (Pv : Nat → Hp → Prop) (h0 : Pv 0 (upd H1 D (.dK []))) (hG : ∀ i H, i ≤ n → Pv i H → G H)
    (hs : ∀ i x H H', i < n → Pv i H → Y i H x H' → g x (wipe σ vs) H' fun σ2 H2 => wipe σ2 vs = wipe σ vs ∧ tt σ2 H2 fun b H3 =>
      if b = true then tk σ2 H3 fun y H4 => tv σ2 H4 fun z H5 => ∃ kvs k, y = kV k ∧ H5 D = some (.dK kvs) ∧ kvs.length < sizeLine ∧ Pv (i + 1) (upd H5 D (.dK (putK kvs k z))) else Pv (i + 1) H3) (hd : ∀ H, Pv n H → Qd H) :
    ∃ W : Nat → Nat → Hp → Prop, (∃ m, W 0 m (upd H1 D (.dK []))) ∧ ∀ i m H, W i m H →
      (J.stop i H ∧ Qd H) ∨ (J.go i H ∧ ∃ Nx : Hp → Prop, (∀ H', Nx H' → ∃ m', m' < m ∧ W (i + 1) m' H') ∧ ∀ x H', J.yld i H x H' → g x (wipe σ vs) H' fun σ2 H2 => wipe σ2 vs = wipe σ vs ∧ tt σ2 H2 fun b H3 =>
        if b = true then tk σ2 H3 fun y H4 => tv σ2 H4 fun z H5 => ∃ kvs k, y = kV k ∧ H5 D = some (.dK kvs) ∧ kvs.length < sizeLine ∧ Nx (upd H5 D (.dK (putK kvs k z))) else Nx H3) := by
  refine ⟨fun i m H => m = n - i ∧ i ≤ n ∧ Pv i H, ⟨n, by simp, Nat.zero_le _, h0⟩, ?_⟩
  rintro i m H ⟨rfl, hi, p⟩
  have q := hG i H hi p
  by_cases hlt : i < n
  · refine .inr ⟨w.goes i H hlt q, Pv (i + 1), fun H' p' => ⟨n - (i + 1), by omega, rfl, hlt, p'⟩, fun x H' y => hs i x H H' hlt p (w.yields i H x H' hlt q y)⟩
  · have e : i = n := by omega
    subst e
    exact .inl ⟨w.stops H q, hd H p⟩
theorem dc_start {H0 B H1 : Hp} {Ls : List (Option (V × Val))} {G : List Addr} {S : List Sv} {σ : L2.St} {Q : VK} {z1 : Zs} {D : Addr} {j : Nat} {c : MT} {mk mv : ME} {ts : List T} (h1 : Stt X.K st H0 B Ls G S z1 σ H1) (nD : H1 D = none)
    (hq : Ct X W st σ H1 (dcT j c mk mv (wipS j S) ts [] z1) (fun x z' H' => ∀ v G', Own X.K H' v x G' → Stt X.K st H0 B Ls (G' ++ G) S z' σ H' → Q v H')) :
    DcK X.K st H0 B Ls G S σ D (fun v H' => (∀ a o, st ≠ some a → a ≠ D → H1 a = some o → H' a = some o) → Q v H') (dcT j c mk mv (wipS j S) ts [] z1) := by
  cases e : dcT j c mk mv (wipS j S) ts [] z1 with
  | ok x z =>
    rcases dcT_ok e with ⟨us, z', q⟩ | q
    · cases q
      rw [e] at hq
      exact fun H av hs hd r k => hq H (SameX.two h1 hs nD k) hs.zr _ [D] (.dk hd r) (by simpa using hs)
    · cases q
  | ex d z => rcases dcT_ok e with ⟨us, z', q⟩ | q <;> cases q
  | no => rw [e] at hq; exact hq
theorem dcG_rd {J : It} {ts : List T} {GH : Hp → Prop} {c : MT} {mk mv : ME} {tt : TT} {tk tv : TE} (j : Nat) (w : Walk J ts.length GH (YT X.K ts))
    (ft : ∀ H0 B Ls G S z σ H Q, Stt X.K st H0 B Ls G S z σ H → Ct X W0 st σ H (c S z) (fun x z' H' => Q x H') → tt σ H Q)
    (fk : ∀ H0 B Ls G S z σ H Q, Stt X.K st H0 B Ls G S z σ H → Ct X W0 st σ H (mk S z) (fun x z' H' => ∀ v, Bor X.K (hid st H') v x → Q v H') → tk σ H Q)
    (fe : ∀ H0 B Ls G S z σ H Q, Stt X.K st H0 B Ls G S z σ H → Ct X W0 st σ H (mv S z) (fun x z' H' => ∀ v, Bor X.K (hid st H') v x → Q v H') → tv σ H Q)
    {H0 B H1 : Hp} {Ls : List (Option (V × Val))} {G : List Addr} {S : List Sv} {σ : L2.St} {Q : VK} {z1 : Zs} (h1 : Stt X.K st H0 B Ls G S z1 σ H1) (hG : ∀ G S z σ H, Stt X.K st H0 B Ls G S z σ H → GH H) {D : Addr} (nD : H1 D = none)
    (hq1 : DcK X.K st H0 B Ls G S σ D (fun v H' => (∀ a o, st ≠ some a → a ≠ D → H1 a = some o → H' a = some o) → Q v H') (dcT j c mk mv (wipS j S) ts [] z1)) :
    ∃ W : Nat → Nat → Hp → Prop, (∃ m, W 0 m (L2.upd H1 D (.dK []))) ∧ ∀ i m H, W i m H →
      (J.stop i H ∧ Q (.ref D) H) ∨ (J.go i H ∧ ∃ Nx : Hp → Prop, (∀ H', Nx H' → ∃ m', m' < m ∧ W (i + 1) m' H') ∧ ∀ x H', J.yld i H x H' → gName j x (wipe σ [j]) H' fun σ2 H2 => wipe σ2 [j] = wipe σ [j] ∧ tt σ2 H2 fun b H3 =>
        if b = true then tk σ2 H3 fun y H4 => tv σ2 H4 fun z H5 => ∃ kvs k, y = kV k ∧ H5 D = some (.dK kvs) ∧ kvs.length < sizeLine ∧ Nx (upd H5 D (.dK (putK kvs k z))) else Nx H3) := by
  have hz1 := h1.zr
  have sn : Same H1 (L2.upd H1 D (.dK [])) := Same.upd_new nD
  refine dc_it w (fun i H => ∃ z acc av, DcP X st H0 B Ls G S σ D (fun v H' => (∀ a o, st ≠ some a → a ≠ D → H1 a = some o → H' a = some o) → Q v H') j c mk mv H1 (ts.drop i) H z acc av)
    ⟨z1, [], [], h1.add (G' := [D]) (.of_same sn) (hz1.new sn) (by simp) (fun a ha => by simp at ha; subst ha; exact nD) (fun a ha => by simp at ha; subst ha; exact ⟨_, upd_same, True.intro⟩), upd_same, ⟨rfl, .nil⟩, fun a o _ _ e => sn a o e, hq1⟩
    (fun i H _ ⟨_, _, _, P⟩ => hG _ _ _ _ _ P.s) (fun i x H H' hi ⟨z2, acc, av, P⟩ ⟨e, t, et, rt⟩ => ?_) (fun H ⟨z2, acc, av, P⟩ => ?_)
  · subst e
    obtain ⟨hl, e2⟩ := List.getElem?_eq_some_iff.mp et
    rw [List.drop_eq_getElem_cons hl, e2] at P
    exact dc_turn ft fk fe P rt
  · rw [List.drop_length] at P
    have hq := P.q
    exact hq H av P.s P.d P.r P.k
@[simp] def eDcD (i j : Nat) (c : MT) (mk mv : ME) : ME := fun S z => match S[i]? with
  | some (.o x) => match keysV x with
    | some ts => dcT j c mk mv (wipS j (S.set i (.lk x))) ts [] z
    | none => .no
  | some (.b x) => match keysV x with
    | some ts => dcT j c mk mv (wipS j S) ts [] z
    | none => .no
  | _ => .no
theorem eDcD_cases {i j : Nat} {c : MT} {mk mv : ME} {S : List Sv} {z : Zs} (P : Rs Val → Prop) (h : P (eDcD i j c mk mv S z)) (no : ¬ P .no) : ∃ x ts S', keysV x = some ts ∧ ((S[i]? = some (.o x) ∧ S' = S.set i (.lk x)) ∨ (S[i]? = some (.b x) ∧ S' = S)) ∧ P (dcT j c mk mv (wipS j S') ts [] z) := by
  unfold eDcD at h
  split at h
  · rename_i x e
    split at h
    · rename_i ts ek; exact ⟨x, ts, _, ek, .inl ⟨e, rfl⟩, h⟩
    · exact absurd h no
  · rename_i x e
    split at h
    · rename_i ts ek; exact ⟨x, ts, _, ek, .inr ⟨e, rfl⟩, h⟩
    · exact absurd h no
  · exact absurd h no
theorem dcD_rd {c : MT} {mk mv : ME} {tt : TT} {tk tv : TE} (i j : Nat)
    (ft : ∀ H0 B Ls G S z σ H Q, Stt X.K st H0 B Ls G S z σ H → Ct X W0 st σ H (c S z) (fun x z' H' => Q x H') → tt σ H Q)
    (fk : ∀ H0 B Ls G S z σ H Q, Stt X.K st H0 B Ls G S z σ H → Ct X W0 st σ H (mk S z) (fun x z' H' => ∀ v, Bor X.K (hid st H') v x → Q v H') → tk σ H Q)
    (fe : ∀ H0 B Ls G S z σ H Q, Stt X.K st H0 B Ls G S z σ H → Ct X W0 st σ H (mv S z) (fun x z' H' => ∀ v, Bor X.K (hid st H') v x → Q v H') → tv σ H Q) :
    ∀ H0 B Ls G S z σ H Q, Stt X.K st H0 B Ls G S z σ H → Ct X W st σ H (eDcD i j c mk mv S z) (fun x z' H' => ∀ v G', Own X.K H' v x G' → Stt X.K st H0 B Ls (G' ++ G) S z' σ H' → Q v H') → tLockE (tDc (iKeys (tVar i)) (gName j) tt tk tv [j]) σ H Q ∨ tDc (iKeys (tVar i)) (gName j) tt tk tv [j] σ H Q := by
  intro H0 B Ls G S z σ H Q h hq
  obtain ⟨x, ts, S', ek, eS, hq⟩ := eDcD_cases (fun r => Ct X W st σ H r (fun x z' H' => ∀ v G', Own X.K H' v x G' → Stt X.K st H0 B Ls (G' ++ G) S z' σ H' → Q v H')) hq id
  obtain ⟨d, u, e1, da, hh⟩ := h.openD eS ek
  rcases hh with ⟨hd, hh⟩ | ⟨od, rfl, hG⟩
  · left
    refine ⟨d, u, hd, da.mut, fun od => ?_⟩
    obtain ⟨H0', B', Ls', hL, back, at_⟩ := hh od
    show iKeys (tVar i) σ _ _
    refine keys_go da ek upd_same e1 fun J w => fun D nD => ?_
    have nD0 : H D = none := by
      by_cases c : D = d
      · rw [c, upd_same] at nD; cases nD
      · rwa [upd_ne c] at nD
    refine dcG_rd (Q := fun v H' => H' d = some (.frz od u) ∧ Q v (upd H' d u)) j w ft fk fe hL at_ nD ?_
    cases er : dcT j c mk mv (wipS j S') ts [] z with
    | ok x z' =>
      rcases dcT_ok er with ⟨us, z2, q⟩ | q
      · cases q
        rw [er] at hq
        intro H' av hs hD r k
        obtain ⟨hd', hs'⟩ := back _ _ _ _ hs
        have nDd : D ≠ d := fun c => by rw [c, upd_same] at nD; cases nD
        have hD' : upd H' d u D = some (.dK av) := by rw [upd_ne nDd]; exact hD
        have le : Le H' (upd H' d u) := by
          refine Le.upd hd' (fun xs c => by cases c) (fun ob xs c => ?_) fun ob xs c => ?_
          · cases c; exact notDk_tup _ da.k
          · cases c; exact notDk_lst _ da.k
        refine ⟨hd', hq (upd H' d u) (SameX.two h hs' nD0 fun a o n1 n2 e => ?_) hs'.zr _ [D] (.dk hD' (r.mono le)) (by simpa using hs')⟩
        by_cases c : a = d
        · subst c
          rw [hd] at e; cases e
          rw [upd_same]
        · rw [upd_ne c]
          exact k a o n1 n2 (by rw [upd_ne c]; exact e)
      · cases q
    | ex d z => rcases dcT_ok er with ⟨us, z', q⟩ | q <;> cases q
    | no => rw [er] at hq; exact hq.elim
  · right
    show iKeys (tVar i) σ _ _
    refine keys_go da ek (hG _ _ _ _ _ h) e1 fun J w => fun D nD => ?_
    exact dcG_rd j w ft fk fe h (fun G S z σ H h => hG _ _ _ _ _ h) nD (dc_start h nD hq)
theorem fe_dcD (i : Nat) {ek ev tg : Expr} {ifs : List Expr} {scope : Scope} {x d : Str} {xp : Pos} {c : MT} {mk mv : ME} (j : Nat) (hc : X.calm = true) (hN : X.N.Nodup) (ok : BlkOk X.N X.env.scope scope [(x, j)])
    (hg : ∀ s H C cl fp, PG (Bk X scope s H C cl fp) tg (gName j)) (ht : ∀ s H C cl fp, RTs (Bk X scope s H C cl fp) W0 st ifs c) (hk : ∀ s H C cl fp, RE (Bk X scope s H C cl fp) W0 st ek mk) (he : ∀ s H C cl fp, RE (Bk X scope s H C cl fp) W0 st ev mv)
    (hi : X.N[i]? = some d := by rfl) (hv : Vis X.env.scope d := by first | exact Or.inl rfl | exact Or.inr (Or.inl rfl) | exact Or.inr (Or.inr rfl)) (hd : (d == ("__debug__" : Str)) = false := by decide) (hcd : (d == ("__classdict__" : Str)) = false := by decide)
    (hs : ∀ x, foldedSetIterable (.Name d xp) X.env x = pure x := by intro _; rfl) : FE X W st (.DictComp ek ev [⟨tg, .Name d xp, ifs, 0⟩] scope pos) (eDcD i j c mk mv) := by
  obtain ⟨tt, pt, ft⟩ := rts_uni ht
  obtain ⟨tk, pk, fk⟩ := re_uni hk
  obtain ⟨te, pe, fe⟩ := re_uni he
  have p0 := pe_dc hc hN (pi_keys (tg := tg) (pe_var (X := X) (pos := xp) hi hv hd hcd)) ok hg pt pk pe hs (pos := pos)
  exact ⟨fun σ H Q => tLockE (tDc (iKeys (tVar i)) (gName j) tt tk te [j]) σ H Q ∨ tDc (iKeys (tVar i)) (gName j) tt tk te [j] σ H Q,
    ⟨fun pins s σ H Q I hw => hw.elim (fun q => (pe_lock p0).run pins s σ H Q I q) fun q => p0.run pins s σ H Q I q⟩, dcD_rd i j ft fk fe⟩
end
end MM
namespace MM
open PySem PySem.Spec PyProof.Rows L2
section
variable {X : Cx} {W : WX} {st : Option Addr} {pos : Pos}
/-- if d.setdefault(k, v) != e: .. -/
@[simp] def sIfSetd (i : Nat) (mk mv mf : ME) (a b : MS) : MS := fun S z => match S[i]? with
  | some (.o (.dk kvs)) => (mk S z).go S fun k z => (mv S z).go S fun v z => match k, v with
    | .im kt, .im t => match kt.key? with
      | some kk => if kvs.length < sizeLine then match look kvs kk with
        | some u => (mf S z).go S fun y z => match oEq true (.im u) y with
          | some (.im (.bl true)) => a S z
          | some (.im (.bl false)) => b S z
          | _ => .no
        | none => (mf (S.set i (.o (.dk (putT kvs kk t)))) z).go (S.set i (.o (.dk (putT kvs kk t)))) fun y z => match oEq true (.im t) y with
          | some (.im (.bl true)) => a (S.set i (.o (.dk (putT kvs kk t)))) z
          | some (.im (.bl false)) => b (S.set i (.o (.dk (putT kvs kk t)))) z
          | _ => .no
        else .no
      | none => .no
    | _, _ => .no
  | _ => .no
theorem se_ifSetd (i : Nat) {x : Str} {xp apos cpos qpos : Pos} {k v f : Expr} {a b : List Stmt} {mk mv mf : ME} {ma mb : MS} (hu : X.A.units + 64 < cLine) (hk : RE X W st k mk) (he : RE X W st v mv) (hf : RE X W st f mf) (ha : SEs X W st a ma) (hb : SEs X W st b mb)
    (m2 : M2 X (.Name x xp) "setdefault" apos k v cpos)
    (hN : X.N[i]? = some x := by rfl) (hv : Vis X.env.scope x := by first | exact Or.inl rfl | exact Or.inr (Or.inl rfl) | exact Or.inr (Or.inr rfl)) (hd : (x == ("__debug__" : Str)) = false := by decide) (hcd : (x == ("__classdict__" : Str)) = false := by decide)
    (hm : behindInMarks .NotEq f = false := by first | exact nomark _ | rfl) : SE X W st (.If (.Compare (.Call (.Attribute (.Name x xp) "setdefault" apos) [k, v] [] cpos) [.NotEq] [f] qpos) a b pos) (sIfSetd i mk mv mf ma mb) := by
  obtain ⟨tk, pk, fk⟩ := hk
  obtain ⟨tv, pv, fv⟩ := he
  obtain ⟨tf, pf, ff⟩ := hf
  obtain ⟨ta, pa, fa⟩ := ha
  obtain ⟨tb, pb, fb⟩ := hb
  refine ⟨_, ps_if (pt_cmpR (op_neW hu) (pe_dsetd (pe_var hN hv hd hcd) pk pv m2) pf hm) pa pb, fun H0 B Ls S z σ H D h hq => ?_⟩
  unfold sIfSetd at hq
  split at hq
  · rename_i kvs es
    obtain ⟨l, ys, e1, h1, h2, _⟩ := get_dk h es
    refine ⟨.ref l, e1, l, rfl, .inl ⟨ys, .inl h1⟩, ?_⟩
    refine fk H0 B Ls [] S z σ H _ h (Cs.go h hq fun k z1 H1 _ x1 hz1 hq1 vk hvk => ?_)
    have g1 := h.grow x1 hz1
    refine fv H0 B Ls [] S z1 σ H1 _ g1 (Cs.go g1 hq1 fun v z2 H2 _ x2 hz2 hq2 vv hvv => ?_)
    have g2 := g1.grow x2 hz2
    have hvk := hvk.mono x2.hid
    split at hq2
    · rename_i kt t
      split at hq2
      · rename_i kk ek
        split at hq2
        · rename_i hl
          obtain ⟨l', ys', e1', h3, h4, own⟩ := get_dk g2 es
          rw [e1] at e1'; cases e1'
          have hlen := congrArg List.length h4.1
          rw [List.length_map, List.length_map] at hlen
          have look_ := repK_look kk h4
          cases hvk with
          | im hvk =>
            cases hvv with
            | im hvv =>
              have fin : ∀ {S' : List Sv} {H' : Hp} {w : V} {u : T}, Stt X.K st H0 B Ls [] S' z2 σ H' → Bor X.K (hid st H') w (.im u) → Cs X W st H0 B Ls D ((mf S' z2).go S' fun y z => match oEq true (.im u) y with
                  | some (.im (.bl true)) => ma S' z
                  | some (.im (.bl false)) => mb S' z
                  | _ => .no) → tf σ H' (fun y H2 => rEqW X.K true w y H2 (fun x H3 => ∃ b, x = .bl b ∧ (if b = true then ta D σ H3 else tb D σ H3))) := fun {S' H' w u} g hw hq => by
                refine ff H0 B Ls [] S' z2 σ H' _ g (Cs.go g hq fun y z3 H3 _ x3 hz3 hq3 vy hvy => ?_)
                have g3 := g.grow x3 hz3
                cases eo : oEq true (.im u) y with
                | none => rw [eo] at hq3; exact hq3.elim
                | some r =>
                  rw [eo] at hq3
                  refine op2_eq (X := X) (st := st) H3 w vy _ _ r _ (hw.mono x3.hid) hvy eo fun v' H' G' s ow nd fr => ?_
                  have g4 := g3.grow (.of_same s) (g3.zr.new s)
                  cases ow with
                  | im rr =>
                    cases rr with
                    | bl bb =>
                      refine ⟨bb, rfl, ?_⟩
                      cases bb with
                      | true => exact iteT (fa H0 B Ls S' z3 σ H' D g4 hq3)
                      | false => exact iteF (fb H0 B Ls S' z3 σ H' D g4 hq3)
                    | _ => exact hq3.elim
                  | _ => exact hq3.elim
              refine ⟨ys', kk, h3, rep_key hvk ek, by rw [hlen]; exact hl, fun v hv => ?_, fun hn => ?_⟩
              · cases el : look kvs kk with
                | none => rw [el] at look_; rw [look_] at hv; cases hv
                | some u =>
                  rw [el] at look_ hq2
                  obtain ⟨v', q1, q2⟩ := look_
                  rw [hv] at q1; cases q1
                  exact fin g2 (.im (q2.mono g2.zr.le)) hq2
              · cases el : look kvs kk with
                | some u => rw [el] at look_; obtain ⟨v', q1, q2⟩ := look_; rw [hn] at q1; cases q1
                | none =>
                  rw [el] at hq2
                  have le : Le H2 (L2.upd H2 l (.dK (putK ys' kk vv))) := Le.upd_dK h3
                  have g3 := g2.chg (o := .dK (putK ys' kk vv)) es own h3 True.intro True.intro (.dk upd_same (repK_put ((repT_hid hvv).mono le) (h4.mono le)))
                  exact fin g3 (.im (((repT_hid hvv).mono le).mono g3.zr.le)) hq2
        · exact hq2.elim
      · exact hq2.elim
    · exact hq2.elim
  · exact hq.elim
end
end MM
namespace MM
open PySem PySem.Spec PyProof.Rows L2
section
variable {P : Program} {w : World} {K : PySem.W.Frag} {mg : Str → Option Value} {base : Heap}
section
variable {x qual : Str} {st : Stmt} {f : Addr} {fd : FuncData} {N ps : List Str} {k : Nat}
/-- a def with defaults -/
theorem fnPD {dvs : List V} {kws : List (Str × V)} (F : FunD K x qual (defArgs st) (defBody st) (defScope st) dvs kws f fd) (S : FnScope N ps (defScope st)) (m : MS)
    (hb : ∀ (cdv : Value) (A : Around) (outer : List Env) (s : Shared) (H : Hp) (E : XK), Room k (A.deeper (envOfC qual (defScope st) s.heap.objs.size f cdv)) →
      SEs (cxOf (L2.CX P w) P w K mg base N qual (defScope st) f cdv A outer s H E) (fun cls d _ H => E cls d H) none (defBody st) m) :
    FnOk P w K mg base (L2.CX P w) (k + 1) f fd ps (spP K mg (runP N.length ps.length m)) := by
  refine F.ok S (fun vs H Q E h => ?_) (fun cdv A outer s H vs Q E hr h => ?_)
  · obtain ⟨xs, hv, hm⟩ := h
    by_cases e : xs.length = ps.length
    · rw [hv.length]; exact e
    · unfold runP at hm
      rw [if_neg e] at hm
      exact hm.elim
  · obtain ⟨xs, hv, hm⟩ := h
    by_cases e : xs.length = ps.length
    · unfold runP at hm
      rw [if_pos e] at hm
      obtain ⟨t, p, g⟩ := hb cdv A outer s H E hr
      refine ⟨t, p, ?_⟩
      have en : (List.replicate (N.length - vs.length) (none : Option V)) = List.replicate (N.length - ps.length) none := by rw [hv.length, e]
      have stt : Stt K none H (fun _ => none) (List.replicate (xs.length + (N.length - ps.length)) none) [] (xs.map Sv.b ++ List.replicate (N.length - ps.length) .un) z0 (start N vs) H := by
        refine ⟨.refl _ _, fun a e => (by cases e), fun a o e => (by cases e), ⟨z0, fun a e => (by cases e)⟩, fun a e => (by cases e), fun a e => (by cases e), fun j v x e => ?_, [], ?_, List.nodup_nil, fun a e => (by cases e)⟩
        · rw [List.getElem?_replicate] at e
          split at e <;> cases e
        · unfold L2.start
          rw [en, hid_none]
          exact sls_start hv
      refine g H (fun _ => none) _ _ z0 (start N vs) H _ stt (cs_end ?_)
      revert hm
      generalize endR (m (xs.map Sv.b ++ List.replicate (N.length - ps.length) .un) z0) = r
      intro hm
      cases r with
      | ok y z => exact fun v H' G sx _ ow nd fr => hm v H' G sx.same ow nd fr
      | ex c z => exact fun cv d H' sx _ xr => hm cv d H' sx.same xr
      | no => exact hm
    · unfold runP at hm
      rw [if_neg e] at hm
      exact hm.elim
end
end
section
variable {X : Cx} {W : WX} {st : Option Addr} {pos : Pos}
/-- list(d) -/
@[simp] def oListD : List Val → Option Val
  | [.dk kvs] => if (kvs.all fun kv => kOk kv.1) = true then some (.il (kvs.map fun kv => kyT kv.1)) else none
  | _ => none
theorem fn_listD : Fn X st (fun xs H Q => ∃ (a : Addr) (kvs : List (Key × V)), xs = [.ref a] ∧ Rd H a (.dK kvs) ∧ ∀ p, H p = none → Q (.ref p) (upd H p (.lst (kvs.map fun kv => kV kv.1)))) oListD := by
  intro H vs xs y Q hv e q
  unfold oListD at e
  split at e
  · rename_i kvs
    split at e
    · rename_i ok
      cases e
      obtain ⟨v, rfl, h⟩ := hv.one
      cases h with
      | @dk a xs _ h1 h2 =>
        have rd : Rd H a (.dK xs) := by
          rcases h1 with h1 | ⟨o, h1⟩
          · exact .inl (not_hid h1)
          · exact .inr ⟨o, not_hid h1⟩
        refine ⟨a, xs, rfl, rd, fun p np => q _ _ [p] (Same.upd_new np) (.il upd_same ?_) (by simp) (fun a ha => by simp at ha; subst ha; exact np)⟩
        have e1 : (xs.map fun kv => kV kv.1) = (kvs.map (·.1)).map kV := by rw [← h2.1, List.map_map]; rfl
        have e2 : (kvs.map fun kv => kyT kv.1) = (kvs.map (·.1)).map kyT := by rw [List.map_map]; rfl
        rw [e1, e2]
        exact kts_rep (List.all_eq_true.mpr fun k hk => by
          obtain ⟨p, hp, rfl⟩ := List.mem_map.mp hk
          exact List.all_eq_true.mp ok p hp)
    · cases e
  · cases e
@[simp] def eListD := eFn oListD
theorem fe_listD {p : Pos} {e : Expr} {ms : MAs} (hc : X.calm = true) (hg : Gl X "list") (hm : X.mg "list" = none) (ha : RA X W st [e] ms) (he : starEach [e] X.env = (false, eval e X.env) :: starEach [] X.env := by rfl) : FE X W st (.Call (.Name "list" p) [e] [] pos) (eListD ms) := fe_callTy (call_listD hc) fn_listD hg hm (by decide +kernel) ha (he := he)
end
end MM
namespace MM
open PySem PySem.Spec PyProof.Rows L2
section
variable {P : Program} {w : World} {K : PySem.W.Frag} {mg : Str → Option Value} {base : Heap} {x qual : Str} {st : Stmt} {f : Addr} {fd : FuncData} {N ps : List Str} {k : Nat}
/-- a def's body keeps its promise -/
theorem fn_body (S : FnScope N ps (defScope st)) (m : MS) {cdv : Value}
    (hb : ∀ (A : Around) (outer : List Env) (s : Shared) (H : Hp) (E : XK), Room k (A.deeper (envOfC qual (defScope st) s.heap.objs.size f cdv)) →
      SEs (cxOf (L2.CX P w) P w K mg base N qual (defScope st) f cdv A outer s H E) (fun cls d _ H => E cls d H) none (defBody st) m)
    (A : Around) (outer : List Env) (s : Shared) (H : Hp) (vs : List V) (Q : VK) (E : XK) (hr : Room k (A.deeper (envOfC qual (defScope st) s.heap.objs.size f cdv))) (h : spP K mg (runP N.length ps.length m) vs H Q E) :
    ∃ t, PSs (cxOf (L2.CX P w) P w K mg base N qual (defScope st) f cdv A outer s H E) (defBody st) t ∧ t { nx := fun _ H' => Q .non H', rt := Q } (start N vs) H := by
  obtain ⟨xs, hv, hm⟩ := h
  by_cases e : xs.length = ps.length
  · unfold runP at hm
    rw [if_pos e] at hm
    obtain ⟨t, p, g⟩ := hb A outer s H E hr
    refine ⟨t, p, ?_⟩
    have en : (List.replicate (N.length - vs.length) (none : Option V)) = List.replicate (N.length - ps.length) none := by rw [hv.length, e]
    have stt : Stt K none H (fun _ => none) (List.replicate (xs.length + (N.length - ps.length)) none) [] (xs.map Sv.b ++ List.replicate (N.length - ps.length) .un) z0 (start N vs) H := by
      refine ⟨.refl _ _, fun a e => (by cases e), fun a o e => (by cases e), ⟨z0, fun a e => (by cases e)⟩, fun a e => (by cases e), fun a e => (by cases e), fun j v x e => ?_, [], ?_, List.nodup_nil, fun a e => (by cases e)⟩
      · rw [List.getElem?_replicate] at e
        split at e <;> cases e
      · unfold L2.start
        rw [en, hid_none]
        exact sls_start hv
    refine g H (fun _ => none) _ _ z0 (start N vs) H _ stt (cs_end ?_)
    revert hm
    generalize endR (m (xs.map Sv.b ++ List.replicate (N.length - ps.length) .un) z0) = r
    intro hm
    cases r with
    | ok y z => exact fun v H' G sx _ ow nd fr => hm v H' G sx.same ow nd fr
    | ex c z => exact fun cv d H' sx _ xr => hm cv d H' sx.same xr
    | no => exact hm
  · unfold runP at hm
    rw [if_neg e] at hm
    exact hm.elim

def ims? : List Val → Option (List T)
  | [] => some []
  | .im t :: xs => (ims? xs).map (t :: ·)
  | _ :: _ => none
theorem ims_im (ts : List T) : ims? (ts.map .im) = some ts := by
  induction ts with
  | nil => rfl
  | cons t ts ih => simp [ims?, ih]
theorem borS_ims {H : Hp} : ∀ {vs : List V} {xs : List Val} {ts : List T}, BorS K H vs xs → ims? xs = some ts → RepTs K H vs ts
  | _, _, ts, .nil, e => by cases e; exact .nil
  | _, _, ts, .cons (l₂ := xs) h t, e => by
    cases h with
    | im h =>
      simp only [ims?] at e
      cases e2 : ims? xs with
      | none => rw [e2] at e; cases e
      | some us => rw [e2] at e; cases e; exact .cons h (borS_ims t e2)
    | _ => cases e
/-- f(a, .., *more): what is left over as a tuple -/
def starF (n : Nat) (m : MF) : MF := fun xs => match ims? (xs.drop n) with
  | some ts => if n ≤ xs.length ∧ ts.length ≤ sizeLine then m (xs.take n ++ [.im (.tup ts)]) else .no
  | none => .no
theorem BorS.take {H : Hp} : ∀ {vs : List V} {xs : List Val} (n : Nat), BorS K H vs xs → BorS K H (vs.take n) (xs.take n)
  | _, _, 0, _ => by rw [List.take_zero, List.take_zero]; exact Paired.nil
  | _, _, n + 1, .nil => by rw [List.take_nil, List.take_nil]; exact Paired.nil
  | _, _, n + 1, .cons h t => by rw [List.take_succ_cons, List.take_succ_cons]; exact Paired.cons h (BorS.take n t)
theorem BorS.drop {H : Hp} : ∀ {vs : List V} {xs : List Val} (n : Nat), BorS K H vs xs → BorS K H (vs.drop n) (xs.drop n)
  | _, _, 0, h => h
  | _, _, n + 1, .nil => by rw [List.drop_nil, List.drop_nil]; exact Paired.nil
  | _, _, n + 1, .cons h t => by rw [List.drop_succ_cons, List.drop_succ_cons]; exact BorS.drop n t
theorem fnS {pv : Str} {oc dV kV doc pm cdv ct : Value} {od an : Option Addr} {osl : Array (Option Value)} {name : Str} {params : Arguments} (lk : K.lookup f = some ⟨oc, od, .func (PySem.W.fnOf name qual params (defBody st) (defScope st) dV kV doc pm an cdv ct), osl⟩) (hcd : PySem.W.codeIn K cdv qual = true) (S : FnScope N (ps ++ [pv]) (defScope st))
    (hb : ∀ us rest : List Value, us.length = ps.length → bindArgs (PySem.W.fnOf name qual params (defBody st) (defScope st) dV kV doc pm an cdv ct) ⟨us ++ rest, []⟩ = (newTuple rest >>= fun t => pure (ps.zip us ++ [(pv, t)])))
    (m : MS) (body : ∀ (A : Around) (outer : List Env) (s : Shared) (H : Hp) (E : XK), Room k (A.deeper (envOfC qual (defScope st) s.heap.objs.size f cdv)) →
      SEs (cxOf (L2.CX P w) P w K mg base N qual (defScope st) f cdv A outer s H E) (fun cls d _ H => E cls d H) none (defBody st) m) :
    FnR P w K mg base (L2.CX P w) (k + 1) f (spP K mg (starF ps.length (runP N.length (ps.length + 1) m))) := by
  have hl : (ps ++ [pv]).length = ps.length + 1 := by simp
  refine (StX.fn_star (sp := spP K mg (runP N.length (ps.length + 1) m)) lk hcd S StX.cxUp hb fun A outer s H vs Q E hr h => fn_body S m body A outer s H vs Q E hr (by rw [hl]; exact h)).imp fun vs H Q E h => ?_
  obtain ⟨xs, hv, hm⟩ := h
  unfold starF at hm
  split at hm
  · rename_i y z e0
    split at e0
    · rename_i ts et
      split at e0
      · rename_i hc
        have hlen : vs.length = xs.length := hv.length
        have rt := borS_ims (hv.drop ps.length) et
        refine ⟨vs.take ps.length, vs.drop ps.length, (List.take_append_drop ..).symm, by rw [List.length_take]; omega, by rw [rt.length]; exact hc.2, fun p np => ?_⟩
        have sn := Same.upd_new (o := .tup (vs.drop ps.length)) np
        refine ⟨_, ((hv.take ps.length).mono sn).append (.cons (.im (.tup (.inl (.inl upd_same)) (rt.mono (Le.of_same sn)))) .nil), ?_⟩
        rw [e0]
        exact fun v H' G s ow nd fr => hm v H' G (sn.trans s) ow nd fun a ha => by
          have q := fr a ha
          have : a ≠ p := fun c => by rw [c, upd_same] at q; cases q
          rwa [upd_ne this] at q
      · cases e0
    · cases e0
  · rename_i c z e0
    split at e0
    · rename_i ts et
      split at e0
      · rename_i hc
        have hlen : vs.length = xs.length := hv.length
        have rt := borS_ims (hv.drop ps.length) et
        refine ⟨vs.take ps.length, vs.drop ps.length, (List.take_append_drop ..).symm, by rw [List.length_take]; omega, by rw [rt.length]; exact hc.2, fun p np => ?_⟩
        have sn := Same.upd_new (o := .tup (vs.drop ps.length)) np
        refine ⟨_, ((hv.take ps.length).mono sn).append (.cons (.im (.tup (.inl (.inl upd_same)) (rt.mono (Le.of_same sn)))) .nil), ?_⟩
        rw [e0]
        exact fun cv d H' s xr => hm cv d H' (sn.trans s) xr
      · cases e0
    · cases e0
  · exact hm.elim
theorem fnSF {x : Str} {pv : Str} (F : Fun K x qual st f fd) (S : FnScope N (ps ++ [pv]) (defScope st))
    (hb : ∀ (kV doc pm : Value) (an : Option Addr) (cdv ct : Value) (us rest : List Value), us.length = ps.length → bindArgs (PySem.W.fnOf x qual (defArgs st) (defBody st) (defScope st) .none kV doc pm an cdv ct) ⟨us ++ rest, []⟩ = (newTuple rest >>= fun t => pure (ps.zip us ++ [(pv, t)])))
    (m : MS) (body : ∀ (cdv : Value) (A : Around) (outer : List Env) (s : Shared) (H : Hp) (E : XK), Room k (A.deeper (envOfC qual (defScope st) s.heap.objs.size f cdv)) →
      SEs (cxOf (L2.CX P w) P w K mg base N qual (defScope st) f cdv A outer s H E) (fun cls d _ H => E cls d H) none (defBody st) m) :
    FnR P w K mg base (L2.CX P w) (k + 1) f (spP K mg (starF ps.length (runP N.length (ps.length + 1) m))) := by
  obtain ⟨oc, od, kV, doc, pm, an, cdv, ct, osl, rfl, lk, hcd⟩ := F.ex
  exact fnS lk hcd S (hb kV doc pm an cdv ct) m (body cdv)
end
section
variable {X : Cx} {CX : CXT} {k : Nat} {f : Addr} {sp : Sp} {E : L2.St → XK} {x : Str} {p pos : Pos} {e : Expr} {es : List Expr} {t : TA}
theorem pe_callRS (F : FnR X.prog X.w X.K X.mg X.base CX k f sp) (hr : Room k X.A) (hg : Gl X x) (hm : X.mg x = some (.ref f)) (hk : PySem.W.keepIn X.K (.ref f) = true) (hx : ∀ σ, PassesAt CX X σ (E σ))
    (ha : PA X (e :: es) t) (hdb : (x == ("__debug__" : Str)) = false := by decide) (he : starEach (e :: es) X.env = (false, eval e X.env) :: starEach es X.env := by rfl) (hpl : (backTo pos (starEach es X.env)).any (·.1) = false := by rfl) :
    PE X (.Call (.Name x p) (e :: es) [] pos) (tCallS sp E t) := by
  refine ⟨fun pins s σ H Q I h => ?_⟩
  refine wpAny_Call_Name_kw (ld_glob I hg hm ?_ hdb)
  refine PySem.W.callWith_K (h₀ := X.base) I.ok.mod.kin hk (thn (ha.run pos pins s σ H _ I h) fun us s1 ⟨vs, H1, I1, r, q⟩ => ⟨I1.kIn, ?_⟩) he hpl
  refine wpAny_call (codeAny_mono (F X.A X.stack s1 H1 us vs Q (E σ) hr I1.env0 r q) fun r s' hq => ?_)
  cases r with
  | error e => exact hx σ pins H1 s1 e s' I1 hq
  | ok fl =>
    cases fl with
    | ret u => exact I1.after hq
    | next => exact False.elim hq
    | brk => exact False.elim hq
    | cont => exact False.elim hq
end
section
variable {X : Cx} {W : WX} {st : Option Addr} {pos p : Pos} {k : Nat} {f : Addr} {x : Str} {e : Expr} {es : List Expr} {ms : MAs}
theorem fe_callR {m : MF} (F : FnR X.prog X.w X.K X.mg X.base (L2.CX X.prog X.w) k f (spP X.K X.mg m)) (hr : Room k X.A) (hg : Gl X x) (hm : X.mg x = some (.ref f)) (hk : PySem.W.keepIn X.K (.ref f) = true) (tk : Takes X W)
    (ha : RA X W st (e :: es) ms) (hdb : (x == ("__debug__" : Str)) = false := by decide) (he : starEach (e :: es) X.env = (false, eval e X.env) :: starEach es X.env := by rfl) (hpl : (backTo pos (starEach es X.env)).any (·.1) = false := by rfl) :
    FE X W st (.Call (.Name x p) (e :: es) [] pos) (eCall m ms) := by
  obtain ⟨t, pa, g⟩ := ha
  refine ⟨tCallS _ (WE W) t, pe_callRS F hr hg hm hk (fun σ => passAt tk σ) pa hdb he hpl, fun H0 B Ls G S z σ H Q h hq => ?_⟩
  refine g H0 B Ls G S z σ H _ h (hq.bind fun xs z1 H1 _ x1 hz1 hq1 vs hvs => ?_)
  refine ⟨xs, hvs.hid, ?_⟩
  have h1 := h.grow x1 hz1
  split at hq1
  · rename_i y _ em
    exact fun v H' G' s ow nd fr => Ct.fin h1 hq1 s ow nd fr
  · rename_i c _ em
    exact fun cv d H' s xr => hq1 cv d H' (.of_same s) (hz1.new s) xr
  · exact hq1.elim
end
end MM
namespace MM
open PySem PySem.Spec PyProof.Rows L2
/-! ### list(range(a, b)), comprehensions over range(a, b) -/
theorem rep_rg {K : PySem.W.Frag} {H : Hp} (a : Int) : ∀ n : Nat, RepTs K H ((List.range n).map fun (i : Nat) => V.int (a + i)) (rngI a n)
  | 0 => .nil
  | n + 1 => by
    unfold rngI
    rw [List.range_succ, List.map_append, List.map_append]
    exact (rep_rg a n).append (.one (.int _))
@[simp] def eListRg (ms : MAs) : ME := fun S z => (ms S z).bind fun xs z => match xs with
  | [.im (.int i), .im (.int j)] => if (inR i && inR j) = true ∧ (j - i).toNat ≤ 16777216 then .ok (.il (rngI i (j - i).toNat)) z else .no
  | _ => .no
section
variable {X : Cx} {W : WX} {st : Option Addr} {pos : Pos}
theorem fe_listRg {a b : Expr} {ma mb : ME} {p rp lp : Pos} (hc : X.calm = true) (hl : Gl X "list") (hlm : X.mg "list" = none) (hg : Gl X "range") (hm : X.mg "range" = none) (ha : RE X W st a ma) (hb : RE X W st b mb)
    (na : starEach [a, b] X.env = (false, eval a X.env) :: starEach [b] X.env := by rfl) (nb : starEach [b] X.env = (false, eval b X.env) :: starEach [] X.env := by rfl) (hp : (backTo rp (starEach [b] X.env)).any (·.1) = false := by rfl)
    (nl : starEach [.Call (.Name "range" p) [a, b] [] rp] X.env = (false, eval (.Call (.Name "range" p) [a, b] [] rp) X.env) :: starEach [] X.env := by rfl) :
    FE X W st (.Call (.Name "list" lp) [.Call (.Name "range" p) [a, b] [] rp] [] pos) (eListRg (aCons ma (aCons mb aNil))) := by
  obtain ⟨ta, pa, fa⟩ := ha
  obtain ⟨tb, pb, fb⟩ := hb
  refine ⟨_, pe_listRg hc hl hlm (prg_2 hg hm pa pb na nb hp) nl, fun H0 B Ls G S z σ H Q h hq => ?_⟩
  have hq' : Ct X W st σ H ((ma S z).bind fun x z => (mb S z).bind fun y z => (match [x, y] with
    | [.im (.int i), .im (.int j)] => if (inR i && inR j) = true ∧ (j - i).toNat ≤ 16777216 then .ok (.il (rngI i (j - i).toNat)) z else .no
    | _ => .no : Rs Val)) (fun x z' H' => ∀ v G', Own X.K H' v x G' → Stt X.K st H0 B Ls (G' ++ G) S z' σ H' → Q v H') := by
    unfold eListRg at hq
    simp only [aCons, aNil] at hq
    cases e : ma S z with
    | ok x z1 =>
      rw [e] at hq
      simp only [Rs.bind] at hq ⊢
      cases e2 : mb S z1 with
      | ok y z2 => rw [e2] at hq; exact hq
      | ex c z2 => rw [e2] at hq; exact hq
      | no => rw [e2] at hq; exact hq
    | ex c z1 => rw [e] at hq; exact hq
    | no => rw [e] at hq; exact hq
  refine fa H0 B Ls G S z σ H _ h (hq'.bind fun x z1 H1 _ x1 hz1 hq1 v hv => ?_)
  have h1 := h.grow x1 hz1
  refine fb H0 B Ls G S z1 σ H1 _ h1 (hq1.bind fun y z2 H2 _ x2 hz2 hq2 w hw => ?_)
  have h2 := h1.grow x2 hz2
  split at hq2
  · rename_i i j e
    cases e
    split at hq2
    · rename_i c
      have c1 := c.1
      simp only [Bool.and_eq_true] at c1
      obtain ⟨i1, i2⟩ := inR_ok c1.1
      obtain ⟨j1, j2⟩ := inR_ok c1.2
      refine ⟨i, j, bor_int hv, bor_int hw, ⟨i1, i2, j1, j2, c.2⟩, fun q nq => ?_⟩
      exact Ct.fin h2 hq2 (Same.upd_new nq) (.il upd_same (rep_rg i _)) (by simp) (fun a ha => by simp at ha; subst ha; exact nq)
    · exact hq2.elim
  · exact hq2.elim
theorem lcR2_rd {ms : MAs} {c : MT} {m : ME} {ti : TA} {tt : TT} {te : TE} (j : Nat)
    (fi : ∀ H0 B Ls G S z σ H Q, Stt X.K st H0 B Ls G S z σ H → Ct X W st σ H (ms S z) (fun xs z' H' => ∀ vs, BorS X.K (hid st H') vs xs → Q vs H') → ti σ H Q)
    (ft : ∀ H0 B Ls G S z σ H Q, Stt X.K st H0 B Ls G S z σ H → Ct X W0 st σ H (c S z) (fun x z' H' => Q x H') → tt σ H Q)
    (fe : ∀ H0 B Ls G S z σ H Q, Stt X.K st H0 B Ls G S z σ H → Ct X W0 st σ H (m S z) (fun x z' H' => ∀ v, Bor X.K (hid st H') v x → Q v H') → te σ H Q) :
    ∀ H0 B Ls G S z σ H Q, Stt X.K st H0 B Ls G S z σ H → Ct X W st σ H (eLcR rngT2 ms j c m S z) (fun x z' H' => ∀ v G', Own X.K H' v x G' → Stt X.K st H0 B Ls (G' ++ G) S z' σ H' → Q v H') → tLc (iRng2 ti) (gName j) tt te [j] σ H Q := by
  intro H0 B Ls G S z σ H Q h hq
  refine fi H0 B Ls G S z σ H _ h (hq.bind fun ys z1 H1 _ x1 hz1 hq1 vs hvs => ?_)
  have h1 := h.grow x1 hz1
  cases e : rngT2 ys with
  | none => rw [e] at hq1; exact hq1.elim
  | some ts =>
    rw [e] at hq1
    obtain ⟨lo, hi, rfl, cr, cr2, rfl⟩ := rng_two hvs e
    obtain ⟨c1, c2⟩ := inR_ok cr
    obtain ⟨d1, d2⟩ := inR_ok cr2
    refine ⟨lo, hi, rfl, ⟨c1, c2, d1, d2⟩, fun D nD => ?_⟩
    have sn : Same H1 (L2.upd H1 D (.lst [])) := Same.upd_new nD
    refine lc_range (lo := lo) (n := (hi - lo).toNat) (fun i H => ∃ z acc av, LcP X st H0 B Ls G S σ D (fun v H' => (∀ a o, st ≠ some a → a ≠ D → H1 a = some o → H' a = some o) → Q v H') j c m H1 ((rngI lo (hi - lo).toNat).drop i) H z acc av)
      ⟨z1, [], [], h1.add (G' := [D]) (.of_same sn) (hz1.new sn) (by simp) (fun a ha => by simp at ha; subst ha; exact nD) (fun a ha => by simp at ha; subst ha; exact ⟨_, upd_same, True.intro⟩), upd_same, .nil, fun a o _ _ e => sn a o e, lc_start h1 nD hq1 fun _ _ _ => trivial⟩
      (fun i H hi ⟨z2, acc, av, P⟩ => ?_) (fun H ⟨z2, acc, av, P⟩ => ?_)
    · rw [rngI_drop hi] at P
      exact lc_turn ft fe P (.int _)
    · rw [List.drop_eq_nil_of_le (by unfold rngI; simp)] at P
      have hq := P.q
      exact hq H av P.s P.d P.r P.k
theorem fe_lcR2 {elt tg a b : Expr} {ifs : List Expr} {scope : Scope} {x : Str} {ms : MAs} {c : MT} {m : ME} {p rp : Pos} (j : Nat) (hc : X.calm = true) (hN : X.N.Nodup) (hgl : Gl X "range") (hm : X.mg "range" = none) (ha : RA X W st [a, b] ms) (ok : BlkOk X.N X.env.scope scope [(x, j)])
    (hg : ∀ s H C cl fp, PG (Bk X scope s H C cl fp) tg (gName j)) (ht : ∀ s H C cl fp, RTs (Bk X scope s H C cl fp) W0 st ifs c) (he : ∀ s H C cl fp, RE (Bk X scope s H C cl fp) W0 st elt m)
    (hsa : starEach [a, b] X.env = [(false, eval a X.env), (false, eval b X.env)] := by rfl) (hsb : starEach [b] X.env = [(false, eval b X.env)] := by rfl) (hs : ∀ x, foldedSetIterable (.Call (.Name "range" p) [a, b] [] rp) X.env x = pure x := by intro _; rfl) :
    FE X W st (.ListComp elt [⟨tg, .Call (.Name "range" p) [a, b] [] rp, ifs, 0⟩] scope pos) (eLcR rngT2 ms j c m) := by
  obtain ⟨ti, pi, fi⟩ := ha
  obtain ⟨tt, pt, ft⟩ := rts_uni ht
  obtain ⟨te, pe, fe⟩ := re_uni he
  exact ⟨_, pe_lc hc hN (pi_range2 hgl hm pi hsa hsb) ok hg pt pe hs, lcR2_rd j fi ft fe⟩
/-! ### a fresh list that is appended to and forgotten -/
@[simp] def sAppT (mr m : ME) : MS := fun S z => (mr S z).go S fun y z => match y with
  | .il ts => (m S z).go S fun x z => match x with
    | .im _ => if ts.length < sizeLine then .nx S z else .no
    | _ => .no
  | _ => .no
theorem Stt.dropG {K : PySem.W.Frag} {H0 B H : Hp} {Ls : List (Option (V × Val))} {G : List Addr} {S : List Sv} {z : Zs} {σ : L2.St} {l : Addr} (h : Stt K st H0 B Ls (l :: G) S z σ H) : Stt K st H0 B Ls G S z σ H := by
  obtain ⟨Gs, hs, nd, fr⟩ := h.ex
  exact ⟨h.fr, h.zr, h.ble, h.z0, h.bst, fun a ha => h.gt a (.tail _ ha), h.lks, Gs, hs, (List.nodup_cons.mp nd).2, fun a ha => fr a (.tail _ ha)⟩
theorem Cs.goG {α : Type} {H0 B H : Hp} {Ls : List (Option (V × Val))} {D : Ends} {S : List Sv} {z : Zs} {σ : L2.St} {r : Rs α} {f : α → Zs → Ro} {k' : α → Zs → Hp → Prop} {l : Addr} (h : Stt X.K st H0 B Ls [l] S z σ H) (hq : Cs X W st H0 B Ls D (r.go S f))
    (g : ∀ a z1 H1, r = .ok a z1 → SameX st H H1 → Zr X.K st z1 H1 → Cs X W st H0 B Ls D (f a z1) → k' a z1 H1) : Ct X W st σ H r k' := by
  cases r with
  | ok a z => exact fun H' y hz => g a z H' rfl y hz hq
  | ex c z1 => exact fun cv d H' y hz xr => hq cv d σ H' (h.grow y hz).dropG xr
  | no => exact hq
structure ClT (X : Cx) (r : Expr) (n : Str) (ap cp : Pos) (e : Expr) : Prop where
  base : attributeBase r n X.env (eval r X.env) = eval r X.env
  few : ((backTo cp (starEach [e] X.env)).all (fun x => !x.1) && (backToKw cp (keywordEach [] X.env)).all (fun x => x.1.isSome)
      && decide (([e] : List Expr).length + ([] : List Keyword).length + (if ([] : List Keyword).isEmpty then 0 else 1) < 30)) = true
  line : (ap.endLine == cp.line) = true
  star : starEach [e] X.env = (false, eval e X.env) :: starEach [] X.env
  plain : (backTo cp (starEach [] X.env)).any (·.1) = false
theorem se_appT {r e : Expr} {mr m : ME} {ap cp : Pos} (hr : FE X W st r mr) (he : RE X W st e m) (c : ClT X r "append" ap cp e := by exact ⟨rfl, rfl, rfl, rfl, rfl⟩)
    (hs : swapsWith (.Call (.Attribute r "append" ap) [e] [] cp) none pos.line X.env = pure false := by rfl) :
    SE X W st (.Expr (.Call (.Attribute r "append" ap) [e] [] cp) pos) (sAppT mr m) := by
  obtain ⟨tr, pr, fr⟩ := hr
  obtain ⟨t, pe, f⟩ := he
  refine ⟨_, ps_expr (pe_bm PySem.F.plainAttrs_list PySem.F.slot_list_append PySem.F.type_list_append mt_append pr (pa_cons pe pa_nil c.star) c.base c.few c.line c.star c.plain) hs, fun H0 B Ls S z σ H D h hq => ?_⟩
  refine fr H0 B Ls [] S z σ H _ h (Cs.go h hq fun y z1 H1 _ x1 hz1 hq1 v G' ow h1 => ?_)
  cases y with
  | il ts =>
    obtain ⟨a, xs, rfl, rfl, e1, rt⟩ := own_il ow
    refine ⟨tyL e1, ?_⟩
    refine f H0 B Ls [a] S z1 σ H1 _ h1 (Cs.goG h1 hq1 fun x z2 H2 _ x2 hz2 hq2 w hw => ?_)
    have h2 := h1.grow x2 hz2
    cases x with
    | im u =>
      dsimp only at hq2
      split at hq2
      · rename_i hl
        have nst : st ≠ some a := by
          obtain ⟨Gs, _, _, fr⟩ := h1.ex
          exact h1.nst (fr a (by simp)).1
        have e2 := x2.k a _ nst e1
        exact ⟨a, xs, w, rfl, rfl, e2, by rw [rt.length]; exact hl, hq2 σ _ (h2.chgG (o := .lst (xs ++ [w])) e2 True.intro True.intro).dropG⟩
      · exact hq2.elim
    | _ => exact hq2.elim
  | _ => exact hq1.elim
/-! ### comprehensions with two names -/
def wipS2 (i j : Nat) (S : List Sv) : List Sv := (S.set j .un).set i .un
def lcT2 (i j : Nat) (c : MT) (m : ME) (S0 : List Sv) : List T → List T → Zs → Rs Val
  | [], acc, z => .ok (.il acc) z
  | t :: ts, acc, z => if i < S0.length ∧ j < S0.length ∧ i ≠ j then match t with
    | .tup [a, b] => match c ((S0.set i (.o (.im a))).set j (.o (.im b))) z with
      | .ok true z => match m ((S0.set i (.o (.im a))).set j (.o (.im b))) z with
        | .ok (.im u) z => if acc.length < sizeLine then lcT2 i j c m S0 ts (acc ++ [u]) z else .no
        | _ => .no
      | .ok false z => lcT2 i j c m S0 ts acc z
      | _ => .no
    | _ => .no
    else .no
structure LcP2 (X : Cx) (st : Option Addr) (H0 B : Hp) (Ls : List (Option (V × Val))) (G : List Addr) (S : List Sv) (σ : L2.St) (D : Addr) (Q : VK) (i j : Nat) (c : MT) (m : ME) (H1 : Hp) (ts : List T) (H : Hp) (z : Zs) (acc : List T) (av : List V) : Prop where
  s : Stt X.K st H0 B Ls (D :: G) S z σ H
  d : H D = some (.lst av)
  r : RepTs X.K H av acc
  k : ∀ a o, st ≠ some a → a ≠ D → H1 a = some o → H a = some o
  q : LcK X.K st H0 B Ls G S σ D Q (lcT2 i j c m (wipS2 i j S) ts acc z)
theorem set4 {α : Type} {l : List α} {i j : Nat} {u w a b : α} (n : i ≠ j) : (((l.set j u).set i w).set i a).set j b = (l.set i a).set j b := by
  rw [List.set_set, List.set_comm _ _ (Ne.symm n), List.set_set]
theorem wipe_two {σ : L2.St} {i j : Nat} {a b : Option V} (n : i ≠ j) : wipe (((wipe σ [i, j]).set i a).set j b) [i, j] = wipe σ [i, j] := by
  simp only [wipe]
  have e : ∀ {l : L2.St} {c : Option V}, ((((l.set j none).set i none).set i a).set j b).set j c = ((l.set i a).set j c) := fun {l c} => by
    rw [set4 n, List.set_set]
  rw [e, List.set_comm _ _ n, List.set_set]
theorem lc_turn2 {i j : Nat} {c : MT} {m : ME} {tt : TT} {te : TE}
    (fc : ∀ H0 B Ls G S z σ H Q, Stt X.K st H0 B Ls G S z σ H → Ct X W0 st σ H (c S z) (fun x z' H' => Q x H') → tt σ H Q)
    (fm : ∀ H0 B Ls G S z σ H Q, Stt X.K st H0 B Ls G S z σ H → Ct X W0 st σ H (m S z) (fun x z' H' => ∀ v, Bor X.K (hid st H') v x → Q v H') → te σ H Q)
    {H0 B H1 H : Hp} {Ls : List (Option (V × Val))} {G : List Addr} {S : List Sv} {σ : L2.St} {D : Addr} {Q : VK} {z : Zs} {acc ts : List T} {av : List V} {t : T} {v : V}
    (P : LcP2 X st H0 B Ls G S σ D Q i j c m H1 (t :: ts) H z acc av) (r : RepT X.K H v t) :
    gTup X.K 2 (gCons (gName i) (gCons (gName j) gNil)) v (wipe σ [i, j]) H fun σ2 H2 => wipe σ2 [i, j] = wipe σ [i, j] ∧ tt σ2 H2 fun b H3 => if b = true then te σ2 H3 fun y H4 => ∃ acc', H4 D = some (.lst acc') ∧ acc'.length < sizeLine ∧ (∃ z acc av, LcP2 X st H0 B Ls G S σ D Q i j c m H1 ts (L2.upd H4 D (.lst (acc' ++ [y]))) z acc av)
      else ∃ z acc av, LcP2 X st H0 B Ls G S σ D Q i j c m H1 ts H3 z acc av := by
  have hq := P.q
  unfold lcT2 at hq
  split at hq
  · rename_i hj
    obtain ⟨hi, hj, hn⟩ := hj
    have hi' : i < S.length := by unfold wipS2 at hi; simpa using hi
    have hj' : j < S.length := by unfold wipS2 at hj; simpa using hj
    have nD : st ≠ some D := by
      obtain ⟨Gs, _, _, fr⟩ := P.s.ex
      exact P.s.nst (fr D (by simp)).1
    split at hq
    · rename_i a b
      cases r with
      | @tup p xs _ r1 r2 =>
        cases r2 with
        | cons ra rb =>
          rename_i va vr
          cases rb with
          | cons rb rn =>
            rename_i vb vn
            cases rn
            refine ⟨p, _, rfl, r1, rfl, va, _, rfl, vb, _, rfl, rfl, wipe_two hn, ?_⟩
            have hs : Stt X.K st H0 B Ls (D :: G) (((wipS2 i j S).set i (.o (.im a))).set j (.o (.im b))) z (((wipe σ [i, j]).set i (some va)).set j (some vb)) H := by
              unfold wipS2
              simp only [wipe]
              rw [set4 hn, set4 hn]
              exact Stt.put (G' := []) (Stt.put (G' := []) P.s (.im ra) hi') (.im rb) (by simpa using hj')
            refine fc _ _ _ _ _ _ _ _ _ hs ?_
            cases ec : c (((wipS2 i j S).set i (.o (.im a))).set j (.o (.im b))) z with
            | no => rw [ec] at hq; exact hq.elim
            | ex d z1 => rw [ec] at hq; exact hq.elim
            | ok b' z1 =>
              rw [ec] at hq
              intro H3 x3 hz3
              have s3 := P.s.grow x3 hz3
              have d3 := x3.k D _ nD P.d
              have r3 := P.r.mono (x3.le P.s.zr)
              cases b' with
              | false => exact iteF ⟨z1, acc, av, s3, d3, r3, fun a o h1 h2 h3 => x3.k a o h1 (P.k a o h1 h2 h3), hq⟩
              | true =>
                refine iteT ?_
                refine fm _ _ _ _ _ _ _ _ _ (hs.grow x3 hz3) ?_
                dsimp only at hq
                cases em : m (((wipS2 i j S).set i (.o (.im a))).set j (.o (.im b))) z1 with
                | no => rw [em] at hq; exact hq.elim
                | ex d z2 => rw [em] at hq; exact hq.elim
                | ok y z2 =>
                  rw [em] at hq
                  intro H4 x4 hz4 w hw
                  cases y with
                  | im u =>
                    dsimp only at hq
                    split at hq
                    · rename_i hl
                      have s4 := s3.grow x4 hz4
                      have d4 := x4.k D _ nD d3
                      have r4 := r3.mono (x4.le s3.zr)
                      refine ⟨av, d4, by rw [r4.length]; exact hl, z2, acc ++ [u], av ++ [w], s4.chgG d4 True.intro True.intro, upd_same, ?_, fun a o h1 h2 h3 => ?_, hq⟩
                      · cases hw with
                        | im hw => exact (r4.append (.one (repT_hid hw))).mono (Le.upd_lst d4)
                      · rw [upd_ne h2]
                        exact x4.k a o h1 (x3.k a o h1 (P.k a o h1 h2 h3))
                    · exact hq.elim
                  | _ => exact hq.elim
    · exact hq.elim
  · exact hq.elim
theorem lcT2_ex {i j : Nat} {c : MT} {m : ME} {S0 : List Sv} : ∀ {ts acc : List T} {z : Zs} {e : Exc} {z' : Zs}, lcT2 i j c m S0 ts acc z ≠ .ex e z'
  | [], acc, z, e, z' => by intro h; cases h
  | t :: ts, acc, z, e, z' => by
    unfold lcT2
    intro h
    split at h
    · split at h
      · split at h
        · split at h
          · split at h
            · exact lcT2_ex h
            · cases h
          · cases h
        · exact lcT2_ex h
        · cases h
      · cases h
    · cases h
theorem lcT2_il {i j : Nat} {c : MT} {m : ME} {S0 : List Sv} : ∀ {ts acc : List T} {z : Zs} {x : Val} {z' : Zs}, lcT2 i j c m S0 ts acc z = .ok x z' → ∃ us, x = .il us
  | [], acc, z, x, z', h => by cases h; exact ⟨_, rfl⟩
  | t :: ts, acc, z, x, z', h => by
    unfold lcT2 at h
    split at h
    · split at h
      · split at h
        · split at h
          · split at h
            · exact lcT2_il h
            · cases h
          · cases h
        · exact lcT2_il h
        · cases h
      · cases h
    · cases h
theorem lc_start2 {H0 B H1 : Hp} {Ls : List (Option (V × Val))} {G : List Addr} {S : List Sv} {σ : L2.St} {Q : VK} {z1 : Zs} {D : Addr} {i j : Nat} {c : MT} {m : ME} {ts : List T} (h1 : Stt X.K st H0 B Ls G S z1 σ H1) (nD : H1 D = none)
    (hq : Ct X W st σ H1 (lcT2 i j c m (wipS2 i j S) ts [] z1) (fun x z' H' => ∀ v G', Own X.K H' v x G' → Stt X.K st H0 B Ls (G' ++ G) S z' σ H' → Q v H')) :
    LcK X.K st H0 B Ls G S σ D (fun v H' => (∀ a o, st ≠ some a → a ≠ D → H1 a = some o → H' a = some o) → Q v H') (lcT2 i j c m (wipS2 i j S) ts [] z1) := by
  cases e : lcT2 i j c m (wipS2 i j S) ts [] z1 with
  | ok x z =>
    obtain ⟨us, rfl⟩ := lcT2_il e
    rw [e] at hq
    exact fun H av hs hd r k => hq H (SameX.two h1 hs nD k) hs.zr _ [D] (.il hd r) (by simpa using hs)
  | ex d z => exact absurd e lcT2_ex
  | no => rw [e] at hq; exact hq
theorem lcW2_rd {J : It} {n : Nat} {GH : Hp → Prop} {Y : Nat → Hp → V → Hp → Prop} {ts : List T} {c : MT} {m : ME} {tt : TT} {te : TE} (i j : Nat) (w : Walk J n GH Y) (hn : n = ts.length)
    (ft : ∀ H0 B Ls G S z σ H Q, Stt X.K st H0 B Ls G S z σ H → Ct X W0 st σ H (c S z) (fun x z' H' => Q x H') → tt σ H Q)
    (fe : ∀ H0 B Ls G S z σ H Q, Stt X.K st H0 B Ls G S z σ H → Ct X W0 st σ H (m S z) (fun x z' H' => ∀ v, Bor X.K (hid st H') v x → Q v H') → te σ H Q)
    {H0 B H1 : Hp} {Ls : List (Option (V × Val))} {G : List Addr} {S : List Sv} {σ : L2.St} {Q : VK} {z1 : Zs} (h1 : Stt X.K st H0 B Ls G S z1 σ H1)
    (hG : ∀ H, Le H1 H → GH H) (hY : ∀ k H x H', k < n → Le H1 H → Y k H x H' → Same H H' ∧ ∃ t, ts[k]? = some t ∧ RepT X.K H' x t)
    (hq1 : Ct X W st σ H1 (lcT2 i j c m (wipS2 i j S) ts [] z1) (fun x z' H' => ∀ v G', Own X.K H' v x G' → Stt X.K st H0 B Ls (G' ++ G) S z' σ H' → Q v H')) {D : Addr} (nD : H1 D = none) :
    ∃ W : Nat → Nat → Hp → Prop, (∃ m, W 0 m (L2.upd H1 D (.lst []))) ∧ ∀ k m H, W k m H →
      (J.stop k H ∧ Q (.ref D) H) ∨ (J.go k H ∧ ∃ Nx : Hp → Prop, (∀ H', Nx H' → ∃ m', m' < m ∧ W (k + 1) m' H') ∧ ∀ x H', J.yld k H x H' → gTup X.K 2 (gCons (gName i) (gCons (gName j) gNil)) x (wipe σ [i, j]) H' fun σ2 H2 => wipe σ2 [i, j] = wipe σ [i, j] ∧ tt σ2 H2 fun b H3 =>
        if b = true then te σ2 H3 fun y H4 => ∃ acc, H4 D = some (.lst acc) ∧ acc.length < sizeLine ∧ Nx (L2.upd H4 D (.lst (acc ++ [y]))) else Nx H3) := by
  have hz1 := h1.zr
  have sn : Same H1 (L2.upd H1 D (.lst [])) := Same.upd_new nD
  have le : ∀ {H z acc av} {us : List T}, LcP2 X st H0 B Ls G S σ D (fun v H' => (∀ a o, st ≠ some a → a ≠ D → H1 a = some o → H' a = some o) → Q v H') i j c m H1 us H z acc av → Le H1 H := fun P => (SameX.two h1 P.s nD P.k).le hz1
  refine lc_it w (fun k H => ∃ z acc av, LcP2 X st H0 B Ls G S σ D (fun v H' => (∀ a o, st ≠ some a → a ≠ D → H1 a = some o → H' a = some o) → Q v H') i j c m H1 (ts.drop k) H z acc av)
    ⟨z1, [], [], h1.add (G' := [D]) (.of_same sn) (hz1.new sn) (by simp) (fun a ha => by simp at ha; subst ha; exact nD) (fun a ha => by simp at ha; subst ha; exact ⟨_, upd_same, True.intro⟩), upd_same, .nil, fun a o _ _ e => sn a o e, lc_start2 h1 nD hq1⟩
    (fun _ _ _ ⟨_, _, _, P⟩ => hG _ (le P)) (fun k x H H' hi ⟨z2, acc, av, P⟩ y => ?_) (fun H ⟨z2, acc, av, P⟩ => ?_)
  · obtain ⟨sm, t, et, rt⟩ := hY k H x H' hi (le P) y
    obtain ⟨hl, e2⟩ := List.getElem?_eq_some_iff.mp et
    rw [List.drop_eq_getElem_cons hl, e2] at P
    have P' : LcP2 X st H0 B Ls G S σ D (fun v H' => (∀ a o, st ≠ some a → a ≠ D → H1 a = some o → H' a = some o) → Q v H') i j c m H1 (t :: ts.drop (k + 1)) H' z2 acc av :=
      ⟨P.s.grow (.of_same sm) (P.s.zr.new sm), sm _ _ P.d, P.r.mono (Le.of_same sm), fun a o h1 h2 h3 => sm _ _ (P.k a o h1 h2 h3), P.q⟩
    exact lc_turn2 ft fe P' rt
  · rw [hn, List.drop_length] at P
    have hq := P.q
    exact hq H av P.s P.d P.r P.k
@[simp] def eLcZ (ms : MAs) (i j : Nat) (c : MT) (m : ME) : ME := fun S z => (ms S z).bind fun xs z => match xs with
  | [.im (.tup ts), .im (.tup us)] => lcT2 i j c m (wipS2 i j S) (zipT ts us) [] z
  | _ => .no
theorem fe_lcZ {elt e e2 : Expr} {elts : List Expr} {kk : Nat} {tpos p ip : Pos} {ifs : List Expr} {scope : Scope} {x y : Str} {ms : MAs} {c : MT} {m : ME} (i j : Nat) (hc : X.calm = true) (hN : X.N.Nodup) (hgl : Gl X "zip") (hm : X.mg "zip" = none) (ha : RA X W st [e, e2] ms)
    (ok : BlkOk X.N X.env.scope scope [(x, i), (y, j)])
    (hg : ∀ s H C cl fp, PG (Bk X scope s H C cl fp) (.Tuple elts kk tpos) (gTup X.K 2 (gCons (gName i) (gCons (gName j) gNil)))) (ht : ∀ s H C cl fp, RTs (Bk X scope s H C cl fp) W0 st ifs c) (he : ∀ s H C cl fp, RE (Bk X scope s H C cl fp) W0 st elt m)
    (hs0 : starEach [e, e2] X.env = (false, eval e X.env) :: starEach [e2] X.env := by rfl) (hpl : (backTo ip (starEach [e2] X.env)).any (·.1) = false := by rfl) (hs : ∀ x, foldedSetIterable (.Call (.Name "zip" p) [e, e2] [] ip) X.env x = pure x := by intro _; rfl) :
    FE X W st (.ListComp elt [⟨.Tuple elts kk tpos, .Call (.Name "zip" p) [e, e2] [] ip, ifs, 0⟩] scope pos) (eLcZ ms i j c m) := by
  obtain ⟨ti, pi, fi⟩ := ha
  obtain ⟨tt, pt, ft⟩ := rts_uni ht
  obtain ⟨te, pe, fe⟩ := re_uni he
  refine ⟨_, pe_lc hc hN (RZ.pi_zipA hgl hm pi hs0 hpl) ok hg pt pe hs, fun H0 B Ls G S z σ H Q h hq => ?_⟩
  refine fi H0 B Ls G S z σ H _ h (hq.bind fun xs z1 H1 _ x1 hz1 hq1 vs hvs => ?_)
  have g1 := h.grow x1 hz1
  split at hq1
  · rename_i ts us _
    obtain ⟨v, w, rfl, b1, b2⟩ := hvs.two
    cases bor_hid b1 with
    | im r1 =>
      cases bor_hid b2 with
      | im r2 =>
        cases r1 with
        | @tup a xs _ q1 q2 =>
          cases r2 with
          | @tup b ys _ q3 q4 =>
            refine ⟨a, b, xs, ys, rfl, .inr ⟨q1, q3, fun D nD => ?_⟩⟩
            refine lcW2_rd i j (walk_zipT rfl) (ts := zipT ts us) (by rw [zipT_length, q2.length, q4.length]) ft fe g1 (fun H le => ⟨le.sqt q1, le.sqt q3⟩) (fun k H x H' hk le y => ?_) hq1 nD
            obtain ⟨p, u, v, rfl, hp, e, e1, e2⟩ := y
            obtain ⟨t, et, rt⟩ := (q2.mono le).getV e1
            obtain ⟨t2, et2, rt2⟩ := (q4.mono le).getV e2
            subst e
            have s1 : Same H (L2.upd H p (.tup [u, v])) := Same.upd_new hp
            have le2 := Le.of_same s1
            exact ⟨s1, _, zipT_get et et2, .tup (.inl (.inl upd_same)) (.cons (rt.mono le2) (.cons (rt2.mono le2) .nil))⟩
  · exact hq1.elim
end
end MM
namespace MM
open PySem PySem.Spec PyProof.Rows L2
section
variable {X : Cx} {W : WX} {st : Option Addr} {pos : Pos}
theorem Stt.fzG {K : PySem.W.Frag} {H0 B H : Hp} {Ls : List (Option (V × Val))} {G : List Addr} {S : List Sv} {z : Zs} {σ : L2.St} {l : Addr} {o u : HO} (h : Stt K st H0 B Ls (l :: G) S z σ H) (hu : H l = some u) (mu : Mu u) : Stt K st H0 B Ls G S z σ (L2.upd H l o) := by
  obtain ⟨Gs, hs, nd, fr⟩ := h.ex
  have fl := fr l (by simp)
  obtain ⟨sx, zr⟩ := SameX.upd h o fl.1
  have nd2 := (List.nodup_cons.mp nd).1
  refine ⟨sx, zr, fun a u' q => ?_, h.z0, h.bst, fun a ha => ?_, h.lks, Gs, ?_, (List.nodup_cons.mp nd).2, fun a ha => fr a (.tail _ ha)⟩
  · rw [upd_ne (ne_of_none q fl.2)]; exact h.ble a u' q
  · rw [upd_ne (fun c => nd2 (by subst c; exact List.mem_append_left _ ha))]; exact h.gt a (.tail _ ha)
  · exact hs.mono (Le.upd_mu hu mu) fun a ha u' q => by
      rw [upd_ne (fun c => nd2 (by subst c; exact List.mem_append_right _ ha))]; exact q
/-- the end of an expression that moves the stream, whose new list is kept as it is -/
theorem Ct.finFzX {H0 B : Hp} {Ls : List (Option (V × Val))} {G : List Addr} {S : List Sv} {z z2 : Zs} {σ : L2.St} {H H1 : Hp} {Q : VK} {x : Val} (h : Stt X.K st H0 B Ls G S z σ H)
    (hq : Ct X W st σ H (fz x z2) (fun x z' H' => ∀ v G', Own X.K H' v x G' → Stt X.K st H0 B Ls (G' ++ G) S z' σ H' → Q v H')) {v : V} {G' : List Addr} (s : SameX st H H1) (hz : Zr X.K st z2 H1) (o : Own X.K H1 v x G') (nd : G'.Nodup) (fr : ∀ a ∈ G', H a = none) :
    Q v H1 ∨ ∃ a xs, v = .ref a ∧ H1 a = some (.lst xs) ∧ ∀ ob, Q v (L2.upd H1 a (.frz ob (.lst xs))) := by
  cases x with
  | im t => exact .inl (hq.okX s hz v G' o (h.add s hz nd fr o.there))
  | il ts =>
    cases o with
    | @il a xs _ ha r =>
      have fa := fr a (by simp)
      refine .inr ⟨a, xs, rfl, ha, fun ob => ?_⟩
      have le : Le H1 (L2.upd H1 a (.frz ob (.lst xs))) := Le.upd_mu ha True.intro
      have h1 : Stt X.K st H0 B Ls ([a] ++ G) S z2 σ H1 := h.add s hz nd fr (fun b hb => by simp at hb; subst hb; exact ⟨_, ha, True.intro⟩)
      have h2 : Stt X.K st H0 B Ls G S z2 σ (L2.upd H1 a (.frz ob (.lst xs))) := Stt.fzG h1 ha True.intro
      have sx : SameX st H (L2.upd H1 a (.frz ob (.lst xs))) := ⟨fun b u nb e => by rw [upd_ne (ne_of_none e fa)]; exact s.k b u nb e, fun b x r e hb => by
        obtain ⟨r', q⟩ := s.l b x r e hb
        exact ⟨r', by rw [upd_ne (ne_of_none hb fa)]; exact q⟩⟩
      exact hq.okX sx h2.zr (.ref a) [] (.im (.ls upd_same (r.mono le))) h2
  | _ => exact hq.elim
variable {k : Nat} {f : Addr} {fd : FuncData} {ps : List Str} {x : Str} {p : Pos} {es : List Expr} {ms : MAs}
theorem fe_callZFz {m : MZ} (i : Nat) {y : Str} {q : Pos} (F : FnOk X.prog X.w X.K X.mg X.base (L2.CX X.prog X.w) k f fd ps (spZ X.K X.mg m)) (hr : Room k X.A) (hg : Gl X x) (hm : X.mg x = some (.ref f)) (hk : PySem.W.keepIn X.K (.ref f) = true) (hb : Binds X.K fd ps []) (tk : Takes X W)
    (ha : RA X W st es ms) (hN : X.N[i]? = some y := by rfl) (hv : Vis X.env.scope y := by first | exact Or.inl rfl | exact Or.inr (Or.inl rfl) | exact Or.inr (Or.inr rfl)) (hd : (y == ("__debug__" : Str)) = false := by decide)
    (hcd : (y == ("__classdict__" : Str)) = false := by decide) (hdb : (x == ("__debug__" : Str)) = false := by decide) (he : starEach (.Name y q :: es) X.env = (false, eval (.Name y q) X.env) :: starEach es X.env := by rfl) (hpl : (backTo pos (starEach es X.env)).any (·.1) = false := by rfl) :
    FE X W st (.Call (.Name x p) (.Name y q :: es) [] pos) (eFz (eCallZ i m ms)) := by
  obtain ⟨t, pa, g⟩ := ha
  refine ⟨tFz (tCallS _ (WE W) (tCons (tVar i) t)), pe_fz (pe_callS F hr hg hm hk hb (fun σ => passAt tk σ) (pa_cons (pe_var hN hv hd hcd) pa he) hdb he hpl), fun H0 B Ls G S z σ H Q h hq => ?_⟩
  have hq0 : Ct X W st σ H ((match S[i]? with
    | some .s => (ms S z).bind m
    | _ => .no : Rs Val).bind fz) (fun x z' H' => ∀ v G', Own X.K H' v x G' → Stt X.K st H0 B Ls (G' ++ G) S z' σ H' → Q v H') := hq
  clear hq
  split at hq0
  · rename_i e1
    have hq := hq0
    obtain ⟨Gs, hs, _⟩ := h.ex
    obtain ⟨a, ea, est⟩ := hs.get_s e1
    refine ⟨.ref a, ea, ?_⟩
    have hq' : Ct X W st σ H ((ms S z).bind fun xs z => (m xs z).bind fz) (fun x z' H' => ∀ v G', Own X.K H' v x G' → Stt X.K st H0 B Ls (G' ++ G) S z' σ H' → Q v H') := by
      have e : ((ms S z).bind m).bind fz = ((ms S z).bind fun xs z => (m xs z).bind fz) := by cases ms S z <;> rfl
      rw [← e]; exact hq
    refine g H0 B Ls G S z σ H _ h (hq'.bind fun xs z1 H1 _ x1 hz1 hq1 vs hvs => ?_)
    have h1 := h.grow x1 hz1
    subst est
    refine ⟨a, vs, z1, xs, rfl, hz1, hvs, ?_⟩
    cases em : m xs z1 with
    | ok y z2 =>
      rw [em] at hq1
      exact fun v H' G' s hz' ow nd fr => Ct.finFzX h1 hq1 s hz' ow nd fr
    | ex c z2 =>
      rw [em] at hq1
      exact fun cv d H' s hz' xr => hq1 cv d H' s hz' xr
    | no => rw [em] at hq1; exact hq1
  · exact hq0.elim
end
end MM
namespace MM
open PySem PySem.Spec PyProof.Rows L2
/-! ### a dict == a text -/
theorem dict_eq_declines_str (l : Addr) (es : Array DictEntry) (n : Nat) (dd : Option Addr) (sl : Array (Option Value)) (b : Str) (u : Tok) :
    Meets (Builtin.«dict.__eq__» ⟨[.ref l, .str b u], []⟩) (fun _ R s => s.heap.get? l = some { cls := .type "dict", dict := dd, data := .dict es n, slots := sl } ∧ R (.ok (.ret .notImplemented)) s) :=
  .of_wp fun prog w A R s h => by obtain ⟨hp, g, d, tk, os⟩ := s; obtain ⟨hl, h⟩ := h; have f1 := F.sub_str_dict; wp_walk using wpAny_loadPart' hl; exact ⟨_, rfl, h⟩
theorem str_eq_declines_dict (b : Str) (u : Tok) (l : Addr) (es : Array DictEntry) (n : Nat) (dd : Option Addr) (sl : Array (Option Value)) :
    Meets (Builtin.«str.__eq__» ⟨[.str b u, .ref l], []⟩) (fun _ R s => s.heap.get? l = some { cls := .type "dict", dict := dd, data := .dict es n, slots := sl } ∧ R (.ok (.ret .notImplemented)) s) :=
  .of_wp fun prog w A R s h => by obtain ⟨hp, g, d, tk, os⟩ := s; obtain ⟨hl, h⟩ := h; wp_walk using wpAny_loadPart' hl, wpAny_load hl; exact ⟨_, rfl, h⟩
theorem rc_dict_str {prog : Program} {w : World} {A : Around} {s : Shared} {E Q : Value → Shared → Prop} {l : Addr} {o : Obj} {es : Array DictEntry} {n : Nat} (b : Str) (u : Tok) (ho : s.heap.get? l = some o) (hc : o.cls = .type "dict") (hd : o.data = .dict es n) (hu : A.units < cLine) (h : Q (.bool false) s) :
    wpAny (model prog w) A (richCompare .Eq (.ref l) (.str b u)) Q E s := by
  obtain ⟨cls, dd, data, sl⟩ := o
  simp only at hc hd
  subst hc hd
  exact SeqAt.rc_eq_decline_or (k := false) ⟨_, ho, rfl⟩ (typeIs_str s b u) (by decide) F.sub_str_dict F.slot_dict_eq F.slot_str_eq_refl
    (fun _ hq => call_meets F.slot_dict_eq ⟨_, ho, rfl⟩ F.entry_dict_eq (F.args_dict_eq_2 _ _) (dict_eq_declines_str l es n dd sl b u) ⟨ho, hq⟩)
    (fun _ hq => call_meets F.slot_str_eq_refl (typeIs_str s b u) F.entry_str_eq (F.args_str_eq_2 _ _) (str_eq_declines_dict b u l es n dd sl) ⟨ho, hq⟩)
    (fun _ hq => wpAny_of_eq (rfl : isSame (.ref l) (.str b u) = pure false) hq) (.inr hu) h
def rDictStr : R2 := fun x y H Q => ∃ a kvs b, x = .ref a ∧ y = .str b ∧ Rd H a (.dK kvs) ∧ Q (.bl false) H
section
variable {X : Cx} {W : WX} {st : Option Addr} {pos : Pos}
theorem op_eqDS (hu : X.A.units + 64 < cLine) : OpR X (compareOp .Eq) rDictStr := by
  intro pins s σ H x y v u Q I rx ry h
  obtain ⟨a, kvs, b, rfl, rfl, rd, q⟩ := h
  obtain rfl : v = Value.ref a := rx
  obtain ⟨t, rfl⟩ := ry
  obtain ⟨z, lo, vs, rel, dd⟩ := dk_rd I.hok rd
  obtain ⟨o, es, ep, ho, hc, hd, _⟩ := dd
  show wpAny (model X.prog X.w) X.A (richCompare .Eq (.ref a) (.str b t)) _ _ s
  exact rc_dict_str b t ho hc.1 hd (by omega) ⟨.bl false, H, I, rfl, q⟩
def oEqS (x y : Val) : Option Val := match x, y with
  | .dk _, .im (.str _) => some (.im (.bl false))
  | x, y => oEq false x y
@[simp] theorem oEqS_dk (kvs : List (Key × T)) (b : Str) : oEqS (.dk kvs) (.im (.str b)) = some (.im (.bl false)) := rfl
@[simp] theorem oEqS_im (t u : T) : oEqS (.im t) (.im u) = oEq false (.im t) (.im u) := rfl
theorem op2_eqS : Op2 X st (fun x y H Q => rEqW X.K false x y H Q ∨ rDictStr x y H Q) oEqS := by
  intro H va vb xa xb y Q ha hb e q
  unfold oEqS at e
  split at e
  · rename_i kvs b
    cases e
    obtain ⟨rfl, ok⟩ := bor_str hb
    cases ha with
    | dk hd hr => exact .inr ⟨_, _, _, rfl, rfl, rd_hid hd, q _ H [] (Same.refl H) (.im (.bl _)) List.nodup_nil (fun _ z => by cases z)⟩
  · exact .inl (op2_eq H va vb _ _ y Q ha hb e q)
theorem rt_eqS {a b : Expr} {ma mb : ME} (hu : X.A.units + 64 < cLine) (ha : RE X W st a ma) (hb : RE X W st b mb) : RT X W st (.Compare a [.Eq] [b] pos) (tCp oEqS ma mb) := rt_cmp (op_or (op_eqW hu) (op_eqDS hu)) op2_eqS ha hb
theorem fe_eqS {a b : Expr} {ma mb : ME} (hu : X.A.units + 64 < cLine) (ha : RE X W st a ma) (hb : RE X W st b mb) : FE X W st (.Compare a [.Eq] [b] pos) (eBin oEqS ma mb) := fe_cmp (op_or (op_eqW hu) (op_eqDS hu)) op2_eqS ha hb
/-! ### the greatest of three, of a list -/
@[simp] def oMax3 : List Val → Option Val
  | [.im (.int i), .im (.int j), .im (.int k)] => some (.im (.int (max (max i j) k)))
  | _ => none
theorem numax {i j : Int} : nuMax2 (.int i) (.int j) = some (.int (max i j)) := by
  show some (if decide (i < j) = true then V.int j else V.int i) = _
  by_cases c : i < j
  · rw [if_pos (decide_eq_true c), Int.max_eq_right (by omega)]
  · rw [if_neg (by simpa using c), Int.max_eq_left (by omega)]
theorem fn_max3 : Fn X st (rNuC3 nuMax3) oMax3 := by
  intro H vs xs y Q hv e q
  unfold oMax3 at e
  split at e
  · rename_i i j k
    cases e
    obtain ⟨v1, v2, v3, rfl, h1, h2, h3⟩ : ∃ v1 v2 v3, vs = [v1, v2, v3] ∧ Bor X.K (hid st H) v1 (.im (.int i)) ∧ Bor X.K (hid st H) v2 (.im (.int j)) ∧ Bor X.K (hid st H) v3 (.im (.int k)) := by
      cases hv with
      | cons h1 hv =>
        cases hv with
        | cons h2 hv =>
          cases hv with
          | cons h3 hv => cases hv; exact ⟨_, _, _, rfl, h1, h2, h3⟩
    rw [bor_int h1, bor_int h2, bor_int h3]
    refine ⟨_, _, _, .int (max (max i j) k), rfl, ?_, q _ H [] (Same.refl H) (.im (.int _)) List.nodup_nil (fun _ z => by cases z)⟩
    unfold nuMax3
    rw [numax]
    exact numax
  · cases e
@[simp] def eMax3 := eFn oMax3
theorem fe_max3 {p : Pos} {e e2 e3 : Expr} {ms : MAs} (hc : X.calm = true) (hg : Gl X "max") (hm : X.mg "max" = none) (ha : RA X W st [e, e2, e3] ms) (he : starEach [e, e2, e3] X.env = (false, eval e X.env) :: starEach [e2, e3] X.env := by rfl) (hpl : (backTo pos (starEach [e2, e3] X.env)).any (·.1) = false := by rfl) :
    FE X W st (.Call (.Name "max" p) [e, e2, e3] [] pos) (eMax3 ms) := fe_callB (call_max3Nu hc) fn_max3 hg hm (by decide +kernel) ha (he := he) (hpl := hpl)
def maxI : List Int → Int
  | [] => 0
  | n :: ns => ns.foldl max n
theorem foldl_max : ∀ (ns : List Int) (n : Int), n ≤ ns.foldl max n ∧ (∀ m ∈ ns, m ≤ ns.foldl max n) ∧ (ns.foldl max n = n ∨ ns.foldl max n ∈ ns)
  | [], n => ⟨Int.le_refl _, by simp, .inl rfl⟩
  | k :: ns, n => by
    obtain ⟨a, b, c⟩ := foldl_max ns (max n k)
    rw [List.foldl_cons]
    refine ⟨by omega, fun m hm => ?_, ?_⟩
    · rcases List.mem_cons.mp hm with rfl | hm
      · omega
      · exact b m hm
    · rcases c with c | c
      · by_cases d : n ≤ k
        · right; rw [c, Int.max_eq_right d]; simp
        · left; rw [c, Int.max_eq_left (by omega)]
      · right; simp [c]
theorem maxI_mem {ns : List Int} (h : ns ≠ []) : maxI ns ∈ ns ∧ ∀ m ∈ ns, m ≤ maxI ns := by
  cases ns with
  | nil => exact absurd rfl h
  | cons n ns =>
    obtain ⟨a, b, c⟩ := foldl_max ns n
    refine ⟨?_, fun m hm => ?_⟩
    · rcases c with c | c
      · show ns.foldl max n ∈ _; rw [c]; simp
      · exact List.mem_cons_of_mem _ c
    · rcases List.mem_cons.mp hm with rfl | hm
      · exact a
      · exact b m hm
@[simp] def oMaxL : List Val → Option Val
  | [.il ts] => match ints? ts with
    | some ns => if 0 < ns.length then some (.im (.int (maxI ns))) else none
    | none => none
  | _ => none
theorem fn_maxL : Fn X st (rMax X.K) oMaxL := by
  intro H vs xs y Q hv e q
  unfold oMaxL at e
  split at e
  · rename_i ts
    cases ei : ints? ts with
    | none => rw [ei] at e; cases e
    | some ns =>
      rw [ei] at e
      dsimp only at e
      split at e
      · rename_i hl
        cases e
        obtain ⟨v, rfl, h⟩ := hv.one
        cases h with
        | @il a ws _ h1 h2 =>
          have := ints_rep h2 ei
          subst this
          refine ⟨a, ns, rfl, .of (not_hid h1), hl, fun m hm hg => ?_⟩
          obtain ⟨k1, k2⟩ := maxI_mem (ns := ns) (List.length_pos_iff.mp hl)
          have : m = maxI ns := Int.le_antisymm (k2 m hm) (hg _ k1)
          subst this
          exact q _ H [] (Same.refl H) (.im (.int _)) List.nodup_nil (fun _ z => by cases z)
      · cases e
  · cases e
@[simp] def eMaxL := eFn oMaxL
theorem fe_maxL {p : Pos} {e : Expr} {ms : MAs} (hc : X.calm = true) (hg : Gl X "max") (hm : X.mg "max" = none) (ha : RA X W st [e] ms) (he : starEach [e] X.env = (false, eval e X.env) :: starEach [] X.env := by rfl) : FE X W st (.Call (.Name "max" p) [e] [] pos) (eMaxL ms) := fe_callB (cr_max hc) fn_maxL hg hm (by decide +kernel) ha (he := he)
/-! ### {k: v} -/
@[simp] def eDisp (mk mv : ME) : ME := fun S z => (mk S z).bind fun x z => (mv S z).bind fun y z => match x, y with
  | .im t, .im u => match t.key? with
    | some k => .ok (.dk [(k, u)]) z
    | none => .no
  | _, _ => .no
theorem fe_disp {a b : Expr} {ma mb : ME} (ha : RE X W st a ma) (hb : RE X W st b mb) : FE X W st (.Dict [some a] [b] pos) (eDisp ma mb) := by
  obtain ⟨ta, pa, fa⟩ := ha
  obtain ⟨tb, pb, fb⟩ := hb
  refine ⟨_, pe_disp (pps_cons pa pb pps_nil) rfl rfl (by simp) (by simp), fun H0 B Ls G S z σ H Q h hq D nD => ?_⟩
  have sn : Same H (L2.upd H D (.dK [])) := Same.upd_new nD
  have h0 : Stt X.K st H0 B Ls ([D] ++ G) S z σ (L2.upd H D (.dK [])) := h.add (.of_same sn) (h.zr.new sn) (by simp) (fun a ha => by simp at ha; subst ha; exact nD) (fun a ha => by simp at ha; subst ha; exact ⟨_, upd_same, True.intro⟩)
  have nst : st ≠ some D := h.zr.free nD
  unfold eDisp at hq
  refine fa _ _ _ _ _ _ _ _ _ h0 ?_
  cases e1 : ma S z with
  | no => rw [e1] at hq; exact hq.elim
  | ex c z1 => rw [e1] at hq; exact fun cv d H' y => hq cv d H' ((SameX.of_same sn).trans y)
  | ok x z1 =>
    rw [e1] at hq
    intro H1 x1 hz1 v hv
    have h1 := h0.grow x1 hz1
    refine fb _ _ _ _ _ _ _ _ _ h1 ?_
    simp only [Rs.bind] at hq
    cases e2 : mb S z1 with
    | no => rw [e2] at hq; exact hq.elim
    | ex c z2 => rw [e2] at hq; exact fun cv d H' y => hq cv d H' (((SameX.of_same sn).trans x1).trans y)
    | ok y z2 =>
      rw [e2] at hq
      intro H2 x2 hz2 w hw
      have h2 := h1.grow x2 hz2
      have d2 : H2 D = some (.dK []) := x2.k D _ nst (x1.k D _ nst upd_same)
      dsimp only at hq
      split at hq
      · rename_i t u
        split at hq
        · rename_i k ek
          cases hv with
          | im hv =>
            cases hw with
            | im hw =>
              have rk := rep_key (repT_hid hv) ek
              have rw' := repT_hid hw
              refine ⟨d2, [(k, w)], by simp [rk], by simp, ?_⟩
              have s3 := h2.chgG (o := .dK [(k, w)]) d2 True.intro True.intro
              have le : Le H2 (L2.upd H2 D (.dK [(k, w)])) := Le.upd_dK d2
              have sx := SameX.two h s3 nD fun b o n1 n2 e => by
                rw [upd_ne n2]
                exact x2.k b o n1 (x1.k b o n1 (sn b o e))
              exact hq _ sx s3.zr (.ref D) [D] (.dk upd_same ⟨rfl, .one (rw'.mono le)⟩) s3
        · exact hq.elim
      · exact hq.elim
/-! ### {k: v, l: w} -/
@[simp] def eDisp2 (mk mv mk2 mv2 : ME) : ME := fun S z => (mk S z).bind fun x z => (mv S z).bind fun y z => (mk2 S z).bind fun x2 z => (mv2 S z).bind fun y2 z => match x, y, x2, y2 with
  | .im t, .im u, .im t2, .im u2 => match t.key?, t2.key? with
    | some k, some k2 => if k = k2 then .no else .ok (.dk [(k, u), (k2, u2)]) z
    | _, _ => .no
  | _, _, _, _ => .no
theorem merge2 {k k2 : Key} {v w : V} (ne : k ≠ k2) : mergeK [] [(k, v), (k2, w)] = [(k, v), (k2, w)] := by
  simp only [mergeK, List.foldl, putK]
  simp [ne, ne.symm]
theorem fe_disp2 {a b a2 b2 : Expr} {ma mb ma2 mb2 : ME} (ha : RE X W st a ma) (hb : RE X W st b mb) (ha2 : RE X W st a2 ma2) (hb2 : RE X W st b2 mb2) : FE X W st (.Dict [some a, some a2] [b, b2] pos) (eDisp2 ma mb ma2 mb2) := by
  obtain ⟨ta, pa, fa⟩ := ha
  obtain ⟨tb, pb, fb⟩ := hb
  obtain ⟨ta2, pa2, fa2⟩ := ha2
  obtain ⟨tb2, pb2, fb2⟩ := hb2
  refine ⟨_, pe_disp (pps_cons pa pb (pps_cons pa2 pb2 pps_nil)) rfl rfl (by simp) (by simp), fun H0 B Ls G S z σ H Q h hq D nD => ?_⟩
  have sn : Same H (L2.upd H D (.dK [])) := Same.upd_new nD
  have h0 : Stt X.K st H0 B Ls ([D] ++ G) S z σ (L2.upd H D (.dK [])) := h.add (.of_same sn) (h.zr.new sn) (by simp) (fun a ha => by simp at ha; subst ha; exact nD) (fun a ha => by simp at ha; subst ha; exact ⟨_, upd_same, True.intro⟩)
  have nst : st ≠ some D := h.zr.free nD
  unfold eDisp2 at hq
  refine fa _ _ _ _ _ _ _ _ _ h0 ?_
  cases e1 : ma S z with
  | no => rw [e1] at hq; exact hq.elim
  | ex c z1 => rw [e1] at hq; exact fun cv d H' y => hq cv d H' ((SameX.of_same sn).trans y)
  | ok x z1 =>
    rw [e1] at hq
    intro H1 x1 hz1 v hv
    have h1 := h0.grow x1 hz1
    refine fb _ _ _ _ _ _ _ _ _ h1 ?_
    simp only [Rs.bind] at hq
    cases e2 : mb S z1 with
    | no => rw [e2] at hq; exact hq.elim
    | ex c z2 => rw [e2] at hq; exact fun cv d H' y => hq cv d H' (((SameX.of_same sn).trans x1).trans y)
    | ok y z2 =>
      rw [e2] at hq
      intro H2 x2 hz2 w hw
      have h2 := h1.grow x2 hz2
      refine fa2 _ _ _ _ _ _ _ _ _ h2 ?_
      simp only [Rs.bind] at hq
      cases e3 : ma2 S z2 with
      | no => rw [e3] at hq; exact hq.elim
      | ex c z3 => rw [e3] at hq; exact fun cv d H' y => hq cv d H' ((((SameX.of_same sn).trans x1).trans x2).trans y)
      | ok x' z3 =>
        rw [e3] at hq
        intro H3 x3 hz3 v2 hv2
        have h3 := h2.grow x3 hz3
        refine fb2 _ _ _ _ _ _ _ _ _ h3 ?_
        simp only [Rs.bind] at hq
        cases e4 : mb2 S z3 with
        | no => rw [e4] at hq; exact hq.elim
        | ex c z4 => rw [e4] at hq; exact fun cv d H' y => hq cv d H' (((((SameX.of_same sn).trans x1).trans x2).trans x3).trans y)
        | ok y' z4 =>
          rw [e4] at hq
          intro H4 x4 hz4 w2 hw2
          have h4 := h3.grow x4 hz4
          have d4 : H4 D = some (.dK []) := x4.k D _ nst (x3.k D _ nst (x2.k D _ nst (x1.k D _ nst upd_same)))
          replace hw := hw.mono (x3.trans x4).hid
          dsimp only at hq
          split at hq
          · rename_i t u t2 u2
            split at hq
            · rename_i k k2 ek ek2
              split at hq
              · exact hq.elim
              · rename_i ne
                cases hv with
                | im hv =>
                  cases hw with
                  | im hw =>
                    cases hv2 with
                    | im hv2 =>
                      cases hw2 with
                      | im hw2 =>
                        have rk := rep_key (repT_hid hv) ek
                        have rk2 := rep_key (repT_hid hv2) ek2
                        have rw' := repT_hid hw
                        have rw2 := repT_hid hw2
                        refine ⟨d4, [(k, w), (k2, w2)], by simp [rk, rk2], by simp, ?_⟩
                        rw [merge2 ne]
                        have s5 := h4.chgG (o := .dK [(k, w), (k2, w2)]) d4 True.intro True.intro
                        have le : Le H4 (L2.upd H4 D (.dK [(k, w), (k2, w2)])) := Le.upd_dK d4
                        have sx := SameX.two h s5 nD fun b o n1 n2 e => by
                          rw [upd_ne n2]
                          exact x4.k b o n1 (x3.k b o n1 (x2.k b o n1 (x1.k b o n1 (sn b o e))))
                        exact hq _ sx s5.zr (.ref D) [D] (.dk upd_same ⟨rfl, .cons (rw'.mono le) (.one (rw2.mono le))⟩) s5
            · exact hq.elim
          · exact hq.elim
/-! ### a, b = x, y -/
@[simp] def sPar (i j : Nat) (ms : MAs) : MS := fun S z => (ms S z).go S fun xs z => match xs with
  | [.im t, .im u] => if i < S.length ∧ j < S.length then .nx ((S.set i (.o (.im t))).set j (.o (.im u))) z else .no
  | _ => .no
theorem se_par (i j : Nat) {x y : Str} {a b : Expr} {ms : MAs} {px py pt : Pos} {kt k2 pt2} (hc : X.calm = true) (hN : X.N.Nodup) (ha : RA X W st [a, b] ms) (hij : i ≠ j := by decide) (hi : X.N[i]? = some x := by rfl) (hj : X.N[j]? = some y := by rfl)
    (hx : X.env.scope.names.lookup x = some .local := by rfl) (hy : X.env.scope.names.lookup y = some .local := by rfl)
    (hw : swappedStores [.Tuple [.Name x px, .Name y py] kt pt] (.Tuple [a, b] k2 pt2) X.env = pure (some [x, y]) := by rfl)
    (hs : swapsWithSole [.Tuple [.Name x px, .Name y py] kt pt] (.Tuple [a, b] k2 pt2) pos.line X.env = pure false := by rfl) :
    SE X W st (.Assign [.Tuple [.Name x px, .Name y py] kt pt] (.Tuple [a, b] k2 pt2) pos) (sPar i j ms) := by
  obtain ⟨t, p, f⟩ := ha
  refine ⟨_, ps_par hc hN hi hj hij hx hy p hw hs, fun H0 B Ls S z σ H D h hq => ?_⟩
  refine f H0 B Ls [] S z σ H _ h (Cs.go h hq fun xs z1 H1 _ x1 hz1 hq1 vs hvs => ?_)
  have h1 := h.grow x1 hz1
  split at hq1
  · split at hq1
    · rename_i hl
      obtain ⟨v, w, rfl, b1, b2⟩ := hvs.two
      cases b1 with
      | im r1 =>
        cases b2 with
        | im r2 =>
          refine ⟨v, w, rfl, hq1 _ _ ?_⟩
          exact Stt.put (G' := []) (Stt.put (G' := []) h1 (.im (repT_hid r1)) hl.1) (.im (repT_hid r2)) (by simpa using hl.2)
    · exact hq1.elim
  · exact hq1.elim
/-! ### xs[::-1] -/
@[simp] def eRevL (m : ME) : ME := fun S z => (m S z).bind fun x z => match x with
  | .il ts => .ok (.il ts.reverse) z
  | _ => .no
theorem reps_rev {K : PySem.W.Frag} {H : Hp} : ∀ {ts : List T} {vs : List V}, RepTs K H vs ts → RepTs K H vs.reverse ts.reverse
  | [], _, h => by cases h; exact .nil
  | t :: ts, _, h => by
    cases h with
    | cons h1 h2 =>
      rw [List.reverse_cons, List.reverse_cons]
      exact (reps_rev h2).append (.one h1)
theorem fe_revL {e : Expr} {m : ME} {k : Nat} {p1 p2 p3 : Pos} (he : RE X W st e m) : FE X W st (.Subscript e (.Slice none none (some (.UnaryOp .USub (.Constant (.int 1) k p1) p2)) p3) pos) (eRevL m) := by
  obtain ⟨t, p, f⟩ := he
  refine ⟨_, pe_revL p, fun H0 B Ls G S z σ H Q h hq => ?_⟩
  refine f H0 B Ls G S z σ H _ h (hq.bind fun x z1 H1 _ x1 hz1 hq1 v hv => ?_)
  have h1 := h.grow x1 hz1
  split at hq1
  · rename_i ts _
    cases hv with
    | @il a xs _ r1 r2 =>
      refine ⟨a, xs, rfl, .of (not_hid r1), fun q nq => ?_⟩
      have sn : Same H1 (L2.upd H1 q (.lst xs.reverse)) := Same.upd_new nq
      exact Ct.fin h1 hq1 sn (.il upd_same ((reps_rev (rep_hid r2)).mono (Le.of_same sn))) (by simp) (fun a ha => by simp at ha; subst ha; exact nq)
  · exact hq1.elim
end
end MM
namespace MM
open PySem PySem.Spec PyProof.Rows L2
section
variable {X : Cx} {W : WX} {st : Option Addr} {pos : Pos}
theorem ps_setDc {i : Nat} {y : Str} {py : Pos} {kx vx tg iter : Expr} {ifs : List Expr} {scope : Scope} {own : List (Str × Nat)} {pos spos : Pos} {wi : TI} {g : TG} {tt : TT} {tk tv : TE} (hc : X.calm = true) (hN : X.N.Nodup) (hy : X.N[i]? = some y) (hyl : X.env.scope.names.lookup y = some .local)
    (hsw : swapsWith (.DictComp kx vx [⟨tg, iter, ifs, 0⟩] scope pos) (some (.Name y py)) spos.line X.env = pure true) (hi : PI X tg iter wi) (ok : BlkOk X.N X.env.scope scope own)
    (hg : ∀ (s : Shared) (H : Hp) (C : Addr) (cl : List (Str × Addr)) (fp : List Addr), PG (X.blk s H scope (compEnvC scope cl C X.env) fp) tg g) (ht : ∀ (s : Shared) (H : Hp) (C : Addr) (cl : List (Str × Addr)) (fp : List Addr), PTs (X.blk s H scope (compEnvC scope cl C X.env) fp) ifs tt)
    (hk : ∀ (s : Shared) (H : Hp) (C : Addr) (cl : List (Str × Addr)) (fp : List Addr), PE (X.blk s H scope (compEnvC scope cl C X.env) fp) kx tk)
    (he : ∀ (s : Shared) (H : Hp) (C : Addr) (cl : List (Str × Addr)) (fp : List Addr), PE (X.blk s H scope (compEnvC scope cl C X.env) fp) vx tv) (hs : ∀ x, foldedSetIterable iter X.env x = pure x := by intro _; rfl) :
    PS X (.Assign [.Name y py] (.DictComp kx vx [⟨tg, iter, ifs, 0⟩] scope pos) spos) (tAsg (tDc wi g tt tk tv (own.map (·.2))) (gName i)) := by
  refine ⟨fun pins s σ H D I h => ?_⟩
  rw [exec_Assign_Name_used _ _ _ _ hsw]
  refine wpAny_bind (wpAny_standAt (wpAny_bind ?_))
  show wpAny _ X.A (do let _ ← comprehension (.DictComp kx vx [⟨tg, iter, ifs, 0⟩] scope pos) scope X.env (firstIterPos [⟨tg, iter, ifs, 0⟩] pos) newDict false (eval iter X.env) (some (assign (.Name y py) X.env))) _ _ s
  have h : tDc wi g tt tk tv (own.map (·.2)) σ H (fun x H1 => gName i x σ H1 D.nx) := h
  refine wpAny_bind (thn (dc_core (Qf := fun _ s' => SP X pins D .next s') hc hN I hi ok hg ht hk he hs h fun L C s' m H' I' q hn f => ?_) fun _ s' hq => wpAny_pure (wpAny_pure hq))
  show wpAny _ _ (assign (.Name y py) X.env (.ref L)) _ _ _
  refine wpAny_assign_Name (store_ok2 (v := V.ref L) I' hN hy (.inl hyl) rfl (fun s2 I2 ⟨a, sb, ha⟩ => ?_) (.inr hyl))
  obtain ⟨f0, f1, f2, f3, f4, f5⟩ := f
  have haC : C ≠ a := by
    rcases ha with z | z
    · rw [z]; exact f1
    · exact fun e => f4 y a z e.symm
  refine ⟨m, hn.sameBut sb haC, fun h3 sb3 => ?_⟩
  exact ⟨_, H', I2.turned (t' := s2.toks) (fun b o hb e => (sb3.2 b hb).trans e) f0 f1 f3 f4 f5, q⟩
theorem sw_trueD {kx vx : Expr} {gs : List Comprehension} {scope : Scope} {pos py : Pos} {y : Str} {l : Nat} {env : Env} (hk : env.scope.kind = .function) (hy : env.scope.names.lookup y = some .local) (hl : (py.line == pos.line) = true)
    (ha : (scope.names.any fun (n, k) => n == y && (k == .local || k == .cell)) = false) : swapsWith (.DictComp kx vx gs scope pos) (some (.Name y py)) l env = pure true := by
  have ky : env.kindOf y = some .local := hy
  have hb : env.blockKind = .function := by unfold Env.blockKind; rw [hk]; rfl
  unfold swapsWith
  simp only [hb, ky, ha, Expr.pos, hl]
  rfl
theorem se_setDcD (k i : Nat) {ek ev tg : Expr} {ifs : List Expr} {scope : Scope} {x d y : Str} {xp py lp : Pos} {c : MT} {mk mv : ME} (j : Nat) (hc : X.calm = true) (hN : X.N.Nodup) (hy : X.N[k]? = some y) (hyl : X.env.scope.names.lookup y = some .local)
    (hsw : swapsWith (.DictComp ek ev [⟨tg, .Name d xp, ifs, 0⟩] scope lp) (some (.Name y py)) pos.line X.env = pure true) (ok : BlkOk X.N X.env.scope scope [(x, j)])
    (hg : ∀ s H C cl fp, PG (Bk X scope s H C cl fp) tg (gName j)) (ht : ∀ s H C cl fp, RTs (Bk X scope s H C cl fp) W0 st ifs c) (hk : ∀ s H C cl fp, RE (Bk X scope s H C cl fp) W0 st ek mk) (he : ∀ s H C cl fp, RE (Bk X scope s H C cl fp) W0 st ev mv)
    (hi : X.N[i]? = some d := by rfl) (hv : Vis X.env.scope d := by first | exact Or.inl rfl | exact Or.inr (Or.inl rfl) | exact Or.inr (Or.inr rfl)) (hd : (d == ("__debug__" : Str)) = false := by decide) (hcd : (d == ("__classdict__" : Str)) = false := by decide)
    (hs : ∀ x, foldedSetIterable (.Name d xp) X.env x = pure x := by intro _; rfl) : SE X W st (.Assign [.Name y py] (.DictComp ek ev [⟨tg, .Name d xp, ifs, 0⟩] scope lp) pos) (sSet k (eDcD i j c mk mv)) := by
  obtain ⟨tt, pt, ft⟩ := rts_uni ht
  obtain ⟨tk, pk, fk⟩ := re_uni hk
  obtain ⟨te, pe, fe⟩ := re_uni he
  have p0 := ps_setDc hc hN hy hyl hsw (pi_keys (tg := tg) (pe_var (X := X) (pos := xp) hi hv hd hcd)) ok hg pt pk pe hs (pos := lp) (spos := pos)
  refine ⟨fun D σ H => tLockE (tDc (iKeys (tVar i)) (gName j) tt tk te [j]) σ H (fun v H1 => gName k v σ H1 D.nx) ∨ tDc (iKeys (tVar i)) (gName j) tt tk te [j] σ H (fun v H1 => gName k v σ H1 D.nx), ?_, fun H0 B Ls S z σ H D h hq => ?_⟩
  · exact ⟨fun pins s σ H D I hw => hw.elim (fun q => (ps_lock p0).run pins s σ H D I (let ⟨d, u, h1, h2, h3⟩ := q; ⟨d, u, h1, h2, fun od => h3 od⟩)) fun q => p0.run pins s σ H D I q⟩
  · unfold sSet at hq
    split at hq
    · rename_i hl
      refine dcD_rd i j ft fk fe H0 B Ls [] S z σ H _ h (Cs.go h hq fun y z1 H1 _ x1 hz1 hq1 v G' ow h1 => ?_)
      exact hq1 _ H1 (h1.put ow hl)
    · exact hq.elim
end
end MM
namespace MM
open PySem PySem.Spec PyProof.Rows L2
section
variable {X : Cx} {W : WX} {st : Option Addr} {pos : Pos}
/-- return a if c else x: a slot goes with all it owns -/
theorem se_retIfV (i : Nat) {c a : Expr} {mc : MT} {ma : ME} {x : Str} {p ip : Pos} (hc : RT X W st c mc) (ha : FE X W st a ma) (hN : X.N[i]? = some x := by rfl) (hv : Vis X.env.scope x := by first | exact Or.inl rfl | exact Or.inr (Or.inl rfl) | exact Or.inr (Or.inr rfl)) (hd : (x == ("__debug__" : Str)) = false := by decide)
    (hcd : (x == ("__classdict__" : Str)) = false := by decide) : SE X W st (.Return (some (.IfExp c a (.Name x p) ip)) pos) (sIf mc (sRet ma) (sRetV i)) := by
  obtain ⟨t, pt, f⟩ := hc
  obtain ⟨ta, pa, fa⟩ := ha
  refine ⟨tRet (tIf t ta (tVar i)), ps_ret (pe_ifExp pt pa (pe_var hN hv hd hcd)), fun H0 B Ls S z σ H D h hq => ?_⟩
  refine f H0 B Ls [] S z σ H _ h (Cs.go h hq fun k z1 H1 _ x1 hz1 hq1 => ?_)
  have h1 := h.grow x1 hz1
  cases k with
  | true =>
    rw [if_pos rfl] at hq1
    refine iteT (fa H0 B Ls [] S z1 σ H1 _ h1 (Cs.go h1 hq1 fun x z2 H2 _ x2 hz2 hq2 v G' ow h2 => ?_))
    obtain ⟨Gs, hs, nd, fr⟩ := h2.ex
    rw [List.append_nil] at nd fr
    exact hq2 v H2 G' h2.fr h2.ble hz2 ow (List.nodup_append.mp nd).1 fun a ha => (fr a (List.mem_append_left _ ha)).1
  | false =>
    rw [if_neg (by simp)] at hq1
    refine iteF ?_
    obtain ⟨Gs, hs, nd, fr⟩ := h1.ex
    rw [List.nil_append] at nd fr
    unfold sRetV at hq1
    split at hq1
    · rename_i y e
      obtain ⟨v, G1, Ga, Gb, e1, ow, eg, _⟩ := hs.get_o e
      refine ⟨v, e1, hq1 v H1 G1 h1.fr h1.ble h1.zr ow ?_ fun a ha => (fr a (by rw [eg]; simp [ha])).1⟩
      rw [eg] at nd
      exact (List.nodup_append.mp (List.nodup_append.mp nd).1).2.1
    · rename_i t e
      obtain ⟨v, e1, bw⟩ := hs.get_b e
      cases bw with
      | im r => exact ⟨v, e1, hq1 v H1 [] h1.fr h1.ble h1.zr (.im ((r.mono (Le.of_same h1.fr.hid)).mono (Le.of_same (hid_same st H1)))) List.nodup_nil (fun _ z => by cases z)⟩
    · rename_i t e
      obtain ⟨v, e1, el⟩ := hs.get_lk e
      cases h1.lks i v _ el with
      | im r => exact ⟨v, e1, hq1 v H1 [] h1.fr h1.ble h1.zr (.im (r.mono (Le.of_same h1.ble))) List.nodup_nil (fun _ z => by cases z)⟩
    · exact hq1.elim
end
end MM
namespace MM
open PySem PySem.Spec PyProof.Rows L2
/-! ### *xs within a list display -/
@[simp] def aStar (m : ME) (ms : MAs) : MAs := fun S z => (m S z).bind fun x z => match items x with
  | some ts => (ms S z).bind fun ys z => .ok (ts.map .im ++ ys) z
  | none => .no
theorem bors_of {K : PySem.W.Frag} {H : Hp} : ∀ {ts : List T} {vs : List V}, RepTs K H vs ts → BorS K H vs (ts.map Val.im)
  | [], _, h => by cases h; exact .nil
  | t :: ts, _, h => by cases h with | cons h1 h2 => exact .cons (.im h1) (bors_of h2)
theorem bors_app {K : PySem.W.Frag} {H : Hp} : ∀ {xs ys : List Val} {vs ws : List V}, BorS K H vs xs → BorS K H ws ys → BorS K H (vs ++ ws) (xs ++ ys)
  | _, _, _, _, .nil, h => h
  | _, _, _, _, .cons a r, h => .cons a (bors_app r h)
section
variable {X : Cx} {W : WX} {st : Option Addr} {pos : Pos}
theorem ra_star {e : Expr} {es : List Expr} {m : ME} {ms : MAs} {p : Pos} (he : RE X W st e m) (hr : RA X W st es ms) (hs : starEach (.Starred e p :: es) X.env = (true, eval e X.env) :: starEach es X.env := by rfl) : RA X W st (.Starred e p :: es) (aStar m ms) := by
  obtain ⟨t, p, f⟩ := he
  obtain ⟨ts, ps, fs⟩ := hr
  refine ⟨_, StX.pa_star p ps hs, fun H0 B Ls G S z σ H Q h hq => ?_⟩
  refine f H0 B Ls G S z σ H _ h (hq.bind fun x z1 H1 _ x1 hz1 hq1 v hv => ?_)
  have h1 := h.grow x1 hz1
  have fin : ∀ {us : List T} {a : Addr} {xs : List V}, items x = some us → v = .ref a → (SqT X.K H1 a xs ∨ SqL X.K H1 a xs) → RepTs X.K (hid st H1) xs us → ∃ p xs, v = V.ref p ∧ (SqT X.K H1 p xs ∨ SqL X.K H1 p xs) ∧ ts σ H1 fun ys H2 => Q (xs ++ ys) H2 := fun {us a xs} ei ev hx hr => by
    rw [ei] at hq1
    refine ⟨a, xs, ev, hx, fs H0 B Ls G S z1 σ H1 _ h1 (hq1.bind fun ys z2 H2 _ x2 hz2 hq2 ws hws => ?_)⟩
    exact hq2.ok hz2 (xs ++ ws) (bors_app (bors_of (hr.mono (Le.of_same x2.hid))) hws)
  cases x with
  | im u =>
    cases u with
    | tup us =>
      cases hv with
      | im hv =>
        cases hv with
        | tup r1 r2 => exact fin rfl rfl (.inl (sqt_hid r1)) r2
    | _ => exact hq1.elim
  | il us =>
    cases hv with
    | il r1 r2 => exact fin rfl rfl (.inr (.of (not_hid r1))) r2
  | _ => exact hq1.elim
/-! ### what a slot owns is taken out of it -/
theorem Stt.take {K : PySem.W.Frag} {H0 B H : Hp} {Ls : List (Option (V × Val))} {G : List Addr} {S : List Sv} {z : Zs} {σ : L2.St} (h : Stt K st H0 B Ls G S z σ H) {i : Nat} {x : Val} (e : S[i]? = some (.o x)) :
    ∃ v G1, σ[i]? = some (some v) ∧ Own K H v x G1 ∧ Stt K st H0 B Ls (G1 ++ G) (S.set i .un) z σ H := by
  obtain ⟨Gs, hs, nd, fr⟩ := h.ex
  obtain ⟨v, G1, Ga, Gb, e1, o1, eg, put⟩ := hs.get_o e
  have li : i < Ls.length := by
    have h2 : Ls.length = S.length := hs.lengthL
    rw [h2]
    exact (List.getElem?_eq_some_iff.mp e).1
  have put' := put (hid st H0) H Ls[i] .un (some v) [] (fun _ _ q => q) (Le.of_same (Same.refl H)) (fun _ _ _ q => q) (.un .nil)
  have es : σ.set i (some v) = σ := by
    apply List.ext_getElem?
    intro k
    rw [List.getElem?_set]
    split
    · rename_i c
      subst c
      split
      · exact e1.symm
      · rename_i c; rw [List.getElem?_eq_none (by omega)]
    · rfl
  have el : Ls.set i Ls[i] = Ls := by simp
  rw [es, el] at put'
  have pm : List.Perm (G ++ Gs) (G1 ++ G ++ (Ga ++ [] ++ Gb)) := by
    rw [eg, List.append_nil]
    have : List.Perm (Ga ++ G1 ++ Gb) (G1 ++ (Ga ++ Gb)) := by
      rw [List.append_assoc]
      exact (List.perm_append_comm_assoc Ga G1 Gb)
    refine (List.Perm.append_left G this).trans ?_
    rw [← List.append_assoc, ← List.append_assoc, ← List.append_assoc, List.append_assoc G1, List.append_assoc (G ++ G1), List.append_assoc G1]
    refine List.Perm.trans ?_ (List.Perm.refl _)
    have q : List.Perm (G ++ G1) (G1 ++ G) := List.perm_append_comm
    have := List.Perm.append_right (Ga ++ Gb) q
    simpa [List.append_assoc] using this
  refine ⟨v, G1, e1, o1, h.fr, h.zr, h.ble, h.z0, h.bst, fun a ha => ?_, h.lks, _, put', pm.nodup_iff.mp nd, fun a ha => fr a (pm.mem_iff.mpr ha)⟩
  rcases List.mem_append.mp ha with q | q
  · exact o1.there a q
  · exact h.gt a q
/-- x = y, and y is used no more -/
@[simp] def sMov (i j : Nat) : MS := fun S z => match S[j]? with
  | some (.o x) => if i < S.length ∧ i ≠ j then .nx ((S.set j .un).set i (.o x)) z else .no
  | _ => .no
theorem se_mov (i j : Nat) {x y : Str} {px py : Pos} (hnd : X.N.Nodup) (hx : Loc X.env.scope x) (hi : X.N[i]? = some x := by rfl) (hj : X.N[j]? = some y := by rfl) (hv : Vis X.env.scope y := by first | exact Or.inl rfl | exact Or.inr (Or.inl rfl) | exact Or.inr (Or.inr rfl)) (hd : (y == ("__debug__" : Str)) = false := by decide)
    (hcd : (y == ("__classdict__" : Str)) = false := by decide) (hf : X.fn x = true ∨ X.env.scope.names.lookup x = some .local := by first | exact .inl rfl | exact .inr rfl)
    (hs : swapsWithSole [.Name x px] (.Name y py) pos.line X.env = pure false := by rfl) (hw : swappedStores [.Name x px] (.Name y py) X.env = pure none := by rfl) : SE X W st (.Assign [.Name x px] (.Name y py) pos) (sMov i j) := by
  refine ⟨_, ps_asg (pe_var (X := X) (pos := py) hj hv hd hcd) (pg_name (pos := px) hnd hi hx hf) hs hw, fun H0 B Ls S z σ H D h hq => ?_⟩
  unfold sMov at hq
  split at hq
  · rename_i u e
    split at hq
    · rename_i hl
      obtain ⟨v, G1, e1, ow, h2⟩ := h.take e
      exact ⟨v, e1, hq _ _ (Stt.put (G' := G1) (G := []) (by simpa using h2) ow (by simpa using hl.1))⟩
    · exact hq.elim
  · exact hq.elim
/-! ### a pair with a slot in it is given back -/
@[simp] def sRetT (m : ME) (j : Nat) : MS := fun S z => (m S z).go S fun x z => match x, S[j]? with
  | .im t, some (.o y) => .rt (.tup [.im t, y]) z
  | _, _ => .no
theorem se_retT (j : Nat) {a : Expr} {y : Str} {p tp : Pos} {kk : Nat} {m : ME} (ha : RE X W st a m) (hj : X.N[j]? = some y := by rfl) (hv : Vis X.env.scope y := by first | exact Or.inl rfl | exact Or.inr (Or.inl rfl) | exact Or.inr (Or.inr rfl)) (hd : (y == ("__debug__" : Str)) = false := by decide)
    (hcd : (y == ("__classdict__" : Str)) = false := by decide) (hs : starEach [a, .Name y p] X.env = (false, eval a X.env) :: starEach [.Name y p] X.env := by rfl) (hs2 : starEach [.Name y p] X.env = (false, eval (.Name y p) X.env) :: starEach [] X.env := by rfl) :
    SE X W st (.Return (some (.Tuple [a, .Name y p] kk tp)) pos) (sRetT m j) := by
  obtain ⟨t, pa, f⟩ := ha
  refine ⟨_, ps_ret (pe_tup (pa_cons pa (pa_cons (pe_var (X := X) (pos := p) hj hv hd hcd) pa_nil hs2) hs)), fun H0 B Ls S z σ H D h hq => ?_⟩
  unfold sRetT at hq
  refine f H0 B Ls [] S z σ H _ h (Cs.go h hq fun x z1 H1 _ x1 hz1 hq1 v hv => ?_)
  have h1 := h.grow x1 hz1
  cases x with
  | im u =>
    cases e : S[j]? with
    | none => rw [e] at hq1; exact hq1.elim
    | some sv =>
      rw [e] at hq1
      cases sv with
      | o y =>
        obtain ⟨v2, G1, e1, ow, h2⟩ := h1.take e
        cases hv with
        | im r =>
          have rv := repT_hid r
          refine ⟨v2, e1, by simp, fun q nq => ?_⟩
          have sn : Same H1 (L2.upd H1 q (.tup [v, v2])) := Same.upd_new nq
          have le := Le.of_same sn
          have ow2 : Own X.K (L2.upd H1 q (.tup [v, v2])) v2 y G1 := ow.mono le fun a _ o ea => sn a o ea
          have key : Own X.K (L2.upd H1 q (.tup [v, v2])) (.ref q) (.tup [.im u, y]) (((List.range [v, v2].length).map fun i => if i = 1 then G1 else []).flatten) := by
            refine .tup (fun i => if i = 1 then G1 else []) (.inl (.inl upd_same)) rfl fun i a b ea eb => ?_
            match i with
            | 0 => simp at ea eb; subst ea eb; exact .im (rv.mono le)
            | 1 => simp at ea eb; subst ea eb; exact ow2
            | i + 2 => simp at ea
          have eG : (((List.range [v, v2].length).map fun i => if i = 1 then G1 else []).flatten) = G1 := by simp [List.range_succ]
          rw [eG] at key
          obtain ⟨Gs, _, nd, fr⟩ := h2.ex
          rw [List.append_nil] at nd fr
          have sx : SameX st H1 (L2.upd H1 q (.tup [v, v2])) := .of_same sn
          have h3 := h1.grow sx (h1.zr.new sn)
          exact hq1 _ _ G1 h3.fr h3.ble h3.zr key (List.nodup_append.mp nd).1 fun a ha => (fr a (List.mem_append_left _ ha)).1
      | _ => exact hq1.elim
  | _ => exact hq1.elim
end
end MM
namespace MM
open PySem PySem.Spec PyProof.Rows L2
section
variable {X : Cx} {W : WX} {st : Option Addr} {pos : Pos}
/-- an object that a slot owns is changed -/
theorem Stt.chgE {K : PySem.W.Frag} {H0 B H : Hp} {Ls : List (Option (V × Val))} {G : List Addr} {S : List Sv} {z : Zs} {σ : L2.St} (h : Stt K st H0 B Ls G S z σ H) {i : Nat} {x : Val} (e : S[i]? = some (.o x)) :
    ∃ v G1, σ[i]? = some (some v) ∧ Own K H v x G1 ∧ G1.Nodup ∧ ∀ (l : Addr) (o u : HO) (y : Val), l ∈ G1 → H l = some u → Mu u → Mu o → Own K (L2.upd H l o) v y G1 → Stt K st H0 B Ls G (S.set i (.o y)) z σ (L2.upd H l o) := by
  obtain ⟨Gs, hs, nd, fr⟩ := h.ex
  obtain ⟨v, G1, Ga, Gb, e1, o1, eg, put⟩ := hs.get_o e
  have nd' := nd
  rw [eg] at nd'
  have p : List.Perm (G ++ (Ga ++ G1 ++ Gb)) (G1 ++ (G ++ Ga ++ Gb)) := by
    have a1 : List.Perm (Ga ++ G1 ++ Gb) (G1 ++ (Ga ++ Gb)) := by
      rw [List.append_assoc]
      exact List.perm_append_comm_assoc Ga G1 Gb
    refine (List.Perm.append_left G a1).trans ?_
    rw [List.append_assoc G Ga Gb]
    exact List.perm_append_comm_assoc G G1 (Ga ++ Gb)
  have nd2 := p.nodup_iff.mp nd'
  obtain ⟨n1, n2, n3⟩ := List.nodup_append.mp nd2
  refine ⟨v, G1, e1, o1, n1, fun l o u y lm hu mu mo o2 => ?_⟩
  have fl := fr l (by rw [eg]; simp [lm])
  obtain ⟨sx, zr⟩ := SameX.upd h o fl.1
  have nin : ∀ a, a ∈ G ∨ a ∈ Ga ∨ a ∈ Gb → a ≠ l := fun a ha c => by
    subst c
    exact n3 a lm a (by simp only [List.mem_append]; rcases ha with q | q | q; exact .inl (.inl q); exact .inl (.inr q); exact .inr q) rfl
  have li : i < Ls.length := by
    have h2 : Ls.length = S.length := hs.lengthL
    rw [h2]
    exact (List.getElem?_eq_some_iff.mp e).1
  have put' := put (hid st H0) (L2.upd H l o) Ls[i] (.o y) (some v) (G1 ++ []) (fun _ _ q => q) (Le.upd_mu hu mu) (fun a ha u' q => by rw [upd_ne (nin a (by simp only [List.mem_append] at ha; exact .inr ha))]; exact q) (.o o2 .nil)
  have es : σ.set i (some v) = σ := by
    apply List.ext_getElem?
    intro k
    rw [List.getElem?_set]
    split
    · rename_i c
      subst c
      split
      · exact e1.symm
      · rename_i c; rw [List.getElem?_eq_none (by omega)]
    · rfl
  have el : Ls.set i Ls[i] = Ls := by simp
  rw [es, el] at put'
  refine ⟨sx, zr, fun a u' q => ?_, h.z0, h.bst, fun a ha => ?_, h.lks, Ga ++ (G1 ++ []) ++ Gb, put', ?_, ?_⟩
  · rw [upd_ne (ne_of_none q fl.2)]; exact h.ble a u' q
  · obtain ⟨u', q, m⟩ := h.gt a ha
    exact ⟨u', by rw [upd_ne (nin a (.inl ha))]; exact q, m⟩
  · simpa using nd'
  · intro a ha
    refine fr a ?_
    rw [eg]
    simpa using ha
/-- x[k].append(y): x a tuple with a list in it, y a name -/
@[simp] def sAppN (i k j : Nat) : MS := fun S z => match S[i]? with
  | some (.o (.tup vs)) => match vs[k]? with
    | some (.il ts) => match S[j]? with
      | some (.o (.im t)) => if ts.length < sizeLine then .nx (S.set i (.o (.tup (vs.set k (.il (ts ++ [t])))))) z else .no
      | some (.b (.im t)) => if ts.length < sizeLine then .nx (S.set i (.o (.tup (vs.set k (.il (ts ++ [t])))))) z else .no
      | _ => .no
    | _ => .no
  | _ => .no
theorem own_tup {K : PySem.W.Frag} {H : Hp} {v : V} {vs : List Val} {G : List Addr} {k : Nat} {ts : List T} (h : Own K H v (.tup vs) G) (hk : vs[k]? = some (.il ts)) : ∃ a xs l ws, v = .ref a ∧ SqT K H a xs ∧ xs.length = vs.length ∧ xs[k]? = some (.ref l) ∧ H l = some (.lst ws) ∧ RepTs K H ws ts ∧ l ∈ G ∧
    (G.Nodup → ∀ (w : V) (t : T), RepT K H w t → Own K (L2.upd H l (.lst (ws ++ [w]))) v (.tup (vs.set k (.il (ts ++ [t])))) G) := by
  cases h with
  | tnil q => simp at hk
  | @tup a xs _ f q hl hh =>
    obtain ⟨hk1, hk2⟩ := List.getElem?_eq_some_iff.mp hk
    have hx : xs[k]? = some xs[k] := List.getElem?_eq_getElem (by omega)
    have ok := hh k _ _ hx hk
    obtain ⟨l, ws, el, ef, hw, hr⟩ := own_il ok
    rw [el] at hx
    have lm : l ∈ ((List.range xs.length).map f).flatten := List.mem_flatten.mpr ⟨f k, List.mem_map.mpr ⟨k, List.mem_range.mpr (by omega), rfl⟩, by rw [ef]; simp⟩
    refine ⟨a, xs, l, ws, rfl, q, hl, hx, hw, hr, lm, fun nd w t rw' => ?_⟩
    have le : Le H (L2.upd H l (.lst (ws ++ [w]))) := Le.upd_lst hw
    refine .tup f (le.sqt q) (by simpa using hl) fun i u x eu ex => ?_
    rw [List.getElem?_set] at ex
    by_cases c : k = i
    · subst c
      rw [if_pos rfl, if_pos hk1] at ex
      cases ex
      rw [hx] at eu
      cases eu
      rw [ef]
      exact .il upd_same ((hr.append (.one rw')).mono le)
    · rw [if_neg c] at ex
      refine (hh i u x eu ex).mono le fun b hb o eb => ?_
      have hi : i < xs.length := (List.getElem?_eq_some_iff.mp eu).1
      have : b ≠ l := fun q => by
        subst q
        have pw := (List.pairwise_flatten.mp nd).2
        have pw2 := List.pairwise_iff_getElem.mp pw
        rcases Nat.lt_or_gt_of_ne c with g | g
        · exact pw2 k i (by simp; omega) (by simp; omega) g b (by simp [ef]) b (by simpa using hb) rfl
        · exact pw2 i k (by simp; omega) (by simp; omega) g b (by simpa using hb) b (by simp [ef]) rfl
      rw [upd_ne this]; exact eb
theorem se_appN (i k j : Nat) {x y : Str} {kk : Nat} {p kp sp ap cp py : Pos} (hu : X.A.units + 1 < cLine) (c : ClT X (.Subscript (.Name x p) (.Constant (.int k) kk kp) sp) "append" ap cp (.Name y py) := by exact ⟨rfl, rfl, rfl, rfl, rfl⟩) (hN : X.N[i]? = some x := by rfl)
    (hv : Vis X.env.scope x := by first | exact Or.inl rfl | exact Or.inr (Or.inl rfl) | exact Or.inr (Or.inr rfl)) (hd : (x == ("__debug__" : Str)) = false := by decide) (hcd : (x == ("__classdict__" : Str)) = false := by decide)
    (hN2 : X.N[j]? = some y := by rfl) (hv2 : Vis X.env.scope y := by first | exact Or.inl rfl | exact Or.inr (Or.inl rfl) | exact Or.inr (Or.inr rfl)) (hd2 : (y == ("__debug__" : Str)) = false := by decide) (hcd2 : (y == ("__classdict__" : Str)) = false := by decide)
    (hpx : PlainIx (.Constant (.int k) kk kp) := by exact fun _ _ => rfl)
    (hs : swapsWith (.Call (.Attribute (.Subscript (.Name x p) (.Constant (.int k) kk kp) sp) "append" ap) [.Name y py] [] cp) none pos.line X.env = pure false := by rfl) :
    SE X W st (.Expr (.Call (.Attribute (.Subscript (.Name x p) (.Constant (.int k) kk kp) sp) "append" ap) [.Name y py] [] cp) pos) (sAppN i k j) := by
  refine ⟨_, ps_expr (pe_bm PySem.F.plainAttrs_list PySem.F.slot_list_append PySem.F.type_list_append mt_append (pe_ix (ix_all hu) (pe_var (X := X) (pos := p) hN hv hd hcd) (pe_int (X := X)) hpx) (pa_cons (pe_var (X := X) (pos := py) hN2 hv2 hd2 hcd2) pa_nil c.star) c.base c.few c.line c.star c.plain) hs, fun H0 B Ls S z σ H D h hq => ?_⟩
  unfold sAppN at hq
  split at hq
  · rename_i vs es
    split at hq
    · rename_i ts ek
      obtain ⟨v, G1, e1, o1, nd1, chg⟩ := h.chgE es
      obtain ⟨a, xs, l, ws, rfl, q, hl, hx, hw, hr, lm, upd'⟩ := own_tup o1 ek
      have fin : ∀ (w : V) (t : T), σ[j]? = some (some w) → RepT X.K H w t → Cs X W st H0 B Ls D (if ts.length < sizeLine then .nx (S.set i (.o (.tup (vs.set k (.il (ts ++ [t])))))) z else .no) → (tOp (rIxAll X.K) (tVar i) (tC (.int (k : Int)))) σ H fun x H1 => tyV X.K "list" x H1 ∧ (tCons (tVar j) tNil) σ H1 fun xs H2 => rAppend x xs H2 fun _ H3 => D.nx σ H3 := fun w t ew rt hc => by
        split at hc
        · rename_i hlt
          refine ⟨.ref a, e1, .inl (.inr (.inl ⟨a, xs, (k : Int), .ref l, rfl, rfl, q, atI_nat hx, tyL hw, w, ew, l, ws, w, rfl, rfl, hw, by rw [hr.length]; exact hlt, ?_⟩))⟩
          exact hc σ _ (chg l _ _ _ lm hw True.intro True.intro (upd' nd1 w t rt))
        · exact hc.elim
      obtain ⟨Gs, hs', _⟩ := h.ex
      split at hq
      · rename_i t ej
        obtain ⟨w, G2, Ga, Gb, e2, o2, _⟩ := hs'.get_o ej
        cases o2 with
        | im r => exact fin w t e2 r hq
      · rename_i t ej
        obtain ⟨w, e2, bw⟩ := hs'.get_b ej
        cases bw with
        | im r => exact fin w t e2 ((r.mono (Le.of_same h.fr.hid)).mono (Le.of_same (hid_same st H))) hq
      · exact hq.elim
    · exact hq.elim
  · exact hq.elim
end
end MM
namespace MM
open PySem PySem.Spec PyProof.Rows L2
section
variable {X : Cx} {W : WX} {st : Option Addr} {pos : Pos}
theorem Stt.perm {K : PySem.W.Frag} {H0 B H : Hp} {Ls : List (Option (V × Val))} {G G' : List Addr} {S : List Sv} {z : Zs} {σ : L2.St} (h : Stt K st H0 B Ls G S z σ H) (p : G.Perm G') : Stt K st H0 B Ls G' S z σ H := by
  obtain ⟨Gs, hs, nd, fr⟩ := h.ex
  refine ⟨h.fr, h.zr, h.ble, h.z0, h.bst, fun a ha => h.gt a (p.mem_iff.mpr ha), h.lks, Gs, hs, ?_, fun a ha => fr a ?_⟩
  · exact ((p.append_right Gs).nodup_iff).mp nd
  · rcases List.mem_append.mp ha with q | q
    · exact List.mem_append_left _ (p.mem_iff.mpr q)
    · exact List.mem_append_right _ q
/-! ### a pair of new values -/
@[simp] def eTup2 (ma mb : ME) : ME := fun S z => (ma S z).bind fun x z => (mb S z).bind fun y z => .ok (.tup [x, y]) z
theorem fe_tup2 {a b : Expr} {kk : Nat} {ma mb : ME} (ha : FE X W st a ma) (hb : FE X W st b mb) (hs : starEach [a, b] X.env = (false, eval a X.env) :: starEach [b] X.env := by rfl) (hs2 : starEach [b] X.env = (false, eval b X.env) :: starEach [] X.env := by rfl) :
    FE X W st (.Tuple [a, b] kk pos) (eTup2 ma mb) := by
  obtain ⟨ta, pa, fa⟩ := ha
  obtain ⟨tb, pb, fb⟩ := hb
  refine ⟨_, pe_tup (pa_cons pa (pa_cons pb pa_nil hs2) hs), fun H0 B Ls G S z σ H Q h hq => ?_⟩
  refine fa H0 B Ls G S z σ H _ h (hq.bind fun x z1 H1 _ x1 hz1 hq1 v G1 o1 h1 => ?_)
  refine fb H0 B Ls (G1 ++ G) S z1 σ H1 _ h1 (hq1.bind fun y z2 H2 _ x2 hz2 hq2 w G2 o2 h2 => ?_)
  refine ⟨by simp, fun q nq => ?_⟩
  have sn : Same H2 (L2.upd H2 q (.tup [v, w])) := Same.upd_new nq
  have le := Le.of_same sn
  obtain ⟨Gs, hs1, nd, fr⟩ := h1.ex
  have o1' : Own X.K H2 v x G1 := o1.mono (x2.le h1.zr) fun a ha o e => x2.k a o (h1.nst (fr a (by simp [ha])).1) e
  have key : Own X.K (L2.upd H2 q (.tup [v, w])) (.ref q) (.tup [x, y]) (((List.range [v, w].length).map fun i => if i = 0 then G1 else G2).flatten) := by
    refine .tup (fun i => if i = 0 then G1 else G2) (.inl (.inl upd_same)) rfl fun i a b ea eb => ?_
    match i with
    | 0 => simp at ea eb; subst ea eb; exact o1'.mono le fun a _ o e => sn a o e
    | 1 => simp at ea eb; subst ea eb; exact o2.mono le fun a _ o e => sn a o e
    | i + 2 => simp at ea
  have eG : (((List.range [v, w].length).map fun i => if i = 0 then G1 else G2).flatten) = G1 ++ G2 := by simp [List.range_succ]
  rw [eG] at key
  have h3 := h2.grow (.of_same sn) (h2.zr.new sn)
  refine hq2.okX (.of_same sn) (h2.zr.new sn) (.ref q) (G1 ++ G2) key (h3.perm ?_)
  rw [← List.append_assoc]
  exact List.perm_append_comm.append_right G
/-! ### a, b = a pair of new values -/
@[simp] def sUnp2 (i j : Nat) (m : ME) : MS := fun S z => (m S z).go S fun p z => match p with
  | .tup [x, y] => if i < S.length ∧ j < S.length then .nx ((S.set i (.o x)).set j (.o y)) z else .no
  | _ => .no
theorem own_two {K : PySem.W.Frag} {H : Hp} {v : V} {x y : Val} {G : List Addr} (h : Own K H v (.tup [x, y]) G) : ∃ a v1 v2 G1 G2, v = .ref a ∧ SqT K H a [v1, v2] ∧ Own K H v1 x G1 ∧ Own K H v2 y G2 ∧ G = G1 ++ G2 := by
  cases h with
  | @tup a xs _ f hs hl g =>
    match xs, hl with
    | [v1, v2], _ =>
      refine ⟨a, v1, v2, f 0, f 1, rfl, hs, g 0 v1 x rfl rfl, g 1 v2 y rfl rfl, ?_⟩
      simp [List.range_succ]
theorem se_unp2 (i j : Nat) {x y : Str} {e : Expr} {m : ME} {px py tp : Pos} {kk : Nat} (hc : X.calm = true) (hN : X.N.Nodup) (he : FE X W st e m) (hij : i ≠ j := by decide) (hi : X.N[i]? = some x := by rfl) (hj : X.N[j]? = some y := by rfl) (hx : Loc X.env.scope x) (hy : Loc X.env.scope y)
    (hfx : X.fn x = true ∨ X.env.scope.names.lookup x = some .local := by first | exact .inl rfl | exact .inr rfl) (hfy : X.fn y = true ∨ X.env.scope.names.lookup y = some .local := by first | exact .inl rfl | exact .inr rfl)
    (hn : (assignEach [.Name x px, .Name y py] X.env).length = 2 := by rfl) (hst : (assignEach [.Name x px, .Name y py] X.env).findIdx? (·.1) = none := by rfl)
    (hs : swapsWithSole [.Tuple [.Name x px, .Name y py] kk tp] e pos.line X.env = pure false := by rfl) (hw : swappedStores [.Tuple [.Name x px, .Name y py] kk tp] e X.env = pure none := by rfl)
    (h1 : (assignEach [.Tuple [.Name x px, .Name y py] kk tp] X.env).map (·.2) = [assign (.Tuple [.Name x px, .Name y py] kk tp) X.env] := by rfl)
    (a1 : (assignEach [.Name x px, .Name y py] X.env).map (·.2) = assign (.Name x px) X.env :: (assignEach [.Name y py] X.env).map (·.2) := by rfl)
    (a2 : (assignEach [.Name y py] X.env).map (·.2) = assign (.Name y py) X.env :: (assignEach [] X.env).map (·.2) := by rfl) :
    SE X W st (.Assign [.Tuple [.Name x px, .Name y py] kk tp] e pos) (sUnp2 i j m) := by
  obtain ⟨t, p, f⟩ := he
  have pg := pg_tup (k := kk) (pos := tp) hc (pgs_cons (pg_name (pos := px) hN hi hx hfx) (pgs_cons (pg_name (pos := py) hN hj hy hfy) pgs_nil a2) a1) hn hst
  refine ⟨_, ps_asg p pg hs hw h1, fun H0 B Ls S z σ H D h hq => ?_⟩
  refine f H0 B Ls [] S z σ H _ h (Cs.go h hq fun u z1 H1 _ x1 hz1 hq1 v G' ow h1 => ?_)
  split at hq1
  · split at hq1
    · rename_i a b hl
      obtain ⟨p, v1, v2, G1, G2, rfl, hsq, o1, o2, rfl⟩ := own_two ow
      rw [List.append_assoc] at h1
      have s1 := h1.put o1 hl.1
      have s2 := Stt.put (G' := G2) (G := []) s1 o2 (i := j) (by rw [List.length_set]; exact hl.2)
      exact ⟨p, [v1, v2], rfl, hsq, rfl, _, _, rfl, _, _, rfl, rfl, hq1 _ _ s2⟩
    · exact hq1.elim
  · exact hq1.elim
/-! ### a, b = a pair that is only read -/
theorem Stt.putB {K : PySem.W.Frag} {H0 B H : Hp} {Ls : List (Option (V × Val))} {G : List Addr} {S : List Sv} {z : Zs} {σ : L2.St} {v : V} {x : Val} {i : Nat} (h : Stt K st H0 B Ls G S z σ H) (bw : Bor K (hid st H0) v x) (hi : i < S.length) : Stt K st H0 B Ls G (S.set i (.b x)) z (σ.set i (some v)) H := by
  obtain ⟨Gs, hs, nd, fr⟩ := h.ex
  obtain ⟨Ga, Gm, Gb, e, q⟩ := hs.set hi (y := .b x) (w := some v) (G2 := []) fun l => .b bw .nil
  refine ⟨h.fr, h.zr, h.ble, h.z0, h.bst, h.gt, h.lks, _, q, ?_, fun a ha => fr a ?_⟩
  · rw [e] at nd
    rw [List.append_nil]
    refine nd.sublist ?_
    refine List.Sublist.append (List.Sublist.refl _) ?_
    exact (List.sublist_append_left Ga Gm).append (List.Sublist.refl _)
  · rw [e]
    simp only [List.mem_append, List.append_nil] at ha ⊢
    rcases ha with q | q | q
    · exact .inl q
    · exact .inr (.inl (.inl q))
    · exact .inr (.inr q)
@[simp] def sUnpB (i j k : Nat) : MS := fun S z => match S[k]? with
  | some (.b (.tup [x, y])) => if i < S.length ∧ j < S.length then .nx ((S.set i (.b x)).set j (.b y)) z else .no
  | _ => .no
theorem se_unpB (i j k : Nat) {x y n : Str} {px py pn tp : Pos} {kk : Nat} (hc : X.calm = true) (hN : X.N.Nodup) (hx : Loc X.env.scope x) (hy : Loc X.env.scope y) (hij : i ≠ j := by decide) (hi : X.N[i]? = some x := by rfl) (hj : X.N[j]? = some y := by rfl) (hk : X.N[k]? = some n := by rfl)
    (hv : Vis X.env.scope n := by first | exact Or.inl rfl | exact Or.inr (Or.inl rfl) | exact Or.inr (Or.inr rfl)) (hd : (n == ("__debug__" : Str)) = false := by decide) (hcd : (n == ("__classdict__" : Str)) = false := by decide)
    (hfx : X.fn x = true ∨ X.env.scope.names.lookup x = some .local := by first | exact .inl rfl | exact .inr rfl) (hfy : X.fn y = true ∨ X.env.scope.names.lookup y = some .local := by first | exact .inl rfl | exact .inr rfl)
    (hn : (assignEach [.Name x px, .Name y py] X.env).length = 2 := by rfl) (hst : (assignEach [.Name x px, .Name y py] X.env).findIdx? (·.1) = none := by rfl)
    (hs : swapsWithSole [.Tuple [.Name x px, .Name y py] kk tp] (.Name n pn) pos.line X.env = pure false := by rfl) (hw : swappedStores [.Tuple [.Name x px, .Name y py] kk tp] (.Name n pn) X.env = pure none := by rfl)
    (h1 : (assignEach [.Tuple [.Name x px, .Name y py] kk tp] X.env).map (·.2) = [assign (.Tuple [.Name x px, .Name y py] kk tp) X.env] := by rfl)
    (a1 : (assignEach [.Name x px, .Name y py] X.env).map (·.2) = assign (.Name x px) X.env :: (assignEach [.Name y py] X.env).map (·.2) := by rfl)
    (a2 : (assignEach [.Name y py] X.env).map (·.2) = assign (.Name y py) X.env :: (assignEach [] X.env).map (·.2) := by rfl) :
    SE X W st (.Assign [.Tuple [.Name x px, .Name y py] kk tp] (.Name n pn) pos) (sUnpB i j k) := by
  have pg := pg_tup (k := kk) (pos := tp) hc (pgs_cons (pg_name (pos := px) hN hi hx hfx) (pgs_cons (pg_name (pos := py) hN hj hy hfy) pgs_nil a2) a1) hn hst
  refine ⟨_, ps_asg (pe_var (X := X) (pos := pn) hk hv hd hcd) pg hs hw h1, fun H0 B Ls S z σ H D h hq => ?_⟩
  unfold sUnpB at hq
  split at hq
  · rename_i a b e
    split at hq
    · rename_i hl
      obtain ⟨Gs, hs', nd, fr⟩ := h.ex
      obtain ⟨v, ev, bw⟩ := hs'.get_b e
      cases bw with
      | @tup p xs _ hsq hlen g =>
        match xs, hlen with
        | [v1, v2], _ =>
          have s1 := h.putB (g 0 v1 a rfl rfl) hl.1
          have s2 := s1.putB (g 1 v2 b rfl rfl) (i := j) (by rw [List.length_set]; exact hl.2)
          have hsq2 : SqT X.K H p [v1, v2] := sqt_hid ((Le.of_same h.fr.hid).sqt hsq)
          exact ⟨_, ev, p, [v1, v2], rfl, hsq2, rfl, _, _, rfl, _, _, rfl, rfl, hq _ _ s2⟩
    · exact hq.elim
  · exact hq.elim
end
end MM

/-! MY: a list comprehension whose element may raise. -/
namespace L2
open PySem PySem.Spec PyProof.Rows
section
variable {X : Cx} {pins : List (Addr × Obj)} {σ : St} {H : Hp} {s : Shared}
/-- a block's ground without its names -/
theorem ground_but {Xb : Cx} {pinsb : List (Addr × Obj)} {σb : St} {Hb : Hp} {sI : Shared} {B B' : Heap} (I : Inv Xb pinsb σb Hb sI) (nb : ∀ b o, sI.heap.get? b = some o → b ∉ frs Xb.stack → B.get? b = some o) (C : Addr) (nC : Hb C = none) (kB : ∀ b o, b ≠ C → B.get? b = some o → B'.get? b = some o) : HOk Xb.prog Xb.w Hb B' := fun b o q =>
  (I.hok b o q).stay (fun c u hc r => kB c u (fun e => by
      subst e
      rcases hc with hc | hc
      · subst hc; rw [nC] at q; cases q
      · rw [nC] at hc; cases hc) (nb c u r fun hm => by
    have z := I.stkFree c hm
    rcases hc with hc | hc
    · rw [hc, q] at z; cases z
    · rw [hc] at z; cases z)) (fun _ r => r) fun _ _ r => r
theorem noted_any {Z : Obj → Prop} {M : Model} {A : Around} {E : Value → Shared → Prop} {s : Shared} {base : Heap} {env : Env} {outer : List Env} {L e L' : Addr} {Q : Unit → Shared → Prop} (hZ : HandSPX.Steady Z) (hfr : A.frames = some (env :: outer)) (hf : env.frame = some L) (hfl : HandSPX.HeldZ base (env :: outer) e Z L' s.heap) (hne : (rawInt L' == rawInt L) = false)
    (hQ : ∀ h', HandSPX.HeldZ base (env :: outer) e Z L h' → s.heap.UpToSlots h' → Q () { s with heap := h' }) : wpAny M A (noteFrame (.ref e) env) Q E s := by
  obtain ⟨hkb, hen, hl, oe, vs, T, oT, ts, he, hz, hd, h1, hnT, hTe, hT, hdT, h3⟩ := hfl
  unfold noteFrame
  simp only [hf]
  refine wpAny_bind (wpAny_field he hd h1 ?_)
  rw [if_pos (show (Value.ref T != Value.none) = true from by simp)]
  refine wpAny_bind (wpAny_field hT hdT h3 ?_)
  rw [if_neg (by rw [hne]; exact Bool.false_ne_true)]
  refine wpAny_bind (wpAny_setField hT hdT (Array.getElem?_eq_some_iff.mp h3).1 ?_)
  have other : ∀ b, b ≠ T → (s.heap.update T (Obj.mapFields (·.setIfInBounds 3 Value.none))).get? b = s.heap.get? b := fun b hb => Heap.get?_update_other _ _ (Ne.symm hb)
  have noRecord : ∀ b o, s.heap.get? b = some o → (∀ vs, o.data ≠ .fields vs) → b ≠ T := fun b o hb hnf q => by
    rw [q, hT] at hb; injection hb with hb; subst hb; exact hnf ts hdT
  refine HandSPX.wpAny_entryZ hZ hfr (hl.of_keeps fun b o hb hnf => ⟨o, (other b (noRecord b o hb hnf)).trans hb, rfl⟩) hf ((other e (Ne.symm hTe)).trans he)
    (fun b o hbo => (other b fun q => by rw [q, hnT] at hbo; cases hbo).trans (hkb b o hbo)) hen hd (Array.getElem?_eq_some_iff.mp h1).1 hz fun h' hN => ?_
  obtain ⟨x1, x2, x3, x4⟩ := hN
  exact hQ h' ⟨x1, hen, x2, x3⟩ fun b o hb hnf => x4 b o ((other b (noRecord b o hb hnf)).trans hb) hnf
/-- noted, wherever it flew -/
theorem Sky.hold {M : Model} {A : Around} {E₁ : Value → Shared → Prop} {s : Shared} {env : Env} {outer : List Env} {L L' a : Addr} {Z : Obj → Prop} {B : Heap} {Q : Unit → Shared → Prop} (hZ : HandSPX.Steady Z) (hfr : A.frames = some (env :: outer)) (hf : env.frame = some L)
    (x : Sky B (env :: outer) a Z L' s.heap) (hQ : ∀ h', HandSPX.HeldZ B (env :: outer) a Z L h' → s.heap.UpToSlots h' → Q () { s with heap := h' }) :
    wpAny M A (noteFrame (.ref a) env) Q E₁ s := by
  rcases x with ⟨hB, hn, hl, oe, vs, he, hz, hd, h1⟩ | fl | hh
  · exact HandSPX.look_newZ hZ hfr hl hf he hB hn hd h1 hz hQ
  · exact HandSPX.looks_onZ hZ hfr hf fl hQ
  · cases c : (rawInt L' == rawInt L) with
    | false => exact noted_any hZ hfr hf hh c hQ
    | true =>
      obtain ⟨k1, k2, k3, k4⟩ := hh
      rw [eq_of_beq c] at k4
      exact HandSPX.againZ hf k4 (hQ s.heap ⟨k1, k2, k3, k4⟩ (Heap.UpToSlots.of_keeps fun _ _ e => e))

theorem Heap.UpToSlots.ns {h h' : Heap} {L : Addr} {m : Str → Option Value} (hn : h.Ns L m) (hk : h.UpToSlots h') : h'.Ns L m := PySem.Heap.Ns.upToSlots hn hk
/-- an exception leaves a comprehension's block -/
theorem XE.blockEnd {W : WX} {scope : Scope} {ce : Env} {fp : List Addr} {xe : Value → Shared → Prop} (I3 : Inv X pins σ H s) (hs : X.stack = X.env :: X.outer) (hf : X.env.frame = some X.env.locals) (hcf : ce.frame = X.env.frame) (hcL : s.heap.objs.size ≤ ce.locals)
    (f3 : ∀ b ∈ fp, FpOk X pins H b) {u : Value} {s' : Shared} (x : XE ((X.blk s H scope ce fp).tr [] xe) (fun cls d _ H' => W cls d σ H') u s') (tk : Takes X W) :
    notedBy (model X.prog X.w) X.A ce (CompFails (model X.prog X.w) X.A X.xe ce) u s' := by
  obtain ⟨a, B, sI, pinsb, σb, Hb, cls, d, rfl, I, nb, up, sky, na, os, ag, w⟩ := x
  have hfr : X.A.frames = some (X.env :: X.outer) := by rw [I3.ok.frames, hs]
  have nC : Hb ce.locals = none := I.free
  obtain ⟨m, hn, _⟩ := I.loc
  have hn : sI.heap.Ns ce.locals m := hn
  have frLt : ∀ b ∈ frs X.stack, b < s.heap.objs.size := fun b hb => by
    obtain ⟨_, o, e, _⟩ := I3.stack.mem hb
    exact Heap.lt_size e
  have cfr : ce.locals ∉ frs X.stack := fun hb => absurd (Nat.lt_of_lt_of_le (frLt _ hb) hcL) (Nat.lt_irrefl _)
  have oldC : ∀ b o, s.heap.get? b = some o → b ≠ ce.locals := fun b o e z => by
    have := Heap.lt_size e
    rw [z] at this
    exact absurd (Nat.lt_of_lt_of_le this hcL) (Nat.lt_irrefl _)
  show wpAny (model X.prog X.w) X.A (noteFrame (.ref a) ce) _ _ s'
  rw [PySem.noteFrame_env _ hcf]
  have sky : Sky B (X.env :: X.outer) a (Zc cls d) ce.locals s'.heap := by rw [← hs]; exact sky
  refine Sky.hold Zc.steady hfr hf sky fun h1 held up1 => ?_
  have hn1 : h1.Ns ce.locals m := Heap.UpToSlots.ns (Heap.UpToSlots.ns hn up) up1
  refine ⟨m, hn1, fun h2 m2 hn2 sb => ?_⟩
  -- the ground without the block's names
  obtain ⟨B', hB'⟩ : ∃ B', B' = PySem.W.hideAll B [ce.locals] := ⟨_, rfl⟩
  have kB : ∀ b o, b ≠ ce.locals → B.get? b = some o → B'.get? b = some o := fun b o n e => by rw [hB']; exact PySem.W.hideAll_get _ e (by simpa using n)
  have oB : ∀ b o, B'.get? b = some o → B.get? b = some o := fun b o e => by rw [hB'] at e; exact PySem.W.of_hideAll _ e
  have cB : B'.get? ce.locals = none := by rw [hB']; exact PySem.W.hideAll_none _ (by simp)
  have noneB : ∀ b, B.get? b = none → B'.get? b = none := fun b e => by
    cases q : B'.get? b with
    | none => rfl
    | some o => rw [oB b o q] at e; cases e
  obtain ⟨hb1, hbn, hl1, oe, vs, T, oT, ts, he, hz, hd, hv1, hnT, hTe, hT, hdT, hts⟩ := held
  have dC : ∀ b o vs, h1.get? b = some o → o.data = .fields vs → b ≠ ce.locals := fun b o vs e ed z => by
    obtain ⟨o', es, ep, ho', hd', _⟩ := hn1
    rw [z, ho'] at e
    cases e
    rw [hd'] at ed; cases ed
  have aC := dC a oe vs he hd
  have TC := dC T oT ts hT hdT
  have held2 : HandSPX.HeldZ B' (X.env :: X.outer) a (Zc cls d) X.env.locals h2 := by
    refine ⟨fun b o e => ?_, noneB a hbn, ?_, oe, vs, T, oT, ts, (sb.2 a aC).trans he, hz, hd, hv1, noneB T hnT, hTe, (sb.2 T TC).trans hT, hdT, hts⟩
    · have n : b ≠ ce.locals := fun z => by rw [z, cB] at e; cases e
      exact (sb.2 b n).trans (hb1 b o (oB b o e))
    · refine funFrames_none (PySem.Heap.FunFrames.sameBut sb hn2 hl1) fun L hL => ?_
      have : B.get? L = none := (hl1.mem hL).1
      exact noneB L this
  unfold PySem.passOn
  refine wpAny_bind (wpAny_field ((sb.2 a aC).trans he) hd hv1 ?_)
  rw [if_neg (show ¬ ((Value.ref T == Value.none) = true) from by simp)]
  rw [hcf, hf]
  refine wpAny_bind (HandSPX.setFlight_onZ held2 fun h3 held3 up3 => ?_)
  refine wpAny_throw (tk _ _ ?_)
  -- back in the def's air
  have st : B'.StaysIn h3 := held3.1
  obtain ⟨G, g1, g2⟩ := restrict h3 fun b => (B'.get? b).isSome || decide (b ∈ frs X.stack)
  have gB : ∀ b o, B'.get? b = some o → G.get? b = some o := fun b o e => by
    rw [g1 b (by simp [e])]
    exact st b o e
  have gF : ∀ b, b ∈ frs X.stack → G.get? b = h3.get? b := fun b hb => g1 b (by simp [hb])
  have og : ∀ b o, G.get? b = some o → h3.get? b = some o ∧ ((B'.get? b).isSome = true ∨ b ∈ frs X.stack) := fun b o e => by
    cases q : ((B'.get? b).isSome || decide (b ∈ frs X.stack)) with
    | false => rw [g2 b q] at e; cases e
    | true =>
      rw [g1 b q] at e
      exact ⟨e, by simpa [Bool.or_eq_true] using q⟩
  have base : Un (frs X.stack) fp H Hb s.heap sI.heap := I.base
  have slotF : ∀ b o, s.heap.get? b = some o → b ∈ frs X.stack → b ∉ fp → ∃ sl, G.get? b = some { o with slots := sl } := fun b o e hb hx => by
    have n := I3.stkFree b hb
    obtain ⟨_, o₀, e₀, hnf⟩ := I3.stack.mem hb
    rw [e] at e₀; cases e₀
    obtain ⟨sl, e1⟩ := base.slot b o e n hb hx
    obtain ⟨sl1, e2⟩ := up b _ e1 hnf
    obtain ⟨sl2, e3⟩ := up1 b _ e2 hnf
    have e4 := (sb.2 b (oldC b o e)).trans e3
    obtain ⟨sl3, e5⟩ := up3 b _ e4 hnf
    exact ⟨sl3, by rw [gF b hb]; exact e5⟩
  have u : Un (frs X.stack) fp H Hb s.heap G := by
    refine ⟨fun b o e n hb hx => ?_, fun b o e n hb hx => slotF b o e hb hx, base.free, fun b o e hx => ?_, base.tups, base.frzs, base.tbls⟩
    · exact gB b o (kB b o (oldC b o e) (nb b o (base.keep b o e n hb hx) hb))
    · by_cases hb : b ∈ frs X.stack
      · obtain ⟨sl, q⟩ := slotF b o e hb hx
        exact ⟨_, q⟩
      · obtain ⟨o', e'⟩ := base.there b o e hx
        exact ⟨o', gB b o' (kB b o' (oldC b o e) (nb b o' e' hb))⟩
  have hok : HOk X.prog X.w Hb B' := (have z := ground_but (Xb := (X.blk s H scope ce fp).tr [] xe) I nb ce.locals nC kB; z)
  have IG := I3.call (ch := fp) (h' := G) (g' := s'.gens) (t' := s'.toks) (d' := s'.drawn) u (hok.kept gB) ag fun b hb => ⟨(f3 b hb).2.2.2.1, (f3 b hb).2.1, (f3 b hb).2.2.2.2.1, (f3 b hb).2.2.2.2.2⟩
  have os3 : s'.os = s.os := os.trans I.os
  refine ⟨a, B', _, pins, σ, Hb, cls, d, rfl, IG, fun b o e hb => ?_, Heap.UpToSlots.of_keeps fun b o e => (og b o e).1, .inr (.inr (by rw [hs]; exact held3)), na, os3, ag, w⟩
  obtain ⟨e', h⟩ := og b o e
  rcases h with h | h
  · obtain ⟨o', q⟩ := Option.isSome_iff_exists.mp h
    have z := st b o' q
    rw [e'] at z; cases z
    exact q
  · exact absurd h hb

theorem Inv.onX {X : Cx} {pins : List (Addr × Obj)} {σ : St} {H : Hp} {s : Shared} (I : Inv X pins σ H s) (hp : X.pn = []) (xe : Value → Shared → Prop) : Inv (X.tr [] xe) pins σ H s :=
  ⟨I.ok.toTry _ _, I.os, I.bare, I.base, I.loc, I.cell, I.free, I.freeC, fun p h => I.pin p (by rw [hp]; exact h), I.hok, I.len⟩
theorem Inv.offX {X : Cx} {pins : List (Addr × Obj)} {σ : St} {H : Hp} {s : Shared} {xe : Value → Shared → Prop} (I : Inv (X.tr [] xe) pins σ H s) (hp : X.pn = []) : Inv X pins σ H s :=
  ⟨I.ok.ofTry, I.os, I.bare, I.base, I.loc, I.cell, I.free, I.freeC, fun p h => I.pin p (by rw [hp] at h; exact h), I.hok, I.len⟩
/-- [elt for target in iter if ..], the element may raise -/
theorem pe_lcX {X : Cx} {W : WX} {elt tg iter : Expr} {ifs : List Expr} {scope : Scope} {own : List (Str × Nat)} {pos : Pos} {wi : TI} {g : TG} {tt : TT} {te : St → TE} (hst : X.stack = X.env :: X.outer) (hfr : X.env.frame = some X.env.locals) (tk : Takes X W) (hc : X.calm = true) (hN : X.N.Nodup) (hi : PI X tg iter wi) (ok : BlkOk X.N X.env.scope scope own)
    (hg : ∀ (s : Shared) (H : Hp) (C : Addr) (cl : List (Str × Addr)) (fp : List Addr), PG (X.blk s H scope (compEnvC scope cl C X.env) fp) tg g) (ht : ∀ (s : Shared) (H : Hp) (C : Addr) (cl : List (Str × Addr)) (fp : List Addr), PTs (X.blk s H scope (compEnvC scope cl C X.env) fp) ifs tt)
    (he : ∀ (σ0 : St) (s : Shared) (H : Hp) (C : Addr) (cl : List (Str × Addr)) (fp : List Addr) (xe : Value → Shared → Prop), Takes ((X.blk s H scope (compEnvC scope cl C X.env) fp).tr [] xe) (fun cls d _ H' => W cls d σ0 H') → PE ((X.blk s H scope (compEnvC scope cl C X.env) fp).tr [] xe) elt (te σ0))
    (hs : ∀ x, foldedSetIterable iter X.env x = pure x := by intro _; rfl) :
    PE X (.ListComp elt [⟨tg, iter, ifs, 0⟩] scope pos) (fun σ H Q => tLc wi g tt (te σ) (own.map (·.2)) σ H Q) := by
  refine ⟨fun pins s σ H Q I h => ?_⟩
  rw [eval_ListComp]
  have hfree : ∀ y ∈ scope.names, y.2 = .free → ∃ c, X.env.cells.lookup y.1 = some c := fun y hy e => by
    rcases ok.free y hy e with k | k
    · exact I.ok.has _ (.inl k)
    · exact I.ok.has _ (.inr k)
  refine comprehension_at (use := none) rfl hs (closure_ok hfree) ok.kind (fun y hy e => by rw [ok.uniq y hy, e])
    (thn (hi.run pins s σ H _ I h) fun xv s1 hx => thn hx fun itv s2 h2 => ?_)
  obtain ⟨it, fp, tn, J, H2, e, I2, T, st2, f2, q⟩ := h2
  subst e
  refine wpAny_newObj_type (newEnv_comp ?_) (by show 0 ≤ sizeLine; decide)
  generalize hD : s2.heap.objs.size = D
  have hDn : H2 D = none := I2.hok.fresh (Nat.le_of_eq hD)
  obtain ⟨W', ⟨m0, w0⟩, turn⟩ := q D hDn
  generalize hs3 : ({ s2 with heap := s2.heap.push { cls := .type "list", data := .seq ([] : List Value).toArray } } : Shared) = s3
  have I3 : Inv X pins σ (upd H2 D (.lst [])) s3 := by
    rw [← hs3]
    refine I2.laid (t' := s2.toks) (fun b o e => Heap.get?_push_of_some _ e) (Nat.le_of_eq hD) ⟨Nat.zero_le _, [], 0, .nil, ?_⟩
    rw [← hD]
    exact Heap.get?_push_size _ rfl
  have h3 : s3.heap = s2.heap.push { cls := .type "list", data := .seq ([] : List Value).toArray } := by rw [← hs3]
  have sz : ∀ b ∈ fp, b < s2.heap.objs.size := fun b hb => by
    obtain ⟨o, e, _⟩ := T.obj _ _ st2 b hb
    exact Heap.lt_size e
  have f3 : ∀ b ∈ fp, FpOk X pins (upd H2 D (.lst [])) b ∧ b < s3.heap.objs.size := fun b hb => by
    have hlt := sz b hb
    refine ⟨⟨?_, (f2 b hb).2⟩, by rw [h3, Heap.size_push]; exact Nat.lt_succ_of_lt hlt⟩
    rw [upd_ne (by rw [← hD]; exact Nat.ne_of_lt hlt)]
    exact (f2 b hb).1
  have st3 : tn 0 s3.heap := T.keep _ _ _ st2 fun b _ o e => by rw [h3]; exact Heap.get?_push_of_some _ e
  have I4 := block_start I3 ok hN f3
  have pg := hg s3 (upd H2 D (.lst [])) s3.heap.objs.size (cellsFrom (s3.heap.objs.size + 1) scope.names (cloFrom X.env.cells scope.names [])) fp
  have pt := ht s3 (upd H2 D (.lst [])) s3.heap.objs.size (cellsFrom (s3.heap.objs.size + 1) scope.names (cloFrom X.env.cells scope.names [])) fp
  have pe := he σ s3 (upd H2 D (.lst [])) s3.heap.objs.size (cellsFrom (s3.heap.objs.size + 1) scope.names (cloFrom X.env.cells scope.names [])) fp
  show codeAny _ _ (.compStart (.ListComp elt [⟨tg, iter, ifs, 0⟩] scope pos) 0 (.ref it) (.ref D) (compEnvC scope (cellsFrom (s3.heap.objs.size + 1) scope.names (cloFrom X.env.cells scope.names [])) s3.heap.objs.size X.env)) (compEnds (model X.prog X.w) X.A X.xe none (EP X pins σ Q) (.ref D) (compEnvC scope (cellsFrom (s3.heap.objs.size + 1) scope.names (cloFrom X.env.cells scope.names [])) s3.heap.objs.size X.env)) { s3 with heap := pushCells (s3.heap.push { cls := .type "dict", data := .dict #[] }) scope.names }
  have nfp : ∀ b ∈ fp, (upd H2 D (.lst [])) b = none := fun b hb => (f3 b hb).1.1
  generalize hce : compEnvC scope (cellsFrom (s3.heap.objs.size + 1) scope.names (cloFrom X.env.cells scope.names [])) s3.heap.objs.size X.env = ce at I4 pg pt pe ⊢
  have cL : ce.locals = s3.heap.objs.size := by subst hce; rfl
  have cF : ce.frame = X.env.frame := by subst hce; rfl
  generalize hH3 : upd H2 D (.lst []) = H3 at I3 I4 pg pt pe w0 nfp f3
  generalize hs4 : ({ s3 with heap := pushCells (s3.heap.push { cls := .type "dict", data := .dict #[] }) scope.names } : Shared) = s4 at I4 ⊢
  have pe := pe (notedBy (model X.prog X.w) X.A ce (CompFails (model X.prog X.w) X.A X.xe ce)) fun u s' x => XE.blockEnd I3 hst hfr cF (by rw [cL]; exact Nat.le_refl _) (fun b hb => (f3 b hb).1) x tk
  have st4 : tn 0 s4.heap := T.keep _ _ _ st3 fun b _ o e => by rw [← hs4]; exact pushCells_keeps _ _ _ _ (Heap.get?_push_of_some _ e)
  have stat : ∀ {σ' : St} {H' : Hp} {s' : Shared}, Inv (X.blk s3 H3 scope ce fp) [] σ' H' s' → (∀ b ∈ fp, H' b = none) → ∀ b ∈ fp, FpOk (X.blk s3 H3 scope ce fp) [] H' b := fun {σ' H' s'} I' hn b hb =>
    ⟨hn b hb, (I'.ok.exf b hb).1, I'.ok.exfs b hb, .inl hb, fun x c e => (I'.ok.exf b hb).2 x c e, fun p hp => absurd (show p ∈ ([] : List (Addr × Obj)) ++ [] from hp) (by simp)⟩
  have loop : codeAny (model X.prog X.w) X.A (.compLoop (.ListComp elt [⟨tg, iter, ifs, 0⟩] scope pos) 0 (.ref it) (.ref D) ce) (compEnds (model X.prog X.w) X.A X.xe none (EP X pins σ Q) (.ref D) ce) s4 := by
    refine compLoop_any (fun n s' => ∃ i H', Inv (X.blk s3 H3 scope ce fp) [] (wipe σ (own.map (·.2))) H' s' ∧ tn i s'.heap ∧ (∀ b ∈ fp, H' b = none) ∧ W' i n H') ?_ m0 ⟨0, H3, I4, st4, nfp, w0⟩
    rintro n s5 ⟨i, H5, I5, st5, n5, w5⟩
    rcases turn i n H5 w5 with ⟨stop, qq⟩ | ⟨go, Nx, hNx, step⟩
    · have td := T.done (X.blk s3 H3 scope ce fp) rfl rfl rfl hc i [] s5 _ H5 (fun _ _ => False) I5 (stat I5 n5) st5 stop
      refine thnF td fun r s6 ⟨hr, I6⟩ => ?_
      subst hr
      have I7 : Inv X pins σ H5 s6 := I3.call' (ch := fp) I6.os I6.base I6.hok I6.bare fun b hb => ⟨(f3 b hb).1.2.2.2.1, (f3 b hb).1.2.1, (f3 b hb).1.2.2.2.2.1, (f3 b hb).1.2.2.2.2.2⟩
      have nC : H5 s3.heap.objs.size = none := by
        have z : H5 ce.locals = none := I6.free
        rw [cL] at z
        exact z
      obtain ⟨m, hn, _⟩ := I6.loc
      have hn : s6.heap.Ns ce.locals m := hn
      obtain ⟨g0, g1, g2, g3, g4, g5⟩ := I3.fpOk (Nat.le_refl _) nC
      refine ⟨m, hn, fun h'' sb => ⟨.ref D, H5, I7.turned (it := s3.heap.objs.size) (t' := s6.toks) (fun b o hb e => (sb.2 b (by rw [cL]; exact hb)).trans e) g0 g1 g3 g4 g5, rfl, qq⟩⟩
    · have ti := T.item (X.blk s3 H3 scope ce fp) rfl rfl rfl hc i [] s5 _ H5 (fun _ _ => False) I5 (stat I5 n5) st5 go
      refine thnF ti fun r s6 ⟨u, hr, h6⟩ => ?_
      subst hr
      refine thnF h6 fun _ s7 ⟨x, H7, I7, r7, y7, st7, n7⟩ => ?_
      have I7' := I7.pinned (stat I7 n7) (T.obj _ _ st7)
      refine thnF (pg.run _ s7 _ H7 x u _ I7' r7 (step x H7 y7)) fun _ s8 ⟨σ8, H8, I8, hw8, q8⟩ => ?_
      refine thnF (pt.run _ s8 σ8 H8 _ I8 q8) fun b s9 ⟨H9, I9, q9⟩ => ?_
      have fin : ∀ {s' : Shared} {H' : Hp}, Inv (X.blk s3 H3 scope ce fp) ([] ++ pinsAt fp s7.heap) σ8 H' s' → Nx H' → ∃ m, m < n ∧ ∃ i H', Inv (X.blk s3 H3 scope ce fp) [] (wipe σ (own.map (·.2))) H' s' ∧ tn i s'.heap ∧ (∀ b ∈ fp, H' b = none) ∧ W' i m H' := fun {s' H'} I' nx => by
        obtain ⟨m', hm, w'⟩ := hNx H' nx
        have pin' : ∀ b ∈ fp, ∀ o, s7.heap.get? b = some o → s'.heap.get? b = some o ∧ H' b = none := fun b hb o e =>
          let z := I'.pin (b, o) (List.mem_append_right _ (List.mem_append_right _ (mem_pinsAt hb e)))
          ⟨z.1, z.2.1⟩
        have hl : (wipe σ (own.map (·.2))).length = σ8.length := by rw [← hw8, wipe_length]
        refine ⟨m', hm, i + 1, H', (I'.unpinned (pins := [])).weak hl (fun j v e => ?_), T.keep _ _ _ st7 fun b hb o e => (pin' b hb o e).1, fun b hb => ?_, w'⟩
        · rw [← hw8] at e
          exact (wipe_some e).1
        · obtain ⟨o, e, _⟩ := T.obj _ _ st7 b hb
          exact (pin' b hb o e).2
      cases b with
      | false =>
        simp only [Bool.false_eq_true, if_false] at q9 ⊢
        exact fin I9 q9
      | true =>
        simp only [if_true] at q9 ⊢
        refine thn (pe.run _ s9 σ8 H9 _ (I9.onX rfl _) q9) fun z s10 ⟨yv, H10, I10, r10, acc, hD10, hz10, nx⟩ => ?_
        exact app_ok (X := X.blk s3 H3 scope ce fp) (I10.offX rfl) hD10 hz10 r10 fun s11 I11 => fin I11 nx
  exact codeAny_compStart_list loop (T.self X.A 0 _ _ _ st4 loop)
end
end L2
namespace MM
open PySem PySem.Spec PyProof.Rows L2
section
variable {X : Cx} {W : WX} {st : Option Addr} {pos : Pos}
def lcX (j : Nat) (c : MT) (m : ME) (S0 : List Sv) : List T → List T → Zs → Rs Val
  | [], acc, z => .ok (.il acc) z
  | t :: ts, acc, z => if j < S0.length then match c (S0.set j (.o (.im t))) z with
    | .ok true z => match m (S0.set j (.o (.im t))) z with
      | .ok (.im u) z => if acc.length < sizeLine then lcX j c m S0 ts (acc ++ [u]) z else .no
      | .ex d z => .ex d z
      | _ => .no
    | .ok false z => lcX j c m S0 ts acc z
    | _ => .no
    else .no
@[simp] def eLcX (it : ME) (j : Nat) (c : MT) (m : ME) : ME := fun S z => (it S z).bind fun x z => match x with
  | .im (.tup ts) => lcX j c m (wipS j S) ts [] z
  | .il ts => lcX j c m (wipS j S) ts [] z
  | _ => .no
theorem lcX_il {j : Nat} {c : MT} {m : ME} {S0 : List Sv} : ∀ {ts acc : List T} {z : Zs} {x : Val} {z' : Zs}, lcX j c m S0 ts acc z = .ok x z' → ∃ us, x = .il us
  | [], acc, z, x, z', h => by cases h; exact ⟨_, rfl⟩
  | t :: ts, acc, z, x, z', h => by
    unfold lcX at h
    split at h
    · split at h
      · split at h
        · split at h
          · exact lcX_il h
          · cases h
        · cases h
        · cases h
      · exact lcX_il h
      · cases h
    · cases h
abbrev BkX (X : Cx) (scope : Scope) (s : Shared) (H : Hp) (C : Addr) (cl : List (Str × Addr)) (fp : List Addr) (xe : Value → Shared → Prop) : Cx := (Bk X scope s H C cl fp).tr [] xe
abbrev WB (W : WX) (σ0 : L2.St) : WX := fun cls d _ H' => W cls d σ0 H'
theorem re_uniX {scope : Scope} {e : Expr} {m : ME} (h : ∀ σ0 s H C cl fp xe, Takes (BkX X scope s H C cl fp xe) (WB W σ0) → RE (BkX X scope s H C cl fp xe) (WB W σ0) st e m) : ∃ te : L2.St → TE, (∀ σ0 s H C cl fp xe, Takes (BkX X scope s H C cl fp xe) (WB W σ0) → PE (BkX X scope s H C cl fp xe) e (te σ0)) ∧
    ∀ σ0 H0 B Ls G S z σ H Q, Stt X.K st H0 B Ls G S z σ H → Ct X (WB W σ0) st σ H (m S z) (fun x z' H' => ∀ v, Bor X.K (hid st H') v x → Q v H') → te σ0 σ H Q := by
  refine ⟨fun σ0 σ H Q => ∀ s H' C cl fp xe tk, Classical.choose (h σ0 s H' C cl fp xe tk) σ H Q, fun σ0 s H C cl fp xe tk => ?_, fun σ0 H0 B Ls G S z σ H Q hs hq s H' C cl fp xe tk => ?_⟩
  · exact ⟨fun pins s' σ H' Q I hw => (Classical.choose_spec (h σ0 s H C cl fp xe tk)).1.run pins s' σ H' Q I (hw s H C cl fp xe tk)⟩
  · exact (Classical.choose_spec (h σ0 s H' C cl fp xe tk)).2 H0 B Ls G S z σ H Q hs hq
def LcKX (X : Cx) (W : WX) (st : Option Addr) (H0 B : Hp) (Ls : List (Option (V × Val))) (G : List Addr) (S : List Sv) (σ : L2.St) (D : Addr) (H1 : Hp) (Q : VK) : Rs Val → Prop
  | .ok (.il acc) z => ∀ H av, Stt X.K st H0 B Ls (D :: G) S z σ H → H D = some (.lst av) → RepTs X.K H av acc → Q (.ref D) H
  | .ex c z => ∀ H cv d, Stt X.K st H0 B Ls (D :: G) S z σ H → (∀ a o, st ≠ some a → a ≠ D → H1 a = some o → H a = some o) → ExR X.K X.mg c cv d H → W cv d σ H
  | _ => False
structure LcPX (X : Cx) (W : WX) (st : Option Addr) (H0 B : Hp) (Ls : List (Option (V × Val))) (G : List Addr) (S : List Sv) (σ : L2.St) (D : Addr) (Q : VK) (j : Nat) (c : MT) (m : ME) (H1 : Hp) (ts : List T) (H : Hp) (z : Zs) (acc : List T) (av : List V) : Prop where
  s : Stt X.K st H0 B Ls (D :: G) S z σ H
  d : H D = some (.lst av)
  r : RepTs X.K H av acc
  k : ∀ a o, st ≠ some a → a ≠ D → H1 a = some o → H a = some o
  q : LcKX X W st H0 B Ls G S σ D H1 Q (lcX j c m (wipS j S) ts acc z)
theorem lc_turnX {j : Nat} {c : MT} {m : ME} {tt : TT} {te : L2.St → TE}
    (fc : ∀ H0 B Ls G S z σ H Q, Stt X.K st H0 B Ls G S z σ H → Ct X W0 st σ H (c S z) (fun x z' H' => Q x H') → tt σ H Q)
    (fm : ∀ σ0 H0 B Ls G S z σ H Q, Stt X.K st H0 B Ls G S z σ H → Ct X (WB W σ0) st σ H (m S z) (fun x z' H' => ∀ v, Bor X.K (hid st H') v x → Q v H') → te σ0 σ H Q)
    {H0 B H1 H : Hp} {Ls : List (Option (V × Val))} {G : List Addr} {S : List Sv} {σ : L2.St} {D : Addr} {Q : VK} {z : Zs} {acc ts : List T} {av : List V} {t : T} {v : V}
    (P : LcPX X W st H0 B Ls G S σ D Q j c m H1 (t :: ts) H z acc av) (r : RepT X.K H v t) :
    gName j v (wipe σ [j]) H fun σ2 H2 => wipe σ2 [j] = wipe σ [j] ∧ tt σ2 H2 fun b H3 => if b = true then te σ σ2 H3 fun y H4 => ∃ acc', H4 D = some (.lst acc') ∧ acc'.length < sizeLine ∧ (∃ z acc av, LcPX X W st H0 B Ls G S σ D Q j c m H1 ts (L2.upd H4 D (.lst (acc' ++ [y]))) z acc av)
      else ∃ z acc av, LcPX X W st H0 B Ls G S σ D Q j c m H1 ts H3 z acc av := by
  have hq := P.q
  unfold lcX at hq
  split at hq
  · rename_i hj
    have hj' : j < S.length := by unfold wipS at hj; simpa using hj
    have hs := P.s.slot hj' r
    have nD : st ≠ some D := by
      obtain ⟨Gs, _, _, fr⟩ := P.s.ex
      exact P.s.nst (fr D (by simp)).1
    refine ⟨by simp [wipe], ?_⟩
    show tt ((σ.set j none).set j (some v)) H _
    unfold wipS at hq
    refine fc _ _ _ _ _ _ _ _ _ hs ?_
    cases ec : c ((S.set j .un).set j (.o (.im t))) z with
    | no => rw [ec] at hq; exact hq.elim
    | ex d z1 => rw [ec] at hq; exact hq.elim
    | ok b z1 =>
      rw [ec] at hq
      intro H3 x3 hz3
      have s3 := P.s.grow x3 hz3
      have d3 := x3.k D _ nD P.d
      have r3 := P.r.mono (x3.le P.s.zr)
      cases b with
      | false => exact iteF ⟨z1, acc, av, s3, d3, r3, fun a o h1 h2 h3 => x3.k a o h1 (P.k a o h1 h2 h3), hq⟩
      | true =>
        refine iteT ?_
        refine fm σ _ _ _ _ _ _ _ _ _ (hs.grow x3 hz3) ?_
        dsimp only at hq
        cases em : m ((S.set j .un).set j (.o (.im t))) z1 with
        | no => rw [em] at hq; exact hq.elim
        | ex d z2 =>
          rw [em] at hq
          intro cv dd H4 x4 hz4 xr
          exact hq H4 cv dd (s3.grow x4 hz4) (fun a o h1 h2 h3 => x4.k a o h1 (x3.k a o h1 (P.k a o h1 h2 h3))) xr
        | ok y z2 =>
          rw [em] at hq
          intro H4 x4 hz4 w hw
          cases y with
          | im u =>
            dsimp only at hq
            split at hq
            · rename_i hl
              have s4 := s3.grow x4 hz4
              have d4 := x4.k D _ nD d3
              have r4 := r3.mono (x4.le s3.zr)
              refine ⟨av, d4, by rw [r4.length]; exact hl, z2, acc ++ [u], av ++ [w], s4.chgG d4 True.intro True.intro, upd_same, ?_, fun a o h1 h2 h3 => ?_, hq⟩
              · cases hw with
                | im hw => exact (r4.append (.one (repT_hid hw))).mono (Le.upd_lst d4)
              · rw [upd_ne h2]
                exact x4.k a o h1 (x3.k a o h1 (P.k a o h1 h2 h3))
            · exact hq.elim
          | _ => exact hq.elim
  · exact hq.elim
theorem lc_startX {H0 B H1 : Hp} {Ls : List (Option (V × Val))} {G : List Addr} {S : List Sv} {σ : L2.St} {Q : VK} {z1 : Zs} {D : Addr} {j : Nat} {c : MT} {m : ME} {ts : List T} (h1 : Stt X.K st H0 B Ls G S z1 σ H1) (nD : H1 D = none)
    (hq : Ct X W st σ H1 (lcX j c m (wipS j S) ts [] z1) (fun x z' H' => ∀ v G', Own X.K H' v x G' → Stt X.K st H0 B Ls (G' ++ G) S z' σ H' → Q v H')) :
    LcKX X W st H0 B Ls G S σ D H1 (fun v H' => (∀ a o, st ≠ some a → a ≠ D → H1 a = some o → H' a = some o) → Q v H') (lcX j c m (wipS j S) ts [] z1) := by
  cases e : lcX j c m (wipS j S) ts [] z1 with
  | ok x z =>
    obtain ⟨us, rfl⟩ := lcX_il e
    rw [e] at hq
    exact fun H av hs hd r k => hq H (SameX.two h1 hs nD k) hs.zr _ [D] (.il hd r) (by simpa using hs)
  | ex d z =>
    rw [e] at hq
    exact fun H cv dd hs k xr => hq cv dd H (SameX.two h1 hs nD k) hs.zr xr
  | no => rw [e] at hq; exact hq
theorem lc_rdX {it : ME} {c : MT} {m : ME} {ti : TE} {tt : TT} {te : L2.St → TE} (j : Nat)
    (fi : ∀ H0 B Ls G S z σ H Q, Stt X.K st H0 B Ls G S z σ H → Ct X W st σ H (it S z) (fun x z' H' => ∀ v, Bor X.K (hid st H') v x → Q v H') → ti σ H Q)
    (ft : ∀ H0 B Ls G S z σ H Q, Stt X.K st H0 B Ls G S z σ H → Ct X W0 st σ H (c S z) (fun x z' H' => Q x H') → tt σ H Q)
    (fe : ∀ σ0 H0 B Ls G S z σ H Q, Stt X.K st H0 B Ls G S z σ H → Ct X (WB W σ0) st σ H (m S z) (fun x z' H' => ∀ v, Bor X.K (hid st H') v x → Q v H') → te σ0 σ H Q) :
    ∀ H0 B Ls G S z σ H Q, Stt X.K st H0 B Ls G S z σ H → Ct X W st σ H (eLcX it j c m S z) (fun x z' H' => ∀ v G', Own X.K H' v x G' → Stt X.K st H0 B Ls (G' ++ G) S z' σ H' → Q v H') → tLc (iAny X.K ti) (gName j) tt (te σ) [j] σ H Q := by
  intro H0 B Ls G S z σ H Q h hq
  refine fi H0 B Ls G S z σ H _ h (hq.bind fun y z1 H1 _ x1 hz1 hq1 v hv => ?_)
  have h1 := h.grow x1 hz1
  have start : ∀ {ts : List T} {D : Addr}, H1 D = none → Ct X W st σ H1 (lcX j c m (wipS j S) ts [] z1) (fun x z' H' => ∀ v G', Own X.K H' v x G' → Stt X.K st H0 B Ls (G' ++ G) S z' σ H' → Q v H') →
      ∃ z acc av, LcPX X W st H0 B Ls G S σ D (fun v H' => (∀ a o, st ≠ some a → a ≠ D → H1 a = some o → H' a = some o) → Q v H') j c m H1 ts (L2.upd H1 D (.lst [])) z acc av := fun {ts D} nD hq1 => by
    have sn : Same H1 (L2.upd H1 D (.lst [])) := Same.upd_new nD
    refine ⟨z1, [], [], h1.add (G' := [D]) (.of_same sn) (hz1.new sn) (by simp) (fun a ha => by simp at ha; subst ha; exact nD) (fun a ha => by simp at ha; subst ha; exact ⟨_, upd_same, True.intro⟩), upd_same, .nil, fun a o _ _ e => sn a o e, lc_startX h1 nD hq1⟩
  have fin : ∀ {D : Addr} {H : Hp}, (∃ z acc av, LcPX X W st H0 B Ls G S σ D (fun v H' => (∀ a o, st ≠ some a → a ≠ D → H1 a = some o → H' a = some o) → Q v H') j c m H1 [] H z acc av) → Q (.ref D) H := fun {D H} ⟨z, acc, av, P⟩ => by
    have hq := P.q
    exact hq H av P.s P.d P.r P.k
  have nst : ∀ {D a : Addr} {o : HO}, H1 D = none → H1 a = some o → a ≠ D := fun {D a o} nD e => ne_of_none e nD
  cases y with
  | im u =>
    cases u with
    | tup ts =>
      cases hv with
      | im hv =>
        cases hv with
        | @tup a xs _ r1 r2 =>
          have r2' := rep_hid r2
          refine .inr ⟨a, rfl, ⟨xs, sqt_hid r1⟩, fun D nD => ?_⟩
          have lek : ∀ {H : Hp}, (∀ b o, st ≠ some b → b ≠ D → H1 b = some o → H b = some o) → Le H1 H := fun {H} k => by
            have nt : ∀ b, st = some b → ∃ ys, H1 b = some (.lst ys) := fun b e => let ⟨l, q, _⟩ := hz1 b e; ⟨_, q⟩
            refine ⟨fun b ys e => k b _ (fun c => ?_) (ne_of_none e nD) e, fun b o ys e => k b _ (fun c => ?_) (ne_of_none e nD) e, fun b o ys e => k b _ (fun c => ?_) (ne_of_none e nD) e⟩
            · obtain ⟨_, q⟩ := nt b c; rw [e] at q; cases q
            · obtain ⟨_, q⟩ := nt b c; rw [e] at q; cases q
            · obtain ⟨_, q⟩ := nt b c; rw [e] at q; cases q
          refine lc_tup (K := X.K) (a := a) (xs := xs) (fun i H => ∃ z acc av, LcPX X W st H0 B Ls G S σ D _ j c m H1 (ts.drop i) H z acc av) (start nD hq1) (fun i H _ ⟨_, _, _, P⟩ => (lek P.k).sqt (sqt_hid r1)) (fun i w H ew ⟨z2, acc, av, P⟩ => ?_) (fun H P => fin (by rw [r2.length, List.drop_length] at P; exact P))
          obtain ⟨t, et, rt⟩ := r2'.getV ew
          obtain ⟨hl, e2⟩ := List.getElem?_eq_some_iff.mp et
          rw [List.drop_eq_getElem_cons hl, e2] at P
          exact lc_turnX ft fe P (rt.mono (lek P.k))
    | _ => exact hq1.elim
  | il ts =>
    cases hv with
    | @il a xs _ r1 r2 =>
      have r2' := rep_hid r2
      have r1' := not_hid r1
      have na : st ≠ some a := fun c => by
        unfold hid at r1
        rw [if_pos c] at r1; cases r1
      refine .inl ⟨a, rfl, ⟨xs, .of r1'⟩, fun D nD => ?_⟩
      have lek : ∀ {H : Hp}, (∀ b o, st ≠ some b → b ≠ D → H1 b = some o → H b = some o) → Le H1 H := fun {H} k => by
        have nt : ∀ b, st = some b → ∃ ys, H1 b = some (.lst ys) := fun b e => let ⟨l, q, _⟩ := hz1 b e; ⟨_, q⟩
        refine ⟨fun b ys e => k b _ (fun c => ?_) (ne_of_none e nD) e, fun b o ys e => k b _ (fun c => ?_) (ne_of_none e nD) e, fun b o ys e => k b _ (fun c => ?_) (ne_of_none e nD) e⟩
        · obtain ⟨_, q⟩ := nt b c; rw [e] at q; cases q
        · obtain ⟨_, q⟩ := nt b c; rw [e] at q; cases q
        · obtain ⟨_, q⟩ := nt b c; rw [e] at q; cases q
      refine lc_list (K := X.K) (a := a) (xs := xs) (fun i H => ∃ z acc av, LcPX X W st H0 B Ls G S σ D _ j c m H1 (ts.drop i) H z acc av) (start nD hq1) (fun i H _ ⟨_, _, _, P⟩ => .of (P.k a _ na (ne_of_none r1' nD) r1')) (fun i w H ew ⟨z2, acc, av, P⟩ => ?_) (fun H P => fin (by rw [r2.length, List.drop_length] at P; exact P))
      obtain ⟨t, et, rt⟩ := r2'.getV ew
      obtain ⟨hl, e2⟩ := List.getElem?_eq_some_iff.mp et
      rw [List.drop_eq_getElem_cons hl, e2] at P
      exact lc_turnX ft fe P (rt.mono (lek P.k))
  | _ => exact hq1.elim
theorem fe_lcX {elt tg iter : Expr} {ifs : List Expr} {scope : Scope} {x : Str} {it : ME} {c : MT} {m : ME} (j : Nat) (hst : X.stack = X.env :: X.outer) (hfr : X.env.frame = some X.env.locals) (tk : Takes X W) (hc : X.calm = true) (hN : X.N.Nodup) (hi : RE X W st iter it) (ok : BlkOk X.N X.env.scope scope [(x, j)])
    (hg : ∀ s H C cl fp, PG (Bk X scope s H C cl fp) tg (gName j)) (ht : ∀ s H C cl fp, RTs (Bk X scope s H C cl fp) W0 st ifs c) (he : ∀ σ0 s H C cl fp xe, Takes (BkX X scope s H C cl fp xe) (WB W σ0) → RE (BkX X scope s H C cl fp xe) (WB W σ0) st elt m)
    (hs : ∀ x, foldedSetIterable iter X.env x = pure x := by intro _; rfl) : FE X W st (.ListComp elt [⟨tg, iter, ifs, 0⟩] scope pos) (eLcX it j c m) := by
  obtain ⟨ti, pi, fi⟩ := hi
  obtain ⟨tt, pt, ft⟩ := rts_uni ht
  obtain ⟨te, pe, fe⟩ := re_uniX he
  exact ⟨_, pe_lcX hst hfr tk hc hN (pi_any pi) ok hg pt pe hs, lc_rdX j fi ft fe⟩
end
end MM

namespace Law
open PySem PySem.Spec PyProof.Rows L2 MM
def top (i : Nat) : Stmt := PySem.Challenge.pw_hornbook_k37_resolve.main.body.getD i (.Pass ⟨0, 0, 0, 0⟩)
abbrev s_is_variable : Stmt := top 5
abbrev N_is_variable : List Str := ["node"]
theorem sc_is_variable : FnScope N_is_variable ["node"] (defScope s_is_variable) := ⟨rfl, rfl, rfl, by decide +kernel, rfl, by decide +kernel, by decide +kernel⟩
abbrev s_is_symbol : Stmt := top 6
abbrev N_is_symbol : List Str := ["node"]
theorem sc_is_symbol : FnScope N_is_symbol ["node"] (defScope s_is_symbol) := ⟨rfl, rfl, rfl, by decide +kernel, rfl, by decide +kernel, by decide +kernel⟩
abbrev s_end_of : Stmt := top 7
abbrev N_end_of : List Str := ["term", "start", "missing", "at", "node"]
theorem sc_end_of : FnScope N_end_of ["term", "start"] (defScope s_end_of) := ⟨rfl, rfl, rfl, by decide +kernel, rfl, by decide +kernel, by decide +kernel⟩
abbrev s_parts : Stmt := top 8
abbrev N_parts : List Str := ["term", "found", "at", "_", "end"]
theorem sc_parts : FnScope N_parts ["term"] (defScope s_parts) := ⟨rfl, rfl, rfl, by decide +kernel, rfl, by decide +kernel, by decide +kernel⟩
abbrev s_list_term : Stmt := top 9
abbrev N_list_term : List Str := ["items", "tail", "nodes", "item"]
theorem sc_list_term : FnScope N_list_term ["items", "tail"] (defScope s_list_term) := ⟨rfl, rfl, rfl, by decide +kernel, rfl, by decide +kernel, by decide +kernel⟩
abbrev s_list_items : Stmt := top 10
abbrev N_list_items : List Str := ["term", "found", "at", "end"]
theorem sc_list_items : FnScope N_list_items ["term"] (defScope s_list_items) := ⟨rfl, rfl, rfl, by decide +kernel, rfl, by decide +kernel, by decide +kernel⟩
abbrev s_variables : Stmt := top 11
abbrev N_variables : List Str := ["term", "found", "node"]
theorem sc_variables : FnScope N_variables ["term"] (defScope s_variables) := ⟨rfl, rfl, rfl, by decide +kernel, rfl, by decide +kernel, by decide +kernel⟩
abbrev s_renumber : Stmt := top 12
abbrev N_renumber : List Str := ["term", "first", "numbers", "nodes", "node"]
theorem sc_renumber : FnScope N_renumber ["term", "first"] (defScope s_renumber) := ⟨rfl, rfl, rfl, by decide +kernel, rfl, by decide +kernel, by decide +kernel⟩
abbrev s_is_control : Stmt := top 16
abbrev N_is_control : List Str := ["name", "arity"]
theorem sc_is_control : FnScope N_is_control ["name", "arity"] (defScope s_is_control) := ⟨rfl, rfl, rfl, by decide +kernel, rfl, by decide +kernel, by decide +kernel⟩
abbrev s_is_built_in : Stmt := top 17
abbrev N_is_built_in : List Str := ["name", "arity"]
theorem sc_is_built_in : FnScope N_is_built_in ["name", "arity"] (defScope s_is_built_in) := ⟨rfl, rfl, rfl, by decide +kernel, rfl, by decide +kernel, by decide +kernel⟩
abbrev s_apply : Stmt := top 20
abbrev N_apply : List Str := ["substitution", "term", "nodes", "node"]
theorem sc_apply : FnScope N_apply ["substitution", "term"] (defScope s_apply) := ⟨rfl, rfl, rfl, by decide +kernel, rfl, by decide +kernel, by decide +kernel⟩
abbrev s_binding : Stmt := top 21
abbrev N_binding : List Str := ["left", "right", "at", "a", "b", "number", "value"]
theorem sc_binding : FnScope N_binding ["left", "right", "at"] (defScope s_binding) := ⟨rfl, rfl, rfl, by decide +kernel, rfl, by decide +kernel, by decide +kernel⟩
abbrev s_unify : Stmt := top 22
abbrev N_unify : List Str := ["left", "right", "bound", "found", "at", "pair", "new", "sizes", "number"]
theorem sc_unify : FnScope N_unify ["left", "right"] (defScope s_unify) := ⟨rfl, rfl, rfl, by decide +kernel, rfl, by decide +kernel, by decide +kernel⟩
abbrev s_is_goal : Stmt := top 25
abbrev N_is_goal : List Str := ["term", "node"]
theorem sc_is_goal : FnScope N_is_goal ["term"] (defScope s_is_goal) := ⟨rfl, rfl, rfl, by decide +kernel, rfl, by decide +kernel, by decide +kernel⟩
abbrev s_conjuncts : Stmt := top 26
abbrev N_conjuncts : List Str := ["body", "found", "waiting", "term", "left", "right"]
theorem sc_conjuncts : FnScope N_conjuncts ["body"] (defScope s_conjuncts) := ⟨rfl, rfl, rfl, by decide +kernel, rfl, by decide +kernel, by decide +kernel⟩
abbrev s_head_and_goals : Stmt := top 27
abbrev N_head_and_goals : List Str := ["clause", "head", "body", "goals", "term"]
theorem sc_head_and_goals : FnScope N_head_and_goals ["clause"] (defScope s_head_and_goals) := ⟨rfl, rfl, rfl, by decide +kernel, rfl, by decide +kernel, by decide +kernel⟩
abbrev s_numbered : Stmt := top 28
abbrev N_numbered : List Str := ["terms", "first"]
theorem sc_numbered : FnScope N_numbered ["terms", "first"] (defScope s_numbered) := ⟨rfl, rfl, rfl, by decide +kernel, rfl, by decide +kernel, by decide +kernel⟩
abbrev s_next_number : Stmt := top 29
abbrev N_next_number : List Str := ["terms", "first", "number"]
theorem sc_next_number : FnScope N_next_number ["terms"] (defScope s_next_number) := ⟨rfl, rfl, rfl, by decide +kernel, rfl, by decide +kernel, by decide +kernel⟩
abbrev s_small : Stmt := top 30
abbrev N_small : List Str := ["term"]
theorem sc_small : FnScope N_small ["term"] (defScope s_small) := ⟨rfl, rfl, rfl, by decide +kernel, rfl, by decide +kernel, by decide +kernel⟩
abbrev s_replaced : Stmt := top 31
abbrev N_replaced : List Str := ["unifier", "terms", "term"]
theorem sc_replaced : FnScope N_replaced ["unifier", "terms"] (defScope s_replaced) := ⟨rfl, rfl, rfl, by decide +kernel, rfl, by decide +kernel, by decide +kernel⟩
abbrev s_unified : Stmt := top 32
abbrev N_unified : List Str := ["terms", "goal", "row", "head", "goals", "other"]
theorem sc_unified : FnScope N_unified ["terms", "goal", "row"] (defScope s_unified) := ⟨rfl, rfl, rfl, by decide +kernel, rfl, by decide +kernel, by decide +kernel⟩
abbrev s_resolve_row : Stmt := top 33
abbrev N_resolve_row : List Str := ["terms", "goal", "row", "unifier", "goals", "term"]
theorem sc_resolve_row : FnScope N_resolve_row ["terms", "goal", "row"] (defScope s_resolve_row) := ⟨rfl, rfl, rfl, by decide +kernel, rfl, by decide +kernel, by decide +kernel⟩
abbrev s_resolve : Stmt := top 34
abbrev N_resolve : List Str := ["query", "goals", "pick", "clause", "row", "many", "terms", "found", "end"]
theorem sc_resolve : FnScope N_resolve ["query", "goals", "pick", "clause"] (defScope s_resolve) := ⟨rfl, rfl, rfl, by decide +kernel, rfl, by decide +kernel, by decide +kernel⟩
abbrev s_pair_of : Stmt := top 35
abbrev N_pair_of : List Str := ["terms", "found"]
theorem sc_pair_of : FnScope N_pair_of ["terms"] (defScope s_pair_of) := ⟨rfl, rfl, rfl, by decide +kernel, rfl, by decide +kernel, by decide +kernel⟩
abbrev s__law_stream : Stmt := top 37
abbrev N__law_stream : List Str := ["script", "mixed", "cell"]
theorem sc__law_stream : FnScope N__law_stream ["script"] (defScope s__law_stream) := ⟨rfl, rfl, rfl, by decide +kernel, rfl, by decide +kernel, by decide +kernel⟩
abbrev s__law_draw : Stmt := top 38
abbrev N__law_draw : List Str := ["stream", "many", "value"]
theorem sc__law_draw : FnScope N__law_draw ["stream", "many"] (defScope s__law_draw) := ⟨rfl, rfl, rfl, by decide +kernel, rfl, by decide +kernel, by decide +kernel⟩
abbrev s__law_is_variable : Stmt := top 39
abbrev N__law_is_variable : List Str := ["node"]
theorem sc__law_is_variable : FnScope N__law_is_variable ["node"] (defScope s__law_is_variable) := ⟨rfl, rfl, rfl, by decide +kernel, rfl, by decide +kernel, by decide +kernel⟩
abbrev s__law_end : Stmt := top 40
abbrev N__law_end : List Str := ["term", "start", "missing", "at"]
theorem sc__law_end : FnScope N__law_end ["term", "start"] (defScope s__law_end) := ⟨rfl, rfl, rfl, by decide +kernel, rfl, by decide +kernel, by decide +kernel⟩
abbrev s__law_parts : Stmt := top 41
abbrev N__law_parts : List Str := ["term", "found", "at", "end"]
theorem sc__law_parts : FnScope N__law_parts ["term"] (defScope s__law_parts) := ⟨rfl, rfl, rfl, by decide +kernel, rfl, by decide +kernel, by decide +kernel⟩
abbrev s__law_put : Stmt := top 42
abbrev N__law_put : List Str := ["table", "term", "nodes", "node"]
theorem sc__law_put : FnScope N__law_put ["table", "term"] (defScope s__law_put) := ⟨rfl, rfl, rfl, by decide +kernel, rfl, by decide +kernel, by decide +kernel⟩
abbrev s__law_numbered : Stmt := top 43
abbrev N__law_numbered : List Str := ["terms", "first", "table", "found", "term", "node"]
theorem sc__law_numbered : FnScope N__law_numbered ["terms", "first"] (defScope s__law_numbered) := ⟨rfl, rfl, rfl, by decide +kernel, rfl, by decide +kernel, by decide +kernel⟩
abbrev s__law_fresh : Stmt := top 44
abbrev N__law_fresh : List Str := ["terms", "first", "term", "node"]
theorem sc__law_fresh : FnScope N__law_fresh ["terms"] (defScope s__law_fresh) := ⟨rfl, rfl, rfl, by decide +kernel, rfl, by decide +kernel, by decide +kernel⟩
abbrev s__law_bound : Stmt := top 45
abbrev N__law_bound : List Str := ["left", "right", "at", "a", "b", "pair"]
theorem sc__law_bound : FnScope N__law_bound ["left", "right", "at"] (defScope s__law_bound) := ⟨rfl, rfl, rfl, by decide +kernel, rfl, by decide +kernel, by decide +kernel⟩
abbrev s__law_unify : Stmt := top 46
abbrev N__law_unify : List Str := ["left", "right", "most", "found", "at", "pair", "one", "size", "number", "value"]
theorem sc__law_unify : FnScope N__law_unify ["left", "right"] (defScope s__law_unify) := ⟨rfl, rfl, rfl, by decide +kernel, rfl, by decide +kernel, by decide +kernel⟩
abbrev s__law_conjuncts : Stmt := top 47
abbrev N__law_conjuncts : List Str := ["body", "found", "waiting", "term", "rows"]
theorem sc__law_conjuncts : FnScope N__law_conjuncts ["body"] (defScope s__law_conjuncts) := ⟨rfl, rfl, rfl, by decide +kernel, rfl, by decide +kernel, by decide +kernel⟩
abbrev s__law_row : Stmt := top 48
abbrev N__law_row : List Str := ["clause", "rows"]
theorem sc__law_row : FnScope N__law_row ["clause"] (defScope s__law_row) := ⟨rfl, rfl, rfl, by decide +kernel, rfl, by decide +kernel, by decide +kernel⟩
abbrev s__law_resolve : Stmt := top 49
abbrev N__law_resolve : List Str := ["terms", "goal", "row", "other", "table", "term", "found"]
theorem sc__law_resolve : FnScope N__law_resolve ["terms", "goal", "row"] (defScope s__law_resolve) := ⟨rfl, rfl, rfl, by decide +kernel, rfl, by decide +kernel, by decide +kernel⟩
abbrev s__law_leaf : Stmt := top 50
abbrev N__law_leaf : List Str := ["stream", "widest", "pick"]
theorem sc__law_leaf : FnScope N__law_leaf ["stream", "widest"] (defScope s__law_leaf) := ⟨rfl, rfl, rfl, by decide +kernel, rfl, by decide +kernel, by decide +kernel⟩
abbrev s__law_argument : Stmt := top 51
abbrev N__law_argument : List Str := ["stream", "widest", "pick"]
theorem sc__law_argument : FnScope N__law_argument ["stream", "widest"] (defScope s__law_argument) := ⟨rfl, rfl, rfl, by decide +kernel, rfl, by decide +kernel, by decide +kernel⟩
abbrev s__law_atom_of : Stmt := top 52
abbrev N__law_atom_of : List Str := ["stream", "widest", "pick", "rows"]
theorem sc__law_atom_of : FnScope N__law_atom_of ["stream", "widest"] (defScope s__law_atom_of) := ⟨rfl, rfl, rfl, by decide +kernel, rfl, by decide +kernel, by decide +kernel⟩
abbrev s__law_joined : Stmt := top 53
abbrev N__law_joined : List Str := ["goals", "body", "k"]
theorem sc__law_joined : FnScope N__law_joined ["goals"] (defScope s__law_joined) := ⟨rfl, rfl, rfl, by decide +kernel, rfl, by decide +kernel, by decide +kernel⟩
abbrev s__law_clause : Stmt := top 54
abbrev N__law_clause : List Str := ["stream", "head", "many", "goals", "k"]
theorem sc__law_clause : FnScope N__law_clause ["stream"] (defScope s__law_clause) := ⟨rfl, rfl, rfl, by decide +kernel, rfl, by decide +kernel, by decide +kernel⟩
abbrev s__law_atom : Stmt := top 55
abbrev N__law_atom : List Str := ["stream"]
theorem sc__law_atom : FnScope N__law_atom ["stream"] (defScope s__law_atom) := ⟨rfl, rfl, rfl, by decide +kernel, rfl, by decide +kernel, by decide +kernel⟩
abbrev s__law_known : Stmt := top 56
abbrev N__law_known : List Str := ["stream", "which", "x", "y", "z", "edge", "path", "clause", "both", "facts", "goals", "end", "step", "k"]
theorem sc__law_known : FnScope N__law_known ["stream", "which"] (defScope s__law_known) := ⟨rfl, rfl, rfl, by decide +kernel, rfl, by decide +kernel, by decide +kernel⟩
abbrev s__law_program : Stmt := top 57
abbrev N__law_program : List Str := ["stream", "program", "k"]
theorem sc__law_program : FnScope N__law_program ["stream"] (defScope s__law_program) := ⟨rfl, rfl, rfl, by decide +kernel, rfl, by decide +kernel, by decide +kernel⟩
abbrev s__law_query : Stmt := top 58
abbrev N__law_query : List Str := ["stream", "program", "head", "nodes", "k", "node"]
theorem sc__law_query : FnScope N__law_query ["stream", "program"] (defScope s__law_query) := ⟨rfl, rfl, rfl, by decide +kernel, rfl, by decide +kernel, by decide +kernel⟩
abbrev s__law_large : Stmt := top 59
abbrev N__law_large : List Str := ["stream", "size", "row"]
theorem sc__law_large : FnScope N__law_large ["stream"] (defScope s__law_large) := ⟨rfl, rfl, rfl, by decide +kernel, rfl, by decide +kernel, by decide +kernel⟩
abbrev s_law : Stmt := top 60
abbrev N_law : List Str := ["script", "stream", "program", "query", "k", "goals", "clause", "pick", "one", "two", "pair", "far", "table", "row", "due", "end", "given", "actual", "goal"]
theorem sc_law : FnScope N_law ["script"] (defScope s_law) := ⟨rfl, rfl, rfl, by decide +kernel, rfl, by decide +kernel, by decide +kernel⟩
def k_BUILT_IN : T := .tup [.tup [.str (Str.ofString "="), .int (2)], .tup [.str (Str.ofString "\\="), .int (2)], .tup [.str (Str.ofString "=="), .int (2)], .tup [.str (Str.ofString "\\=="), .int (2)], .tup [.str (Str.ofString "@<"), .int (2)], .tup [.str (Str.ofString "compare"), .int (3)], .tup [.str (Str.ofString "var"), .int (1)], .tup [.str (Str.ofString "nonvar"), .int (1)], .tup [.str (Str.ofString "atom"), .int (1)], .tup [.str (Str.ofString "integer"), .int (1)], .tup [.str (Str.ofString "callable"), .int (1)], .tup [.str (Str.ofString "functor"), .int (3)], .tup [.str (Str.ofString "arg"), .int (3)], .tup [.str (Str.ofString "=.."), .int (2)], .tup [.str (Str.ofString "copy_term"), .int (2)], .tup [.str (Str.ofString "sort"), .int (2)], .tup [.str (Str.ofString "is"), .int (2)], .tup [.str (Str.ofString "=:="), .int (2)], .tup [.str (Str.ofString "<"), .int (2)], .tup [.str (Str.ofString "=<"), .int (2)], .tup [.str (Str.ofString "write"), .int (1)], .tup [.str (Str.ofString "nl"), .int (0)], .tup [.str (Str.ofString "asserta"), .int (1)], .tup [.str (Str.ofString "assertz"), .int (1)], .tup [.str (Str.ofString "retract"), .int (1)], .tup [.str (Str.ofString "tabled"), .int (1)], .tup [.str (Str.ofString "solve"), .int (2)]]
def k_CONTROL : T := .tup [.tup [.str (Str.ofString "true"), .int (0)], .tup [.str (Str.ofString "fail"), .int (0)], .tup [.str (Str.ofString "!"), .int (0)], .tup [.str (Str.ofString ","), .int (2)], .tup [.str (Str.ofString ";"), .int (2)], .tup [.str (Str.ofString "->"), .int (2)], .tup [.str (Str.ofString "\\+"), .int (1)], .tup [.str (Str.ofString "catch"), .int (3)], .tup [.str (Str.ofString "findall"), .int (3)], .tup [.str (Str.ofString "throw"), .int (1)], .tup [.str (Str.ofString "call"), .int (1)], .tup [.str (Str.ofString "call"), .int (2)], .tup [.str (Str.ofString "call"), .int (3)], .tup [.str (Str.ofString "call"), .int (4)], .tup [.str (Str.ofString "call"), .int (5)], .tup [.str (Str.ofString "call"), .int (6)], .tup [.str (Str.ofString "call"), .int (7)], .tup [.str (Str.ofString "call"), .int (8)]]
def k_MOST_NODES : T := .int (200)
def k_TRUE : T := .tup [.tup [.str (Str.ofString "f"), .str (Str.ofString "true"), .int (0)]]
set_option maxHeartbeats 8000000 in
structure Tx (K : PySem.W.Frag) (mg : Str → Option Value) where
  a_is_variable : Addr
  d_is_variable : FuncData
  F_is_variable : Fun K "is_variable" "is_variable" s_is_variable a_is_variable d_is_variable
  b_is_variable : Binds K d_is_variable ["node"] []
  m_is_variable : mg "is_variable" = some (.ref a_is_variable)
  a_is_symbol : Addr
  d_is_symbol : FuncData
  F_is_symbol : Fun K "is_symbol" "is_symbol" s_is_symbol a_is_symbol d_is_symbol
  b_is_symbol : Binds K d_is_symbol ["node"] []
  m_is_symbol : mg "is_symbol" = some (.ref a_is_symbol)
  a_end_of : Addr
  d_end_of : FuncData
  F_end_of : Fun K "end_of" "end_of" s_end_of a_end_of d_end_of
  b_end_of : Binds K d_end_of ["term", "start"] []
  m_end_of : mg "end_of" = some (.ref a_end_of)
  a_parts : Addr
  d_parts : FuncData
  F_parts : Fun K "parts" "parts" s_parts a_parts d_parts
  b_parts : Binds K d_parts ["term"] []
  m_parts : mg "parts" = some (.ref a_parts)
  a_list_term : Addr
  d_list_term : FuncData
  F_list_term : Fun K "list_term" "list_term" s_list_term a_list_term d_list_term
  ds_list_term : List Value
  dv_list_term : Vals [V.non] ds_list_term
  bd_list_term : Binds K d_list_term ["items", "tail"] ds_list_term
  bk_list_term : KBn K d_list_term ["items", "tail"] 1 ["tail"] (fun us ws => us ++ ws) (fun vs zs => vs ++ zs)
  m_list_term : mg "list_term" = some (.ref a_list_term)
  a_list_items : Addr
  d_list_items : FuncData
  F_list_items : Fun K "list_items" "list_items" s_list_items a_list_items d_list_items
  b_list_items : Binds K d_list_items ["term"] []
  m_list_items : mg "list_items" = some (.ref a_list_items)
  a_variables : Addr
  d_variables : FuncData
  F_variables : Fun K "variables" "variables" s_variables a_variables d_variables
  b_variables : Binds K d_variables ["term"] []
  m_variables : mg "variables" = some (.ref a_variables)
  a_renumber : Addr
  d_renumber : FuncData
  F_renumber : FunD K "renumber" "renumber" (defArgs s_renumber) (defBody s_renumber) (defScope s_renumber) [(V.int (0))] [] a_renumber d_renumber
  ds_renumber : List Value
  dv_renumber : Vals [(V.int (0))] ds_renumber
  bd_renumber : Binds K d_renumber ["term", "first"] ds_renumber
  b_renumber : Binds K d_renumber ["term", "first"] []
  m_renumber : mg "renumber" = some (.ref a_renumber)
  a_is_control : Addr
  d_is_control : FuncData
  F_is_control : Fun K "is_control" "is_control" s_is_control a_is_control d_is_control
  b_is_control : Binds K d_is_control ["name", "arity"] []
  m_is_control : mg "is_control" = some (.ref a_is_control)
  a_is_built_in : Addr
  d_is_built_in : FuncData
  F_is_built_in : Fun K "is_built_in" "is_built_in" s_is_built_in a_is_built_in d_is_built_in
  b_is_built_in : Binds K d_is_built_in ["name", "arity"] []
  m_is_built_in : mg "is_built_in" = some (.ref a_is_built_in)
  a_apply : Addr
  d_apply : FuncData
  F_apply : Fun K "apply" "apply" s_apply a_apply d_apply
  b_apply : Binds K d_apply ["substitution", "term"] []
  m_apply : mg "apply" = some (.ref a_apply)
  a_binding : Addr
  d_binding : FuncData
  F_binding : Fun K "binding" "binding" s_binding a_binding d_binding
  b_binding : Binds K d_binding ["left", "right", "at"] []
  m_binding : mg "binding" = some (.ref a_binding)
  a_unify : Addr
  d_unify : FuncData
  F_unify : Fun K "unify" "unify" s_unify a_unify d_unify
  b_unify : Binds K d_unify ["left", "right"] []
  m_unify : mg "unify" = some (.ref a_unify)
  a_is_goal : Addr
  d_is_goal : FuncData
  F_is_goal : Fun K "is_goal" "is_goal" s_is_goal a_is_goal d_is_goal
  b_is_goal : Binds K d_is_goal ["term"] []
  m_is_goal : mg "is_goal" = some (.ref a_is_goal)
  a_conjuncts : Addr
  d_conjuncts : FuncData
  F_conjuncts : Fun K "conjuncts" "conjuncts" s_conjuncts a_conjuncts d_conjuncts
  b_conjuncts : Binds K d_conjuncts ["body"] []
  m_conjuncts : mg "conjuncts" = some (.ref a_conjuncts)
  a_head_and_goals : Addr
  d_head_and_goals : FuncData
  F_head_and_goals : Fun K "head_and_goals" "head_and_goals" s_head_and_goals a_head_and_goals d_head_and_goals
  b_head_and_goals : Binds K d_head_and_goals ["clause"] []
  m_head_and_goals : mg "head_and_goals" = some (.ref a_head_and_goals)
  a_numbered : Addr
  d_numbered : FuncData
  F_numbered : Fun K "numbered" "numbered" s_numbered a_numbered d_numbered
  b_numbered : Binds K d_numbered ["terms", "first"] []
  m_numbered : mg "numbered" = some (.ref a_numbered)
  a_next_number : Addr
  d_next_number : FuncData
  F_next_number : Fun K "next_number" "next_number" s_next_number a_next_number d_next_number
  b_next_number : Binds K d_next_number ["terms"] []
  m_next_number : mg "next_number" = some (.ref a_next_number)
  a_small : Addr
  d_small : FuncData
  F_small : Fun K "small" "small" s_small a_small d_small
  b_small : Binds K d_small ["term"] []
  m_small : mg "small" = some (.ref a_small)
  a_replaced : Addr
  d_replaced : FuncData
  F_replaced : Fun K "replaced" "replaced" s_replaced a_replaced d_replaced
  b_replaced : Binds K d_replaced ["unifier", "terms"] []
  m_replaced : mg "replaced" = some (.ref a_replaced)
  a_unified : Addr
  d_unified : FuncData
  F_unified : Fun K "unified" "unified" s_unified a_unified d_unified
  b_unified : Binds K d_unified ["terms", "goal", "row"] []
  m_unified : mg "unified" = some (.ref a_unified)
  a_resolve_row : Addr
  d_resolve_row : FuncData
  F_resolve_row : Fun K "resolve_row" "resolve_row" s_resolve_row a_resolve_row d_resolve_row
  b_resolve_row : Binds K d_resolve_row ["terms", "goal", "row"] []
  m_resolve_row : mg "resolve_row" = some (.ref a_resolve_row)
  a_resolve : Addr
  d_resolve : FuncData
  F_resolve : Fun K "resolve" "resolve" s_resolve a_resolve d_resolve
  b_resolve : Binds K d_resolve ["query", "goals", "pick", "clause"] []
  m_resolve : mg "resolve" = some (.ref a_resolve)
  a_pair_of : Addr
  d_pair_of : FuncData
  F_pair_of : Fun K "pair_of" "pair_of" s_pair_of a_pair_of d_pair_of
  b_pair_of : Binds K d_pair_of ["terms"] []
  m_pair_of : mg "pair_of" = some (.ref a_pair_of)
  a__law_stream : Addr
  d__law_stream : FuncData
  F__law_stream : Fun K "_law_stream" "_law_stream" s__law_stream a__law_stream d__law_stream
  b__law_stream : Binds K d__law_stream ["script"] []
  m__law_stream : mg "_law_stream" = some (.ref a__law_stream)
  a__law_draw : Addr
  d__law_draw : FuncData
  F__law_draw : Fun K "_law_draw" "_law_draw" s__law_draw a__law_draw d__law_draw
  b__law_draw : Binds K d__law_draw ["stream", "many"] []
  m__law_draw : mg "_law_draw" = some (.ref a__law_draw)
  a__law_is_variable : Addr
  d__law_is_variable : FuncData
  F__law_is_variable : Fun K "_law_is_variable" "_law_is_variable" s__law_is_variable a__law_is_variable d__law_is_variable
  b__law_is_variable : Binds K d__law_is_variable ["node"] []
  m__law_is_variable : mg "_law_is_variable" = some (.ref a__law_is_variable)
  a__law_end : Addr
  d__law_end : FuncData
  F__law_end : Fun K "_law_end" "_law_end" s__law_end a__law_end d__law_end
  b__law_end : Binds K d__law_end ["term", "start"] []
  m__law_end : mg "_law_end" = some (.ref a__law_end)
  a__law_parts : Addr
  d__law_parts : FuncData
  F__law_parts : Fun K "_law_parts" "_law_parts" s__law_parts a__law_parts d__law_parts
  b__law_parts : Binds K d__law_parts ["term"] []
  m__law_parts : mg "_law_parts" = some (.ref a__law_parts)
  a__law_put : Addr
  d__law_put : FuncData
  F__law_put : Fun K "_law_put" "_law_put" s__law_put a__law_put d__law_put
  b__law_put : Binds K d__law_put ["table", "term"] []
  m__law_put : mg "_law_put" = some (.ref a__law_put)
  a__law_numbered : Addr
  d__law_numbered : FuncData
  F__law_numbered : Fun K "_law_numbered" "_law_numbered" s__law_numbered a__law_numbered d__law_numbered
  b__law_numbered : Binds K d__law_numbered ["terms", "first"] []
  m__law_numbered : mg "_law_numbered" = some (.ref a__law_numbered)
  a__law_fresh : Addr
  d__law_fresh : FuncData
  F__law_fresh : Fun K "_law_fresh" "_law_fresh" s__law_fresh a__law_fresh d__law_fresh
  b__law_fresh : Binds K d__law_fresh ["terms"] []
  m__law_fresh : mg "_law_fresh" = some (.ref a__law_fresh)
  a__law_bound : Addr
  d__law_bound : FuncData
  F__law_bound : Fun K "_law_bound" "_law_bound" s__law_bound a__law_bound d__law_bound
  b__law_bound : Binds K d__law_bound ["left", "right", "at"] []
  m__law_bound : mg "_law_bound" = some (.ref a__law_bound)
  a__law_unify : Addr
  d__law_unify : FuncData
  F__law_unify : Fun K "_law_unify" "_law_unify" s__law_unify a__law_unify d__law_unify
  b__law_unify : Binds K d__law_unify ["left", "right"] []
  m__law_unify : mg "_law_unify" = some (.ref a__law_unify)
  a__law_conjuncts : Addr
  d__law_conjuncts : FuncData
  F__law_conjuncts : Fun K "_law_conjuncts" "_law_conjuncts" s__law_conjuncts a__law_conjuncts d__law_conjuncts
  b__law_conjuncts : Binds K d__law_conjuncts ["body"] []
  m__law_conjuncts : mg "_law_conjuncts" = some (.ref a__law_conjuncts)
  a__law_row : Addr
  d__law_row : FuncData
  F__law_row : Fun K "_law_row" "_law_row" s__law_row a__law_row d__law_row
  b__law_row : Binds K d__law_row ["clause"] []
  m__law_row : mg "_law_row" = some (.ref a__law_row)
  a__law_resolve : Addr
  d__law_resolve : FuncData
  F__law_resolve : Fun K "_law_resolve" "_law_resolve" s__law_resolve a__law_resolve d__law_resolve
  b__law_resolve : Binds K d__law_resolve ["terms", "goal", "row"] []
  m__law_resolve : mg "_law_resolve" = some (.ref a__law_resolve)
  a__law_leaf : Addr
  d__law_leaf : FuncData
  F__law_leaf : Fun K "_law_leaf" "_law_leaf" s__law_leaf a__law_leaf d__law_leaf
  b__law_leaf : Binds K d__law_leaf ["stream", "widest"] []
  m__law_leaf : mg "_law_leaf" = some (.ref a__law_leaf)
  a__law_argument : Addr
  d__law_argument : FuncData
  F__law_argument : Fun K "_law_argument" "_law_argument" s__law_argument a__law_argument d__law_argument
  b__law_argument : Binds K d__law_argument ["stream", "widest"] []
  m__law_argument : mg "_law_argument" = some (.ref a__law_argument)
  a__law_atom_of : Addr
  d__law_atom_of : FuncData
  F__law_atom_of : Fun K "_law_atom_of" "_law_atom_of" s__law_atom_of a__law_atom_of d__law_atom_of
  b__law_atom_of : Binds K d__law_atom_of ["stream", "widest"] []
  m__law_atom_of : mg "_law_atom_of" = some (.ref a__law_atom_of)
  a__law_joined : Addr
  d__law_joined : FuncData
  F__law_joined : Fun K "_law_joined" "_law_joined" s__law_joined a__law_joined d__law_joined
  b__law_joined : Binds K d__law_joined ["goals"] []
  m__law_joined : mg "_law_joined" = some (.ref a__law_joined)
  a__law_clause : Addr
  d__law_clause : FuncData
  F__law_clause : Fun K "_law_clause" "_law_clause" s__law_clause a__law_clause d__law_clause
  b__law_clause : Binds K d__law_clause ["stream"] []
  m__law_clause : mg "_law_clause" = some (.ref a__law_clause)
  a__law_atom : Addr
  d__law_atom : FuncData
  F__law_atom : Fun K "_law_atom" "_law_atom" s__law_atom a__law_atom d__law_atom
  b__law_atom : Binds K d__law_atom ["stream"] []
  m__law_atom : mg "_law_atom" = some (.ref a__law_atom)
  a__law_known : Addr
  d__law_known : FuncData
  F__law_known : Fun K "_law_known" "_law_known" s__law_known a__law_known d__law_known
  b__law_known : Binds K d__law_known ["stream", "which"] []
  m__law_known : mg "_law_known" = some (.ref a__law_known)
  a__law_program : Addr
  d__law_program : FuncData
  F__law_program : Fun K "_law_program" "_law_program" s__law_program a__law_program d__law_program
  b__law_program : Binds K d__law_program ["stream"] []
  m__law_program : mg "_law_program" = some (.ref a__law_program)
  a__law_query : Addr
  d__law_query : FuncData
  F__law_query : Fun K "_law_query" "_law_query" s__law_query a__law_query d__law_query
  b__law_query : Binds K d__law_query ["stream", "program"] []
  m__law_query : mg "_law_query" = some (.ref a__law_query)
  a__law_large : Addr
  d__law_large : FuncData
  F__law_large : Fun K "_law_large" "_law_large" s__law_large a__law_large d__law_large
  b__law_large : Binds K d__law_large ["stream"] []
  m__law_large : mg "_law_large" = some (.ref a__law_large)
  a_law : Addr
  d_law : FuncData
  F_law : Fun K "law" "law" s_law a_law d_law
  b_law : Binds K d_law ["script"] []
  m_law : mg "law" = some (.ref a_law)
  n_abs : mg "abs" = none
  n_int : mg "int" = none
  n_isinstance : mg "isinstance" = none
  n_len : mg "len" = none
  n_list : mg "list" = none
  n_max : mg "max" = none
  n_min : mg "min" = none
  n_range : mg "range" = none
  n_tuple : mg "tuple" = none
  u_BUILT_IN : Value
  g_BUILT_IN : mg "BUILT_IN" = some u_BUILT_IN
  w_BUILT_IN : V
  v_BUILT_IN : RelV w_BUILT_IN u_BUILT_IN
  r_BUILT_IN : ∀ H, RepT K H w_BUILT_IN k_BUILT_IN
  u_CONTROL : Value
  g_CONTROL : mg "CONTROL" = some u_CONTROL
  w_CONTROL : V
  v_CONTROL : RelV w_CONTROL u_CONTROL
  r_CONTROL : ∀ H, RepT K H w_CONTROL k_CONTROL
  u_MOST_NODES : Value
  g_MOST_NODES : mg "MOST_NODES" = some u_MOST_NODES
  v_MOST_NODES : RelV (.int (200)) u_MOST_NODES
  u_TRUE : Value
  g_TRUE : mg "TRUE" = some u_TRUE
  w_TRUE : V
  v_TRUE : RelV w_TRUE u_TRUE
  r_TRUE : ∀ H, RepT K H w_TRUE k_TRUE
  ea_HornbookError : Addr
  gx_HornbookError : mg "HornbookError" = some (.ref ea_HornbookError)
  x_HornbookError : ExcF K mg "HornbookError"
  ea_TooLarge : Addr
  gx_TooLarge : mg "TooLarge" = some (.ref ea_TooLarge)
  x_TooLarge : ExcF K mg "TooLarge"
  ea_NotDefinite : Addr
  gx_NotDefinite : mg "NotDefinite" = some (.ref ea_NotDefinite)
  x_NotDefinite : ExcF K mg "NotDefinite"
  cx_HornbookError_TooLarge : PySem.W.exmOne K (.ref ea_HornbookError) (.ref ea_TooLarge) = some false
  cx_TooLarge_TooLarge : PySem.W.exmOne K (.ref ea_TooLarge) (.ref ea_TooLarge) = some true
  cx_NotDefinite_TooLarge : PySem.W.exmOne K (.ref ea_NotDefinite) (.ref ea_TooLarge) = some false
section
variable {P : Program} {w : World} {K : PySem.W.Frag} {mg : Str → Option Value} {base : Heap}
theorem cat_TooLarge (T : Tx K mg) : CatOk K mg (.ref T.ea_TooLarge) [("HornbookError", false), ("TooLarge", true), ("NotDefinite", false)] := cat_cons (fun D h => by cases T.gx_HornbookError.symm.trans h; exact T.cx_HornbookError_TooLarge) (cat_cons (fun D h => by cases T.gx_TooLarge.symm.trans h; exact T.cx_TooLarge_TooLarge) (cat_cons (fun D h => by cases T.gx_NotDefinite.symm.trans h; exact T.cx_NotDefinite_TooLarge) (cat_nil)))
theorem t_BUILT_IN (T : Tx K mg) : ∀ H, RepT K H T.w_BUILT_IN k_BUILT_IN := T.r_BUILT_IN
theorem t_CONTROL (T : Tx K mg) : ∀ H, RepT K H T.w_CONTROL k_CONTROL := T.r_CONTROL
theorem t_MOST_NODES (T : Tx K mg) : ∀ H, RepT K H (.int (200)) k_MOST_NODES := fun _ => .int _
theorem t_TRUE (T : Tx K mg) : ∀ H, RepT K H T.w_TRUE k_TRUE := T.r_TRUE
/-! ### the drawn numbers -/
def Zs.next (z : Zs) : Zs := if z.cur = 0 ∧ z.pos < z.ns.length then { z with cur := if z.ns.getD z.pos.toNat 0 < 0 then -z.ns.getD z.pos.toNat 0 else z.ns.getD z.pos.toNat 0, pos := z.pos + 1 } else z
def Zs.fin (z : Zs) (n : Int) : Int × Zs := if z.cur = 0 then ((z.mix * 48271 + 11) % 2147483647 / 97 % n, { z with mix := (z.mix * 48271 + 11) % 2147483647 }) else (z.cur % n, { z with cur := z.cur / n })
def Zs.draw (z : Zs) (n : Int) : Int × Zs := Zs.fin (Zs.next z) n
def drawM : MZ := fun xs z => match xs with
  | [.im (.int n)] => if 0 < n ∧ n.natAbs.log2 < 9000 then .ok (.im (.int (Zs.draw z n).1)) (Zs.draw z n).2 else .no
  | _ => .no
theorem drawM_ne {xs : List Val} {z : Zs} (h : drawM xs z ≠ .no) : ∃ n, xs = [.im (.int n)] ∧ 0 < n ∧ n.natAbs.log2 < 9000 ∧ drawM xs z = .ok (.im (.int (Zs.draw z n).1)) (Zs.draw z n).2 := by
  unfold drawM at h ⊢
  split at h
  · rename_i n
    split at h
    · rename_i c; exact ⟨n, rfl, c.1, c.2, if_pos c⟩
    · exact absurd rfl h
  · exact absurd rfl h
theorem ok_draw {f : Addr} {fd : FuncData} (F : Fun K "_law_draw" "_law_draw" s__law_draw f fd) (ml : mg "len" = none) (ma : mg "abs" = none) (mi : mg "int" = none) :
    FnOk P w K mg base (L2.CX P w) 1 f fd ["stream", "many"] (spZ K mg drawM) := by
  have inv : ∀ {vs H Q E}, spZ K mg drawM vs H Q E → ∃ a z n, vs = [.ref a, .int n] ∧ Zr K (some a) z H ∧ 0 < n ∧ n.natAbs.log2 < 9000 ∧ ∀ H', SameX (some a) H H' → Zr K (some a) (Zs.draw z n).2 H' → Q (.int (Zs.draw z n).1) H' := by
    rintro vs H Q E ⟨a, ws, z, xs, rfl, hz, hv, hm⟩
    have ne : drawM xs z ≠ .no := by intro e; rw [e] at hm; exact hm
    obtain ⟨n, rfl, h1, h2, e⟩ := drawM_ne ne
    obtain ⟨v, rfl, hb⟩ := hv.one
    have := bor_int hb
    subst this
    rw [e] at hm
    exact ⟨a, z, n, rfl, hz, h1, h2, fun H' s hz' => hm _ H' [] s hz' (.im (.int _)) List.nodup_nil (fun _ z => by cases z)⟩
  refine F.okX sc__law_draw (fun vs H Q E h => ?_) (fun cdv A outer s H vs Q E hr h => ?_)
  · obtain ⟨a, z, n, rfl, _⟩ := inv h; rfl
  · obtain ⟨a, z, n, rfl, hz, hn, hn2, hQ⟩ := inv h
    obtain ⟨l, ha, hla, hl, z1, z2, z3, z4⟩ := hz a rfl
    -- what stands at a, at l
    have sx : ∀ (c p m : Int), SameX (some a) H (upd H a (.lst [.ref l, .int c, .int p, .int m])) := fun c p m => by
      refine ⟨fun b o nb e => ?_, fun b x r e hb => ?_⟩
      · rw [upd_ne (fun q => nb (by rw [q]))]; exact e
      · cases e
        rw [ha] at hb
        cases hb
        exact ⟨_, upd_same⟩
    have zr : ∀ (z' : Zs), z'.ns = z.ns → 0 ≤ z'.cur → 0 ≤ z'.pos → 0 ≤ z'.mix → z'.mix < 2147483647 → Zr K (some a) z' (upd H a (.lst [.ref l, .int z'.cur, .int z'.pos, .int z'.mix])) := fun z' e h1 h2 h3 h4 b eb => by
      cases eb
      exact ⟨l, upd_same, hla, by rw [upd_ne hla, hl, e], h1, h2, h3, h4⟩
    -- the second part, at any state
    have tail : ∃ t, PSs (cxOf (L2.CX P w) P w K mg base ["stream", "many", "value"] "_law_draw" (defScope s__law_draw) f cdv A outer s H E) ((defBody s__law_draw).drop 1) t ∧
        ∀ (z' : Zs) (H1 : Hp), z'.ns = z.ns → 0 ≤ z'.cur → 0 ≤ z'.pos → 0 ≤ z'.mix → z'.mix < 2147483647 → H1 = upd H a (.lst [.ref l, .int z'.cur, .int z'.pos, .int z'.mix]) →
        (∀ H', SameX (some a) H H' → Zr K (some a) (Zs.fin z' n).2 H' → Q (.int (Zs.fin z' n).1) H') → t { nx := fun _ H' => Q .non H', rt := Q } [some (.ref a), some (.int n), none] H1 := by
      refine ⟨_, pss_cons (ps_if (pt_cmpR op_eq (pe_ix ix_list (pv 0) pe_int (fun _ _ => rfl)) pe_int (nomark _))
            (pss_cons (ps_asg (pe_op op_mod (pe_callTy call_int1 rfl mi (by decide +kernel) (pa_cons (pe_op op_add (pe_op op_mul (pe_ix ix_list (pv 0) pe_int (fun _ _ => rfl)) pe_int) pe_int) pa_nil)) pe_int) (pg_sub (pv 0) pe_int set_list))
            (pss_one (ps_ret (pe_op op_mod (pe_callTy call_int1 rfl mi (by decide +kernel) (pa_cons (pe_op op_fdiv (pe_ix ix_list (pv 0) pe_int (fun _ _ => rfl)) pe_int) pa_nil)) (pv 1))))) pss_nil)
          (pss_cons (ps_set (i := 2) sc__law_draw.nd rfl (.inl rfl) (pe_op op_mod (pe_callTy call_int1 rfl mi (by decide +kernel) (pa_cons (pe_ix ix_list (pv 0) pe_int (fun _ _ => rfl)) pa_nil)) (pv 1)))
          (pss_cons (ps_asg (pe_op op_fdivW (pe_ix ix_list (pv 0) pe_int (fun _ _ => rfl)) (pv 1)) (pg_sub (pv 0) pe_int set_list))
          (pss_one (ps_ret (pv 2))))), fun z' H1 e1 e2 e3 e4 e5 eH hq => ?_⟩
      have h1 : H1 a = some (.lst [.ref l, .int z'.cur, .int z'.pos, .int z'.mix]) := by rw [eH]; exact upd_same
      refine ⟨_, rfl, a, _, 1, _, rfl, rfl, .of h1, rfl, rfl, _, rfl, ?_⟩
      unfold Zs.fin at hq
      by_cases c : z'.cur = 0
      · rw [if_pos c] at hq
        rw [decide_eq_true (by rw [c])]
        refine iteT ?_
        refine ⟨_, rfl, a, _, 3, _, rfl, rfl, .of h1, rfl, _, _, rfl, rfl, .inr (by decide), _, _, rfl, rfl, .inl ⟨_, rfl, _, _, rfl, rfl, (by show (0 : Int) < 2147483647; decide), ?_⟩⟩
        refine ⟨_, rfl, a, _, 3, 3, rfl, rfl, h1, rfl, ?_⟩
        refine ⟨_, rfl, a, _, 3, _, rfl, rfl, .of upd_same, rfl, _, _, rfl, rfl, ⟨by decide, by decide⟩, .inl ⟨_, rfl, _, rfl, _, _, rfl, rfl, hn, ?_⟩⟩
        have e : upd H1 a (.lst [.ref l, .int z'.cur, .int z'.pos, .int ((z'.mix * 48271 + 11) % 2147483647)]) = upd H a (.lst [.ref l, .int z'.cur, .int z'.pos, .int ((z'.mix * 48271 + 11) % 2147483647)]) := by rw [eH, upd_upd]
        show Q (.int ((z'.mix * 48271 + 11) % 2147483647 / 97 % n)) (upd H1 a (.lst [.ref l, .int z'.cur, .int z'.pos, .int ((z'.mix * 48271 + 11) % 2147483647)]))
        rw [e]
        exact hq _ (sx _ _ _) (zr { z' with mix := (z'.mix * 48271 + 11) % 2147483647 } e1 e2 e3 (by dsimp only; omega) (by dsimp only; omega))
      · rw [if_neg c] at hq
        rw [decide_eq_false (fun q => c (by injection q))]
        refine iteF ?_
        refine ⟨_, rfl, a, _, 1, _, rfl, rfl, .of h1, rfl, .inl ⟨_, rfl, _, rfl, _, _, rfl, rfl, hn, ?_⟩⟩
        refine ⟨_, rfl, a, _, 1, _, rfl, rfl, .of h1, rfl, _, rfl, _, _, rfl, rfl, ⟨hn, hn2⟩, ?_⟩
        refine ⟨_, rfl, a, _, 1, 1, rfl, rfl, h1, rfl, _, rfl, ?_⟩
        have e : upd H1 a (.lst [.ref l, .int (z'.cur / n), .int z'.pos, .int z'.mix]) = upd H a (.lst [.ref l, .int (z'.cur / n), .int z'.pos, .int z'.mix]) := by rw [eH, upd_upd]
        show Q (.int (z'.cur % n)) (upd H1 a (.lst [.ref l, .int (z'.cur / n), .int z'.pos, .int z'.mix]))
        rw [e]
        exact hq _ (sx _ _ _) (zr { z' with cur := z'.cur / n } e1 (Int.ediv_nonneg e2 (by omega)) e3 e4 e5)
    obtain ⟨t2, p2, f2⟩ := tail
    refine ⟨_, pss_cons (ps_if (PW.pt (pw_and (pt_cmpR op_eq (pe_ix ix_list (pv 0) pe_int (fun _ _ => rfl)) pe_int (nomark _)) (pw_and1 (pt_cmpR op_lt (pe_ix ix_list (pv 0) pe_int (fun _ _ => rfl)) (pe_callB call_len_seq rfl ml PySem.boot_len (pa_cons (pe_ix ix_list (pv 0) pe_int (fun _ _ => rfl)) pa_nil)) (nomark _)))))
            (pss_cons (ps_asg (pe_callB call_abs rfl ma (by decide +kernel) (pa_cons (pe_callTy call_int1 rfl mi (by decide +kernel) (pa_cons (pe_ix ix_list (pe_ix ix_list (pv 0) pe_int (fun _ _ => rfl)) (pe_ix ix_list (pv 0) pe_int (fun _ _ => rfl)) (fun _ _ => rfl)) pa_nil)) pa_nil)) (pg_sub (pv 0) pe_int set_list))
            (pss_one (ps_asg (pe_op op_add (pe_ix ix_list (pv 0) pe_int (fun _ _ => rfl)) pe_int) (pg_sub (pv 0) pe_int set_list)))) pss_nil) p2, ?_⟩
    have idH : H = upd H a (.lst [.ref l, .int z.cur, .int z.pos, .int z.mix]) := by
      funext b
      unfold upd
      split
      · rename_i c; rw [c]; exact ha
      · rfl
    have same : Zs.next z = z → t2 { nx := fun _ H' => Q .non H', rt := Q } [some (.ref a), some (.int n), none] H := fun e => f2 z H rfl z1 z2 z3 z4 idH (by unfold Zs.draw at hQ; rw [e] at hQ; exact hQ)
    refine ⟨_, rfl, a, _, 1, _, rfl, rfl, .of ha, rfl, rfl, _, rfl, ?_⟩
    by_cases c : z.cur = 0
    · rw [decide_eq_true (by rw [c])]
      refine iteT ?_
      refine ⟨_, rfl, a, _, 2, _, rfl, rfl, .of ha, rfl, _, rfl, a, _, 0, _, rfl, rfl, .of ha, rfl, l, _, rfl, .inl (.of hl), _, _, rfl, rfl, _, rfl, ?_⟩
      by_cases d : z.pos < z.ns.length
      · rw [decide_eq_true (by rw [List.length_map]; exact d)]
        refine iteT ?_
        have hp : z.pos.toNat < z.ns.length := by omega
        have ep : z.pos = ((z.pos.toNat : Nat) : Int) := by omega
        have ei : atI (z.ns.map V.int) z.pos = some (.int (z.ns.getD z.pos.toNat 0)) := by
          rw [ep]
          refine atI_nat ?_
          rw [List.getElem?_map, List.getD_eq_getElem?_getD, ← ep, List.getElem?_eq_getElem hp]
          rfl
        refine ⟨_, rfl, a, _, 0, _, rfl, rfl, .of ha, rfl, _, rfl, a, _, 2, _, rfl, rfl, .of ha, rfl, l, _, z.pos, _, rfl, rfl, .of hl, ei, .inl ⟨_, rfl, _, rfl, ?_⟩⟩
        refine ⟨_, rfl, a, _, 1, 1, rfl, rfl, ha, rfl, ?_⟩
        refine ⟨_, rfl, a, _, 2, _, rfl, rfl, .of upd_same, rfl, _, _, rfl, rfl, _, rfl, a, _, 2, 2, rfl, rfl, upd_same, rfl, ?_⟩
        rw [upd_upd]
        have en : Zs.next z = { z with cur := if z.ns.getD z.pos.toNat 0 < 0 then -z.ns.getD z.pos.toNat 0 else z.ns.getD z.pos.toNat 0, pos := z.pos + 1 } := if_pos ⟨c, d⟩
        refine f2 (Zs.next z) _ (by rw [en]) ?_ ?_ (by rw [en]; exact z3) (by rw [en]; exact z4) (by rw [en]; rfl) hQ
        · rw [en]; dsimp only; split <;> omega
        · rw [en]; dsimp only; omega
      · rw [decide_eq_false (by rw [List.length_map]; exact d)]
        exact iteF (same (if_neg fun q => d q.2))
    · rw [decide_eq_false (fun q => c (by injection q))]
      exact iteF (iteF (same (if_neg fun q => c q.1)))

theorem ok_stream {f : Addr} {fd : FuncData} (F : Fun K "_law_stream" "_law_stream" s__law_stream f fd) (ml : mg "list" = none) (mi : mg "int" = none) :
    FnOk P w K mg base (L2.CX P w) 1 f fd ["script"] (spStream K) := by
  refine F.okX sc__law_stream (fun vs H Q E h => ?_) (fun cdv A outer s H vs Q E hr h => ?_)
  · obtain ⟨a, ns, rfl, _⟩ := h; rfl
  · obtain ⟨a, ns, rfl, hS, h63, hQ⟩ := h
    refine ⟨_, pss_cons (ps_set (i := 1) sc__law_stream.nd rfl (.inl rfl) pe_int)
      (pss_cons (ps_for (passes_of rfl) rfl (pi_list (pv 0)) (pg_name (i := 2) sc__law_stream.nd rfl (.inl rfl))
        (pss_one (ps_set (i := 1) sc__law_stream.nd rfl (.inl rfl) (pe_op op_mod (pe_callTy call_int1 rfl mi (by decide +kernel) (pa_cons (pe_op op_add (pe_op op_add (pe_op op_mul (pv 1) pe_int) (pe_op op_mod (pe_callTy call_int1 rfl mi (by decide +kernel) (pa_cons (pv 2) pa_nil)) pe_int)) pe_int) pa_nil)) pe_int))))
      (pss_one (ps_ret (pe_lst (pa_cons (pe_callTy call_list_of rfl ml (by decide +kernel) (pa_cons (pv 0) pa_nil)) (pa_cons pe_int (pa_cons pe_int (pa_cons (pv 1) pa_nil)))))))), ?_⟩
    refine ⟨_, rfl, a, rfl, ⟨_, hS⟩, ?_⟩
    refine for_list (K := K) (xs := ns.map V.int) (fun i σ H' => H' = H ∧ ∃ m c, σ = [some (.ref a), some (.int m), c] ∧ 0 ≤ m ∧ m < 2147483647) ⟨rfl, 17, none, rfl, by omega, by omega⟩ (fun i σ H' _ h => by rw [h.1]; exact hS) (fun i x σ H' ex h => ?_) (fun σ H' h => ?_)
    · obtain ⟨rfl, m, c, rfl, h1, h2⟩ := h
      rw [List.getElem?_map] at ex
      cases en : ns[i]? with
      | none => rw [en] at ex; cases ex
      | some n =>
        rw [en] at ex
        cases ex
        refine ⟨_, rfl, _, _, rfl, rfl, .inr (by decide), _, rfl, .inl ⟨n, rfl, _, _, rfl, rfl, (by show (0 : Int) < 65521; decide), _, _, rfl, rfl, _, _, rfl, rfl, .inl ⟨_, rfl, _, _, rfl, rfl, (by show (0 : Int) < 2147483647; decide), rfl, _, some (.int n), rfl, ?_, ?_⟩⟩⟩
        · omega
        · omega
    · obtain ⟨rfl, m, c, rfl, h1, h2⟩ := h
      refine ⟨_, rfl, a, _, rfl, .inl hS, fun l nl => ?_⟩
      refine ⟨_, rfl, by show 4 ≤ sizeLine; decide, fun p np => ?_⟩
      have n1 : H' p = none := by
        by_cases c : p = l
        · rw [c] at np ⊢; rw [upd_same] at np; cases np
        · rw [upd_ne c] at np; exact np
      have pl : l ≠ p := fun c => by rw [← c, upd_same] at np; cases np
      refine hQ p ⟨ns, 0, 0, m⟩ _ (fun b o e => ?_) n1 fun b e => ?_
      · rw [upd_ne (ne_of_none e n1), upd_ne (ne_of_none e nl)]; exact e
      · cases e
        exact ⟨l, upd_same, pl, by rw [upd_ne pl, upd_same], Int.le_refl 0, Int.le_refl 0, h1, h2⟩

abbrev m__law_draw : MZ := drawM
theorem ok__law_draw (T : Tx K mg) : FnOk P w K mg base (L2.CX P w) 1 T.a__law_draw T.d__law_draw ["stream", "many"] (spZ K mg m__law_draw) := ok_draw T.F__law_draw T.n_len T.n_abs T.n_int
theorem ok__law_stream (T : Tx K mg) : FnOk P w K mg base (L2.CX P w) 1 T.a__law_stream T.d__law_stream ["script"] (spStream K) := ok_stream T.F__law_stream T.n_list T.n_int
def c_is_variable : MS := (sRet (eAn (eIsi .tuple (eV 0)) (eBin (oEq false) (eIx (eV 0) (eC (.int 0))) (eC (.str (Str.ofString "v"))))))
def m_is_variable : MF := runP 1 1 c_is_variable
theorem ok_is_variable (T : Tx K mg) : FnOk P w K mg base (L2.CX P w) 1 T.a_is_variable T.d_is_variable ["node"] (spP K mg m_is_variable) := fnP (k := 0) T.F_is_variable sc_is_variable c_is_variable fun cdv A outer s H E hr => (ss_one (se_ret (fe_and (re_fe (fe_isi .tuple rfl T.n_isinstance rfl T.n_tuple (by decide +kernel) (re_var 0))) (fe_one (fe_eq (hu64 hr) (re_ix (hu_of hr) (re_var 0) re_int) re_str)))))
def c_is_symbol : MS := (sRet (eAn (eIsi .tuple (eV 0)) (eBin (oEq false) (eIx (eV 0) (eC (.int 0))) (eC (.str (Str.ofString "f"))))))
def m_is_symbol : MF := runP 1 1 c_is_symbol
theorem ok_is_symbol (T : Tx K mg) : FnOk P w K mg base (L2.CX P w) 1 T.a_is_symbol T.d_is_symbol ["node"] (spP K mg m_is_symbol) := fnP (k := 0) T.F_is_symbol sc_is_symbol c_is_symbol fun cdv A outer s H E hr => (ss_one (se_ret (fe_and (re_fe (fe_isi .tuple rfl T.n_isinstance rfl T.n_tuple (by decide +kernel) (re_var 0))) (fe_one (fe_eq (hu64 hr) (re_ix (hu_of hr) (re_var 0) re_int) re_str)))))
def b_end_of_1 : MS := (sSeq (sSet 4 (eIm (eIx (eV 0) (eV 3))))
  (sSeq (sAug oSub 2 (eC (.int 1)))
  (sSeq (sIf (tTru (eCall m_is_symbol (aCons (eV 4) aNil))) (sAug oAddI 2 (eIx (eV 4) (eC (.int 2)))) sNil)
  (sAug oAddI 3 (eC (.int 1))))))
def t_end_of_2 : MT := (tCp oGt (eV 2) (eC (.int 0)))
noncomputable def c_end_of : MS := (sSeq (sSet 2 (eIm (eC (.int 1))))
  (sSeq (sSet 3 (eIm (eV 1)))
  (sSeq (sWh t_end_of_2 b_end_of_1)
  (sRetV 3))))
noncomputable def m_end_of : MF := runP 5 2 c_end_of
theorem ok_end_of (T : Tx K mg) : FnOk P w K mg base (L2.CX P w) 2 T.a_end_of T.d_end_of ["term", "start"] (spP K mg m_end_of) := fnP (k := 1) T.F_end_of sc_end_of c_end_of fun cdv A outer s H E hr => (ss_cons (se_set 2 sc_end_of.nd rfl (Or.inl rfl) (fe_re re_int))
  (ss_cons (se_set 3 sc_end_of.nd rfl (Or.inl rfl) (fe_re (re_var 1)))
  (ss_cons (se_while (passes_of rfl) (rt_gt (re_var 2) re_int) (ss_cons (se_set 4 sc_end_of.nd rfl (Or.inl rfl) (fe_re (re_ix (hu_of hr) (re_var 0) (re_var 3))))
  (ss_cons (se_augSub 2 sc_end_of.nd rfl (Or.inl rfl) re_int)
  (ss_cons (se_if (rt_tru (re_fe (fe_call (ok_is_symbol T) (hr.mono (by decide)) rfl T.m_is_symbol T.F_is_symbol.kp T.b_is_symbol (takes_of rfl rfl rfl rfl) (ra_cons (re_var 4) ra_nil)))) (ss_one (se_augAdd 2 sc_end_of.nd rfl (Or.inl rfl) (re_ix (hu_of hr) (re_var 4) re_int))) ss_nil)
  (ss_one (se_augAdd 3 sc_end_of.nd rfl (Or.inl rfl) re_int))))))
  (ss_one (se_retV 3)))))
noncomputable def b_parts_1 : MS := (sSeq (sSet 4 (eCall m_end_of (aCons (eV 0) (aCons (eV 2) aNil))))
  (sSeq (sApp 1 (eSl (eV 0) (pSome (eV 2)) (pSome (eV 4))))
  (sSet 2 (eIm (eV 4)))))
noncomputable def c_parts : MS := (sSeq (sIf (tNt (tTru (eCall m_is_symbol (aCons (eIx (eV 0) (eC (.int 0))) aNil)))) (sRet (eLst aNil)) sNil)
  (sSeq (sSet 1 (eLst aNil))
  (sSeq (sSet 2 (eIm (eC (.int 1))))
  (sSeq (sRng rngT1 (aCons (eIx (eIx (eV 0) (eC (.int 0))) (eC (.int 2))) aNil) (gN 3) b_parts_1)
  (sRetV 1)))))
noncomputable def m_parts : MF := runP 5 1 c_parts
theorem ok_parts (T : Tx K mg) : FnOk P w K mg base (L2.CX P w) 3 T.a_parts T.d_parts ["term"] (spP K mg m_parts) := fnP (k := 2) T.F_parts sc_parts c_parts fun cdv A outer s H E hr => (ss_cons (se_if (rt_not (rt_tru (re_fe (fe_call (ok_is_symbol T) (hr.mono (by decide)) rfl T.m_is_symbol T.F_is_symbol.kp T.b_is_symbol (takes_of rfl rfl rfl rfl) (ra_cons (re_ix (hu_of hr) (re_var 0) re_int) ra_nil))))) (ss_one (se_ret (fe_lst ra_nil))) ss_nil)
  (ss_cons (se_set 1 sc_parts.nd rfl (Or.inl rfl) (fe_lst ra_nil))
  (ss_cons (se_set 2 sc_parts.nd rfl (Or.inl rfl) (fe_re re_int))
  (ss_cons (se_rng1 (passes_of rfl) rfl rfl T.n_range (ra_cons (re_ix (hu_of hr) (re_ix (hu_of hr) (re_var 0) re_int) re_int) ra_nil) (ge_name 3 sc_parts.nd rfl (Or.inl rfl)) (ss_cons (se_set 4 sc_parts.nd rfl (Or.inl rfl) (fe_call (ok_end_of T) (hr.mono (by decide)) rfl T.m_end_of T.F_end_of.kp T.b_end_of (takes_of rfl rfl rfl rfl) (ra_cons (re_var 0) (ra_cons (re_var 2) ra_nil))))
  (ss_cons (se_app 1 (re_fe (fe_sl (re_var 0) (rpo_some (re_var 2)) (rpo_some (re_var 4)))))
  (ss_one (se_set 2 sc_parts.nd rfl (Or.inl rfl) (fe_re (re_var 4)))))))
  (ss_one (se_retV 1))))))
def b_list_term_1 : MS := (sSeq (sApp 2 (eTup (aCons (eC (.str (Str.ofString "f"))) (aCons (eC (.str (Str.ofString "."))) (aCons (eC (.int 2)) aNil)))))
  (sExt 2 (eV 3)))
def c_list_term : MS := (sSeq (sSet 2 (eLst aNil))
  (sSeq (sForV 0 (gN 3) b_list_term_1)
  (sSeq (sIf (tCp oIs (eV 1) (eC .non)) (sApp 2 (eTup (aCons (eC (.str (Str.ofString "f"))) (aCons (eC (.str (Str.ofString "[]"))) (aCons (eC (.int 0)) aNil))))) (sExt 2 (eV 1)))
  (sRet (eTuple (aCons (eV 2) aNil))))))
def m_list_term : MF := runP 4 2 c_list_term
theorem ok_list_term (T : Tx K mg) : FnOk P w K mg base (L2.CX P w) 1 T.a_list_term T.d_list_term ["items", "tail"] (spP K mg m_list_term) := fnP (k := 0) T.F_list_term sc_list_term c_list_term fun cdv A outer s H E hr => (ss_cons (se_set 2 sc_list_term.nd rfl (Or.inl rfl) (fe_lst ra_nil))
  (ss_cons (se_forV 0 (passes_of rfl) rfl (ge_name 3 sc_list_term.nd rfl (Or.inl rfl)) (ss_cons (se_app 2 (re_tup (ra_cons re_str (ra_cons re_str (ra_cons re_int ra_nil)))))
  (ss_one (se_ext 2 (re_var 3)))))
  (ss_cons (se_if (rt_is (re_var 1) re_non) (ss_one (se_app 2 (re_tup (ra_cons re_str (ra_cons re_str (ra_cons re_int ra_nil)))))) (ss_one (se_ext 2 (re_var 1))))
  (ss_one (se_ret (fe_tuple rfl T.n_tuple (ra_cons (re_var 2) ra_nil)))))))
noncomputable def b_list_items_1 : MS := (sSeq (sSet 3 (eCall m_end_of (aCons (eV 0) (aCons (eAdd (eV 2) (eC (.int 1))) aNil))))
  (sSeq (sApp 1 (eSl (eV 0) (pSome (eAdd (eV 2) (eC (.int 1)))) (pSome (eV 3))))
  (sSet 2 (eIm (eV 3)))))
def t_list_items_2 : MT := (tCp (oEq false) (eIx (eV 0) (eV 2)) (eTup (aCons (eC (.str (Str.ofString "f"))) (aCons (eC (.str (Str.ofString "."))) (aCons (eC (.int 2)) aNil)))))
noncomputable def c_list_items : MS := (sSeq (sSet 1 (eLst aNil))
  (sSeq (sSet 2 (eIm (eC (.int 0))))
  (sSeq (sWh t_list_items_2 b_list_items_1)
  (sSeq (sIf (tCp (oEq false) (eIx (eV 0) (eV 2)) (eTup (aCons (eC (.str (Str.ofString "f"))) (aCons (eC (.str (Str.ofString "[]"))) (aCons (eC (.int 0)) aNil))))) (sRetV 1) sNil)
  (sRet (eIm (eC .non)))))))
noncomputable def m_list_items : MF := runP 4 1 c_list_items
theorem ok_list_items (T : Tx K mg) : FnOk P w K mg base (L2.CX P w) 3 T.a_list_items T.d_list_items ["term"] (spP K mg m_list_items) := fnP (k := 2) T.F_list_items sc_list_items c_list_items fun cdv A outer s H E hr => (ss_cons (se_set 1 sc_list_items.nd rfl (Or.inl rfl) (fe_lst ra_nil))
  (ss_cons (se_set 2 sc_list_items.nd rfl (Or.inl rfl) (fe_re re_int))
  (ss_cons (se_while (passes_of rfl) (rt_eq (hu64 hr) (re_ix (hu_of hr) (re_var 0) (re_var 2)) (re_tup (ra_cons re_str (ra_cons re_str (ra_cons re_int ra_nil))))) (ss_cons (se_set 3 sc_list_items.nd rfl (Or.inl rfl) (fe_call (ok_end_of T) (hr.mono (by decide)) rfl T.m_end_of T.F_end_of.kp T.b_end_of (takes_of rfl rfl rfl rfl) (ra_cons (re_var 0) (ra_cons (re_fe (fe_add (re_var 2) re_int)) ra_nil))))
  (ss_cons (se_app 1 (re_fe (fe_sl (re_var 0) (rpo_some (re_fe (fe_add (re_var 2) re_int))) (rpo_some (re_var 3)))))
  (ss_one (se_set 2 sc_list_items.nd rfl (Or.inl rfl) (fe_re (re_var 3)))))))
  (ss_cons (se_if (rt_eq (hu64 hr) (re_ix (hu_of hr) (re_var 0) (re_var 2)) (re_tup (ra_cons re_str (ra_cons re_str (ra_cons re_int ra_nil))))) (ss_one (se_retV 1)) ss_nil)
  (ss_one (se_ret (fe_re re_non)))))))
def b_variables_1 : MS := (sIf (tTru (eCall m_is_variable (aCons (eV 2) aNil))) (sPut 1 (eIx (eV 2) (eC (.int 1))) (eC (.bl true))) sNil)
def c_variables : MS := (sSeq (sSet 1 eDk)
  (sSeq (sForV 0 (gN 2) b_variables_1)
  (sRet (eListD (aCons (eV 1) aNil)))))
def m_variables : MF := runP 3 1 c_variables
theorem ok_variables (T : Tx K mg) : FnOk P w K mg base (L2.CX P w) 2 T.a_variables T.d_variables ["term"] (spP K mg m_variables) := fnP (k := 1) T.F_variables sc_variables c_variables fun cdv A outer s H E hr => (ss_cons (se_set 1 sc_variables.nd rfl (Or.inl rfl) fe_dk)
  (ss_cons (se_forV 0 (passes_of rfl) rfl (ge_name 2 sc_variables.nd rfl (Or.inl rfl)) (ss_one (se_if (rt_tru (re_fe (fe_call (ok_is_variable T) (hr.mono (by decide)) rfl T.m_is_variable T.F_is_variable.kp T.b_is_variable (takes_of rfl rfl rfl rfl) (ra_cons (re_var 2) ra_nil)))) (ss_one (se_put 1 (hu_of hr) (re_ix (hu_of hr) (re_var 2) re_int) re_bl)) ss_nil)))
  (ss_one (se_ret (fe_listD rfl rfl T.n_list (ra_cons (re_var 1) ra_nil))))))
def b_renumber_1 : MS := (sIf (tTru (eCall m_is_variable (aCons (eV 4) aNil))) (sSeq (sIf (tCp (oIn true) (eIx (eV 4) (eC (.int 1))) (eV 2)) (sPut 2 (eIx (eV 4) (eC (.int 1))) (eAdd (eV 1) (eLen (aCons (eV 2) aNil)))) sNil)
  (sApp 3 (eTup (aCons (eC (.str (Str.ofString "v"))) (aCons (eIx (eV 2) (eIx (eV 4) (eC (.int 1)))) aNil))))) (sApp 3 (eV 4)))
def c_renumber : MS := (sSeq (sSet 2 eDk)
  (sSeq (sSet 3 (eLst aNil))
  (sSeq (sForV 0 (gN 4) b_renumber_1)
  (sRet (eTuple (aCons (eV 3) aNil))))))
def m_renumber : MF := runP 5 2 c_renumber
theorem ok_renumber (T : Tx K mg) : FnOk P w K mg base (L2.CX P w) 2 T.a_renumber T.d_renumber ["term", "first"] (spP K mg m_renumber) := fnPD (k := 1) T.F_renumber sc_renumber c_renumber fun cdv A outer s H E hr => (ss_cons (se_set 2 sc_renumber.nd rfl (Or.inl rfl) fe_dk)
  (ss_cons (se_set 3 sc_renumber.nd rfl (Or.inl rfl) (fe_lst ra_nil))
  (ss_cons (se_forV 0 (passes_of rfl) rfl (ge_name 4 sc_renumber.nd rfl (Or.inl rfl)) (ss_one (se_if (rt_tru (re_fe (fe_call (ok_is_variable T) (hr.mono (by decide)) rfl T.m_is_variable T.F_is_variable.kp T.b_is_variable (takes_of rfl rfl rfl rfl) (ra_cons (re_var 4) ra_nil)))) (ss_cons (se_if (rt_nin (hu65 hr) (re_ix (hu_of hr) (re_var 4) re_int) (re_var 2)) (ss_one (se_put 2 (hu_of hr) (re_ix (hu_of hr) (re_var 4) re_int) (re_fe (fe_add (re_var 1) (re_fe (fe_len rfl T.n_len (ra_cons (re_var 2) ra_nil))))))) ss_nil)
  (ss_one (se_app 3 (re_tup (ra_cons re_str (ra_cons (re_ix (hu_of hr) (re_var 2) (re_ix (hu_of hr) (re_var 4) re_int)) ra_nil)))))) (ss_one (se_app 3 (re_var 4))))))
  (ss_one (se_ret (fe_tuple rfl T.n_tuple (ra_cons (re_var 3) ra_nil)))))))
def c_is_control : MS := (sRet (eBin (oIn false) (eTup (aCons (eV 0) (aCons (eV 1) aNil))) (eC k_CONTROL)))
def m_is_control : MF := runP 2 2 c_is_control
theorem ok_is_control (T : Tx K mg) : FnOk P w K mg base (L2.CX P w) 1 T.a_is_control T.d_is_control ["name", "arity"] (spP K mg m_is_control) := fnP (k := 0) T.F_is_control sc_is_control c_is_control fun cdv A outer s H E hr => (ss_one (se_ret (fe_in (hu65 hr) (re_tup (ra_cons (re_var 0) (ra_cons (re_var 1) ra_nil))) (re_glob rfl T.g_CONTROL T.v_CONTROL (t_CONTROL T)))))
def c_is_built_in : MS := (sRet (eBin (oIn false) (eTup (aCons (eV 0) (aCons (eV 1) aNil))) (eC k_BUILT_IN)))
def m_is_built_in : MF := runP 2 2 c_is_built_in
theorem ok_is_built_in (T : Tx K mg) : FnOk P w K mg base (L2.CX P w) 1 T.a_is_built_in T.d_is_built_in ["name", "arity"] (spP K mg m_is_built_in) := fnP (k := 0) T.F_is_built_in sc_is_built_in c_is_built_in fun cdv A outer s H E hr => (ss_one (se_ret (fe_in (hu65 hr) (re_tup (ra_cons (re_var 0) (ra_cons (re_var 1) ra_nil))) (re_glob rfl T.g_BUILT_IN T.v_BUILT_IN (t_BUILT_IN T)))))
def b_apply_1 : MS := (sIf (tAn (tTru (eCall m_is_variable (aCons (eV 3) aNil))) (tCp (oIn false) (eIx (eV 3) (eC (.int 1))) (eV 0))) (sExt 2 (eIx (eV 0) (eIx (eV 3) (eC (.int 1))))) (sApp 2 (eV 3)))
def c_apply : MS := (sSeq (sSet 2 (eLst aNil))
  (sSeq (sForV 1 (gN 3) b_apply_1)
  (sRet (eTuple (aCons (eV 2) aNil)))))
def m_apply : MF := runP 4 2 c_apply
theorem ok_apply (T : Tx K mg) : FnOk P w K mg base (L2.CX P w) 2 T.a_apply T.d_apply ["substitution", "term"] (spP K mg m_apply) := fnP (k := 1) T.F_apply sc_apply c_apply fun cdv A outer s H E hr => (ss_cons (se_set 2 sc_apply.nd rfl (Or.inl rfl) (fe_lst ra_nil))
  (ss_cons (se_forV 1 (passes_of rfl) rfl (ge_name 3 sc_apply.nd rfl (Or.inl rfl)) (ss_one (se_if (rt_rw (rw_and (rt_tru (re_fe (fe_call (ok_is_variable T) (hr.mono (by decide)) rfl T.m_is_variable T.F_is_variable.kp T.b_is_variable (takes_of rfl rfl rfl rfl) (ra_cons (re_var 3) ra_nil)))) (rw_and1 (rt_in (hu65 hr) (re_ix (hu_of hr) (re_var 3) re_int) (re_var 0))))) (ss_one (se_ext 2 (re_ix (hu_of hr) (re_var 0) (re_ix (hu_of hr) (re_var 3) re_int)))) (ss_one (se_app 2 (re_var 3))))))
  (ss_one (se_ret (fe_tuple rfl T.n_tuple (ra_cons (re_var 2) ra_nil))))))
noncomputable def c_binding : MS := (sSeq (sSet 3 (eIm (eIx (eV 0) (eV 2))))
  (sSeq (sSet 4 (eIm (eIx (eV 1) (eV 2))))
  (sSeq (sIf (tAn (tTru (eCall m_is_variable (aCons (eV 3) aNil))) (tTru (eCall m_is_variable (aCons (eV 4) aNil)))) (sRet (eIm (eTup (aCons (eMax (aCons (eIx (eV 3) (eC (.int 1))) (aCons (eIx (eV 4) (eC (.int 1))) aNil))) (aCons (eTup (aCons (eTup (aCons (eC (.str (Str.ofString "v"))) (aCons (eMin (aCons (eIx (eV 3) (eC (.int 1))) (aCons (eIx (eV 4) (eC (.int 1))) aNil))) aNil))) aNil)) aNil))))) sNil)
  (sSeq (sIf (tTru (eCall m_is_variable (aCons (eV 3) aNil))) (sSeq (sSet 5 (eIm (eIx (eV 3) (eC (.int 1)))))
  (sSet 6 (eSl (eV 1) (pSome (eV 2)) (pSome (eCall m_end_of (aCons (eV 1) (aCons (eV 2) aNil))))))) (sIf (tTru (eCall m_is_variable (aCons (eV 4) aNil))) (sSeq (sSet 5 (eIm (eIx (eV 4) (eC (.int 1)))))
  (sSet 6 (eSl (eV 0) (pSome (eV 2)) (pSome (eCall m_end_of (aCons (eV 0) (aCons (eV 2) aNil))))))) (sRet (eIm (eC .non)))))
  (sSeq (sIf (tCp (oIn false) (eTup (aCons (eC (.str (Str.ofString "v"))) (aCons (eV 5) aNil))) (eV 6)) (sRet (eIm (eC .non))) sNil)
  (sRet (eIm (eTup (aCons (eV 5) (aCons (eV 6) aNil))))))))))
noncomputable def m_binding : MF := runP 7 3 c_binding
theorem ok_binding (T : Tx K mg) : FnOk P w K mg base (L2.CX P w) 3 T.a_binding T.d_binding ["left", "right", "at"] (spP K mg m_binding) := fnP (k := 2) T.F_binding sc_binding c_binding fun cdv A outer s H E hr => (ss_cons (se_set 3 sc_binding.nd rfl (Or.inl rfl) (fe_re (re_ix (hu_of hr) (re_var 0) (re_var 2))))
  (ss_cons (se_set 4 sc_binding.nd rfl (Or.inl rfl) (fe_re (re_ix (hu_of hr) (re_var 1) (re_var 2))))
  (ss_cons (se_if (rt_rw (rw_and (rt_tru (re_fe (fe_call (ok_is_variable T) (hr.mono (by decide)) rfl T.m_is_variable T.F_is_variable.kp T.b_is_variable (takes_of rfl rfl rfl rfl) (ra_cons (re_var 3) ra_nil)))) (rw_and1 (rt_tru (re_fe (fe_call (ok_is_variable T) (hr.mono (by decide)) rfl T.m_is_variable T.F_is_variable.kp T.b_is_variable (takes_of rfl rfl rfl rfl) (ra_cons (re_var 4) ra_nil))))))) (ss_one (se_ret (fe_re (re_tup (ra_cons (re_fe (fe_max rfl rfl T.n_max (ra_cons (re_ix (hu_of hr) (re_var 3) re_int) (ra_cons (re_ix (hu_of hr) (re_var 4) re_int) ra_nil)))) (ra_cons (re_tup (ra_cons (re_tup (ra_cons re_str (ra_cons (re_fe (fe_min rfl rfl T.n_min (ra_cons (re_ix (hu_of hr) (re_var 3) re_int) (ra_cons (re_ix (hu_of hr) (re_var 4) re_int) ra_nil)))) ra_nil))) ra_nil)) ra_nil)))))) ss_nil)
  (ss_cons (se_if (rt_tru (re_fe (fe_call (ok_is_variable T) (hr.mono (by decide)) rfl T.m_is_variable T.F_is_variable.kp T.b_is_variable (takes_of rfl rfl rfl rfl) (ra_cons (re_var 3) ra_nil)))) (ss_cons (se_set 5 sc_binding.nd rfl (Or.inl rfl) (fe_re (re_ix (hu_of hr) (re_var 3) re_int)))
  (ss_one (se_set 6 sc_binding.nd rfl (Or.inl rfl) (fe_sl (re_var 1) (rpo_some (re_var 2)) (rpo_some (re_fe (fe_call (ok_end_of T) (hr.mono (by decide)) rfl T.m_end_of T.F_end_of.kp T.b_end_of (takes_of rfl rfl rfl rfl) (ra_cons (re_var 1) (ra_cons (re_var 2) ra_nil))))))))) (ss_one (se_if (rt_tru (re_fe (fe_call (ok_is_variable T) (hr.mono (by decide)) rfl T.m_is_variable T.F_is_variable.kp T.b_is_variable (takes_of rfl rfl rfl rfl) (ra_cons (re_var 4) ra_nil)))) (ss_cons (se_set 5 sc_binding.nd rfl (Or.inl rfl) (fe_re (re_ix (hu_of hr) (re_var 4) re_int)))
  (ss_one (se_set 6 sc_binding.nd rfl (Or.inl rfl) (fe_sl (re_var 0) (rpo_some (re_var 2)) (rpo_some (re_fe (fe_call (ok_end_of T) (hr.mono (by decide)) rfl T.m_end_of T.F_end_of.kp T.b_end_of (takes_of rfl rfl rfl rfl) (ra_cons (re_var 0) (ra_cons (re_var 2) ra_nil))))))))) (ss_one (se_ret (fe_re re_non))))))
  (ss_cons (se_if (rt_in (hu65 hr) (re_tup (ra_cons re_str (ra_cons (re_var 5) ra_nil))) (re_var 6)) (ss_one (se_ret (fe_re re_non))) ss_nil)
  (ss_one (se_ret (fe_re (re_tup (ra_cons (re_var 5) (ra_cons (re_var 6) ra_nil)))))))))))
def e_unify_1 : ME := (eCall m_apply (aCons (eV 6) (aCons (eIx (eV 3) (eV 8)) aNil)))
def e_unify_2 : ME := (eLen (aCons (eIx (eV 3) (eV 8)) aNil))
noncomputable def b_unify_3 : MS := (sSeq (sIf (tCp (oEq false) (eIx (eV 0) (eV 4)) (eIx (eV 1) (eV 4))) (sSeq (sAug oAddI 4 (eC (.int 1)))
  sCt) sNil)
  (sSeq (sSet 5 (eCall m_binding (aCons (eV 0) (aCons (eV 1) (aCons (eV 4) aNil)))))
  (sSeq (sIf (tCp oIs (eV 5) (eC .non)) (sRet (eIm (eC .non))) sNil)
  (sSeq (sSet 6 (eDisp (eIx (eV 5) (eC (.int 0))) (eIx (eV 5) (eC (.int 1)))))
  (sSeq (sSet 0 (eCall m_apply (aCons (eV 6) (aCons (eV 0) aNil))))
  (sSeq (sSet 1 (eCall m_apply (aCons (eV 6) (aCons (eV 1) aNil))))
  (sSeq (sSet 3 (eDcD 3 8 tYs (eV 8) e_unify_1))
  (sSeq (sPut 3 (eIx (eV 5) (eC (.int 0))) (eIx (eV 5) (eC (.int 1))))
  (sSeq (sSet 7 (eAdd (eLst (aCons (eLen (aCons (eV 0) aNil)) (aCons (eLen (aCons (eV 1) aNil)) aNil))) (eLcD 3 8 tYs e_unify_2)))
  (sIf (tCp oGt (eMaxL (aCons (eV 7) aNil)) (eV 2)) (sRaise "TooLarge") sNil))))))))))
def t_unify_4 : MT := (tCp oLt (eV 4) (eLen (aCons (eV 0) aNil)))
noncomputable def c_unify : MS := (sSeq (sSet 2 (eMax3 (aCons (eC k_MOST_NODES) (aCons (eLen (aCons (eV 0) aNil)) (aCons (eLen (aCons (eV 1) aNil)) aNil)))))
  (sSeq (sSet 3 eDk)
  (sSeq (sSet 4 (eIm (eC (.int 0))))
  (sSeq (sWh t_unify_4 b_unify_3)
  (sRetV 3)))))
noncomputable def m_unify : MF := runP 9 2 c_unify
theorem ok_unify (T : Tx K mg) : FnOk P w K mg base (L2.CX P w) 4 T.a_unify T.d_unify ["left", "right"] (spP K mg m_unify) := fnP (k := 3) T.F_unify sc_unify c_unify fun cdv A outer s H E hr => (ss_cons (se_set 2 sc_unify.nd rfl (Or.inl rfl) (fe_max3 rfl rfl T.n_max (ra_cons (re_glob rfl T.g_MOST_NODES T.v_MOST_NODES (t_MOST_NODES T)) (ra_cons (re_fe (fe_len rfl T.n_len (ra_cons (re_var 0) ra_nil))) (ra_cons (re_fe (fe_len rfl T.n_len (ra_cons (re_var 1) ra_nil))) ra_nil)))))
  (ss_cons (se_set 3 sc_unify.nd rfl (Or.inr rfl) fe_dk)
  (ss_cons (se_set 4 sc_unify.nd rfl (Or.inl rfl) (fe_re re_int))
  (ss_cons (se_while (passes_of rfl) (rt_lt (hu64 hr) (re_var 4) (re_fe (fe_len rfl T.n_len (ra_cons (re_var 0) ra_nil)))) (ss_cons (se_if (rt_eq (hu64 hr) (re_ix (hu_of hr) (re_var 0) (re_var 4)) (re_ix (hu_of hr) (re_var 1) (re_var 4))) (ss_cons (se_augAdd 4 sc_unify.nd rfl (Or.inl rfl) re_int)
  (ss_one se_continue)) ss_nil)
  (ss_cons (se_set 5 sc_unify.nd rfl (Or.inl rfl) (fe_call (ok_binding T) (hr.mono (by decide)) rfl T.m_binding T.F_binding.kp T.b_binding (takes_of rfl rfl rfl rfl) (ra_cons (re_var 0) (ra_cons (re_var 1) (ra_cons (re_var 4) ra_nil)))))
  (ss_cons (se_if (rt_is (re_var 5) re_non) (ss_one (se_ret (fe_re re_non))) ss_nil)
  (ss_cons (se_set 6 sc_unify.nd rfl (Or.inr rfl) (fe_disp (re_ix (hu_of hr) (re_var 5) re_int) (re_ix (hu_of hr) (re_var 5) re_int)))
  (ss_cons (se_set 0 sc_unify.nd rfl (Or.inl rfl) (fe_call (ok_apply T) (hr.mono (by decide)) rfl T.m_apply T.F_apply.kp T.b_apply (takes_of rfl rfl rfl rfl) (ra_cons (re_var 6) (ra_cons (re_var 0) ra_nil))))
  (ss_cons (se_set 1 sc_unify.nd rfl (Or.inl rfl) (fe_call (ok_apply T) (hr.mono (by decide)) rfl T.m_apply T.F_apply.kp T.b_apply (takes_of rfl rfl rfl rfl) (ra_cons (re_var 6) (ra_cons (re_var 1) ra_nil))))
  (ss_cons (se_set 3 sc_unify.nd rfl (Or.inr rfl) (fe_dcD 3 (x := "number") 8 rfl sc_unify.nd (blkOk_by (own := [("number", 8)]) (N := N_unify) (sc := defScope s_unify) (by decide +kernel)) (fun _ _ _ _ _ => pg_name (i := 8) sc_unify.nd rfl (Or.inl rfl)) (fun _ _ _ _ _ => rts_nil) (fun _ _ _ _ _ => (re_var 8)) (fun _ _ _ _ _ => (re_fe (fe_call (ok_apply T) (hr.mono (by decide)) rfl T.m_apply T.F_apply.kp T.b_apply takes0 (ra_cons (re_var 6) (ra_cons (re_ix (hu_of hr) (re_var 3) (re_var 8)) ra_nil)))))))
  (ss_cons (se_put 3 (hu_of hr) (re_ix (hu_of hr) (re_var 5) re_int) (re_ix (hu_of hr) (re_var 5) re_int))
  (ss_cons (se_set 7 sc_unify.nd rfl (Or.inl rfl) (fe_add (re_fe (fe_lst (ra_cons (re_fe (fe_len rfl T.n_len (ra_cons (re_var 0) ra_nil))) (ra_cons (re_fe (fe_len rfl T.n_len (ra_cons (re_var 1) ra_nil))) ra_nil)))) (re_fe (fe_lcD 3 (x := "number") 8 rfl sc_unify.nd (blkOk_by (own := [("number", 8)]) (N := N_unify) (sc := defScope s_unify) (by decide +kernel)) (fun _ _ _ _ _ => pg_name (i := 8) sc_unify.nd rfl (Or.inl rfl)) (fun _ _ _ _ _ => rts_nil) (fun _ _ _ _ _ => (re_fe (fe_len rfl T.n_len (ra_cons (re_ix (hu_of hr) (re_var 3) (re_var 8)) ra_nil))))))))
  (ss_one (se_if (rt_gt (re_fe (fe_maxL rfl rfl T.n_max (ra_cons (re_var 7) ra_nil))) (re_var 2)) (ss_one (se_raise (T.x_TooLarge) (takes_of rfl rfl rfl rfl) rfl rfl)) ss_nil))))))))))))
  (ss_one (se_retV 3))))))
def c_is_goal : MS := (sSeq (sSet 1 (eIm (eIx (eV 0) (eC (.int 0)))))
  (sRet (eAn (eCall m_is_symbol (aCons (eV 1) aNil)) (eAn (eNot (eCall m_is_control (aCons (eIx (eV 1) (eC (.int 1))) (aCons (eIx (eV 1) (eC (.int 2))) aNil)))) (eNot (eCall m_is_built_in (aCons (eIx (eV 1) (eC (.int 1))) (aCons (eIx (eV 1) (eC (.int 2))) aNil))))))))
def m_is_goal : MF := runP 2 1 c_is_goal
theorem ok_is_goal (T : Tx K mg) : FnOk P w K mg base (L2.CX P w) 2 T.a_is_goal T.d_is_goal ["term"] (spP K mg m_is_goal) := fnP (k := 1) T.F_is_goal sc_is_goal c_is_goal fun cdv A outer s H E hr => (ss_cons (se_set 1 sc_is_goal.nd rfl (Or.inl rfl) (fe_re (re_ix (hu_of hr) (re_var 0) re_int)))
  (ss_one (se_ret (fe_and (re_fe (fe_call (ok_is_symbol T) (hr.mono (by decide)) rfl T.m_is_symbol T.F_is_symbol.kp T.b_is_symbol (takes_of rfl rfl rfl rfl) (ra_cons (re_var 1) ra_nil))) (fe_and (re_fe (fe_not (re_fe (fe_call (ok_is_control T) (hr.mono (by decide)) rfl T.m_is_control T.F_is_control.kp T.b_is_control (takes_of rfl rfl rfl rfl) (ra_cons (re_ix (hu_of hr) (re_var 1) re_int) (ra_cons (re_ix (hu_of hr) (re_var 1) re_int) ra_nil)))))) (fe_one (fe_not (re_fe (fe_call (ok_is_built_in T) (hr.mono (by decide)) rfl T.m_is_built_in T.F_is_built_in.kp T.b_is_built_in (takes_of rfl rfl rfl rfl) (ra_cons (re_ix (hu_of hr) (re_var 1) re_int) (ra_cons (re_ix (hu_of hr) (re_var 1) re_int) ra_nil)))))))))))
noncomputable def b_conjuncts_1 : MS := (sSeq (sPop 2 3)
  (sIf (tCp (oEq false) (eIx (eV 3) (eC (.int 0))) (eTup (aCons (eC (.str (Str.ofString "f"))) (aCons (eC (.str (Str.ofString ","))) (aCons (eC (.int 2)) aNil))))) (sSeq (sAsg (gT (gsCons (gN 4) (gsCons (gN 5) gsNil))) (gsCons (gN 4) (gsCons (gN 5) gsNil)) (eCall m_parts (aCons (eV 3) aNil)))
  (sExt 2 (eLst (aCons (eV 5) (aCons (eV 4) aNil))))) (sIf (tCp (oEq true) (eV 3) (eC k_TRUE)) (sApp 1 (eV 3)) sNil)))
def t_conjuncts_2 : MT := (tTru (eV 2))
noncomputable def c_conjuncts : MS := (sSeq (sSet 1 (eLst aNil))
  (sSeq (sSet 2 (eLst (aCons (eV 0) aNil)))
  (sSeq (sWh t_conjuncts_2 b_conjuncts_1)
  (sRetV 1))))
noncomputable def m_conjuncts : MF := runP 6 1 c_conjuncts
theorem ok_conjuncts (T : Tx K mg) : FnOk P w K mg base (L2.CX P w) 4 T.a_conjuncts T.d_conjuncts ["body"] (spP K mg m_conjuncts) := fnP (k := 3) T.F_conjuncts sc_conjuncts c_conjuncts fun cdv A outer s H E hr => (ss_cons (se_set 1 sc_conjuncts.nd rfl (Or.inl rfl) (fe_lst ra_nil))
  (ss_cons (se_set 2 sc_conjuncts.nd rfl (Or.inl rfl) (fe_lst (ra_cons (re_var 0) ra_nil)))
  (ss_cons (se_while (passes_of rfl) (rt_tru (re_var 2)) (ss_cons (se_pop 2 3 sc_conjuncts.nd rfl (Or.inl rfl))
  (ss_one (se_if (rt_eq (hu64 hr) (re_ix (hu_of hr) (re_var 3) re_int) (re_tup (ra_cons re_str (ra_cons re_str (ra_cons re_int ra_nil))))) (ss_cons (se_unp rfl (re_fe (fe_call (ok_parts T) (hr.mono (by decide)) rfl T.m_parts T.F_parts.kp T.b_parts (takes_of rfl rfl rfl rfl) (ra_cons (re_var 3) ra_nil))) (ges_cons (ge_name 4 sc_conjuncts.nd rfl (Or.inl rfl)) (ges_cons (ge_name 5 sc_conjuncts.nd rfl (Or.inl rfl)) ges_nil)) (gs_len2))
  (ss_one (se_ext 2 (re_fe (fe_lst (ra_cons (re_var 5) (ra_cons (re_var 4) ra_nil))))))) (ss_one (se_if (rt_ne (hu64 hr) (re_var 3) (re_glob rfl T.g_TRUE T.v_TRUE (t_TRUE T))) (ss_one (se_app 1 (re_var 3))) ss_nil))))))
  (ss_one (se_retV 1)))))
def b_head_and_goals_1 : MS := (sIf (tNt (tTru (eCall m_is_goal (aCons (eV 4) aNil)))) (sRaise "NotDefinite") sNil)
noncomputable def c_head_and_goals : MS := (sSeq (sSet 1 (eIm (eV 0)))
  (sSeq (sSet 2 (eIm (eC k_TRUE)))
  (sSeq (sIf (tCp (oEq false) (eIx (eV 0) (eC (.int 0))) (eTup (aCons (eC (.str (Str.ofString "f"))) (aCons (eC (.str (Str.ofString ":-"))) (aCons (eC (.int 2)) aNil))))) (sAsg (gT (gsCons (gN 1) (gsCons (gN 2) gsNil))) (gsCons (gN 1) (gsCons (gN 2) gsNil)) (eCall m_parts (aCons (eV 0) aNil))) sNil)
  (sSeq (sSet 3 (eCall m_conjuncts (aCons (eV 2) aNil)))
  (sSeq (sFor (eLst (aCons (eV 1) (aStar (eV 3) aNil))) (gN 4) b_head_and_goals_1)
  (sRetT (eV 1) 3))))))
noncomputable def m_head_and_goals : MF := runP 5 1 c_head_and_goals
theorem ok_head_and_goals (T : Tx K mg) : FnOk P w K mg base (L2.CX P w) 5 T.a_head_and_goals T.d_head_and_goals ["clause"] (spP K mg m_head_and_goals) := fnP (k := 4) T.F_head_and_goals sc_head_and_goals c_head_and_goals fun cdv A outer s H E hr => (ss_cons (se_set 1 sc_head_and_goals.nd rfl (Or.inl rfl) (fe_re (re_var 0)))
  (ss_cons (se_set 2 sc_head_and_goals.nd rfl (Or.inl rfl) (fe_re (re_glob rfl T.g_TRUE T.v_TRUE (t_TRUE T))))
  (ss_cons (se_if (rt_eq (hu64 hr) (re_ix (hu_of hr) (re_var 0) re_int) (re_tup (ra_cons re_str (ra_cons re_str (ra_cons re_int ra_nil))))) (ss_one (se_unp rfl (re_fe (fe_call (ok_parts T) (hr.mono (by decide)) rfl T.m_parts T.F_parts.kp T.b_parts (takes_of rfl rfl rfl rfl) (ra_cons (re_var 0) ra_nil))) (ges_cons (ge_name 1 sc_head_and_goals.nd rfl (Or.inl rfl)) (ges_cons (ge_name 2 sc_head_and_goals.nd rfl (Or.inl rfl)) ges_nil)) (gs_len2))) ss_nil)
  (ss_cons (se_set 3 sc_head_and_goals.nd rfl (Or.inl rfl) (fe_call (ok_conjuncts T) (hr.mono (by decide)) rfl T.m_conjuncts T.F_conjuncts.kp T.b_conjuncts (takes_of rfl rfl rfl rfl) (ra_cons (re_var 2) ra_nil)))
  (ss_cons (se_for (passes_of rfl) rfl (fe_lst (ra_cons (re_var 1) (ra_star (re_var 3) ra_nil))) (ge_name 4 sc_head_and_goals.nd rfl (Or.inl rfl)) (ss_one (se_if (rt_not (rt_tru (re_fe (fe_call (ok_is_goal T) (hr.mono (by decide)) rfl T.m_is_goal T.F_is_goal.kp T.b_is_goal (takes_of rfl rfl rfl rfl) (ra_cons (re_var 4) ra_nil))))) (ss_one (se_raise (T.x_NotDefinite) (takes_of rfl rfl rfl rfl) rfl rfl)) ss_nil)))
  (ss_one (se_retT 3 (re_var 1))))))))
noncomputable def c_numbered : MS := (sRet (eCall m_list_items (aCons (eCall m_renumber (aCons (eCallD m_list_term (aCons (eV 0) aNil) [Val.im .non]) (aCons (eV 1) aNil))) aNil)))
noncomputable def m_numbered : MF := runP 2 2 c_numbered
theorem ok_numbered (T : Tx K mg) : FnOk P w K mg base (L2.CX P w) 4 T.a_numbered T.d_numbered ["terms", "first"] (spP K mg m_numbered) := fnP (k := 3) T.F_numbered sc_numbered c_numbered fun cdv A outer s H E hr => (ss_one (se_ret (fe_call (ok_list_items T) (hr.mono (by decide)) rfl T.m_list_items T.F_list_items.kp T.b_list_items (takes_of rfl rfl rfl rfl) (ra_cons (re_fe (fe_call (ok_renumber T) (hr.mono (by decide)) rfl T.m_renumber T.F_renumber.kp T.b_renumber (takes_of rfl rfl rfl rfl) (ra_cons (re_fe (fe_callD (ok_list_term T) (hr.mono (by decide)) rfl T.m_list_term T.F_list_term.kp T.bd_list_term T.dv_list_term (fun _ => .cons (.im .non) (.nil)) (takes_of rfl rfl rfl rfl) (ra_cons (re_var 0) ra_nil))) (ra_cons (re_var 1) ra_nil)))) ra_nil))))
def b_next_number_1 : MS := (sSet 1 (eMax (aCons (eV 1) (aCons (eAdd (eV 2) (eC (.int 1))) aNil))))
def c_next_number : MS := (sSeq (sSet 1 (eIm (eC (.int 0))))
  (sSeq (sFor (eCall m_variables (aCons (eCallD m_list_term (aCons (eV 0) aNil) [Val.im .non]) aNil)) (gN 2) b_next_number_1)
  (sRetV 1)))
def m_next_number : MF := runP 3 1 c_next_number
theorem ok_next_number (T : Tx K mg) : FnOk P w K mg base (L2.CX P w) 3 T.a_next_number T.d_next_number ["terms"] (spP K mg m_next_number) := fnP (k := 2) T.F_next_number sc_next_number c_next_number fun cdv A outer s H E hr => (ss_cons (se_set 1 sc_next_number.nd rfl (Or.inl rfl) (fe_re re_int))
  (ss_cons (se_for (passes_of rfl) rfl (fe_call (ok_variables T) (hr.mono (by decide)) rfl T.m_variables T.F_variables.kp T.b_variables (takes_of rfl rfl rfl rfl) (ra_cons (re_fe (fe_callD (ok_list_term T) (hr.mono (by decide)) rfl T.m_list_term T.F_list_term.kp T.bd_list_term T.dv_list_term (fun _ => .cons (.im .non) (.nil)) (takes_of rfl rfl rfl rfl) (ra_cons (re_var 0) ra_nil))) ra_nil)) (ge_name 2 sc_next_number.nd rfl (Or.inl rfl)) (ss_one (se_set 1 sc_next_number.nd rfl (Or.inl rfl) (fe_max rfl rfl T.n_max (ra_cons (re_var 1) (ra_cons (re_fe (fe_add (re_var 2) re_int)) ra_nil))))))
  (ss_one (se_retV 1))))
def c_small : MS := (sSeq (sIf (tCp oGt (eLen (aCons (eV 0) aNil)) (eC k_MOST_NODES)) (sRaise "TooLarge") sNil)
  (sRetV 0))
def m_small : MF := runP 1 1 c_small
theorem ok_small (T : Tx K mg) : FnOk P w K mg base (L2.CX P w) 1 T.a_small T.d_small ["term"] (spP K mg m_small) := fnP (k := 0) T.F_small sc_small c_small fun cdv A outer s H E hr => (ss_cons (se_if (rt_gt (re_fe (fe_len rfl T.n_len (ra_cons (re_var 0) ra_nil))) (re_glob rfl T.g_MOST_NODES T.v_MOST_NODES (t_MOST_NODES T))) (ss_one (se_raise (T.x_TooLarge) (takes_of rfl rfl rfl rfl) rfl rfl)) ss_nil)
  (ss_one (se_retV 0)))
def e_replaced_1 : ME := (eCall m_apply (aCons (eV 0) (aCons (eV 2) aNil)))
noncomputable def c_replaced : MS := (sRet (eCall m_numbered (aCons (eLc (eV 1) 2 tYs e_replaced_1) (aCons (eC (.int 0)) aNil))))
noncomputable def m_replaced : MF := runP 3 2 c_replaced
theorem ok_replaced (T : Tx K mg) : FnOk P w K mg base (L2.CX P w) 5 T.a_replaced T.d_replaced ["unifier", "terms"] (spP K mg m_replaced) := fnP (k := 4) T.F_replaced sc_replaced c_replaced fun cdv A outer s H E hr => (ss_one (se_ret (fe_call (ok_numbered T) (hr.mono (by decide)) rfl T.m_numbered T.F_numbered.kp T.b_numbered (takes_of rfl rfl rfl rfl) (ra_cons (re_fe (fe_lc (x := "term") 2 rfl sc_replaced.nd (re_var 1) (blkOk_by (own := [("term", 2)]) (N := N_replaced) (sc := defScope s_replaced) (by decide +kernel)) (fun _ _ _ _ _ => pg_name (i := 2) sc_replaced.nd rfl (Or.inl rfl)) (fun _ _ _ _ _ => rts_nil) (fun _ _ _ _ _ => (re_fe (fe_call (ok_apply T) (hr.mono (by decide)) rfl T.m_apply T.F_apply.kp T.b_apply takes0 (ra_cons (re_var 0) (ra_cons (re_var 2) ra_nil))))))) (ra_cons re_int ra_nil)))))
noncomputable def c_unified : MS := (sSeq (sUnpB 3 4 2)
  (sSeq (sSet 5 (eCall m_numbered (aCons (eLst (aCons (eV 3) (aStar (eV 4) aNil))) (aCons (eCall m_next_number (aCons (eLst (aStar (eV 0) (aCons (eV 1) aNil))) aNil)) aNil))))
  (sRet (eTup2 (eCall m_unify (aCons (eV 1) (aCons (eIx (eV 5) (eC (.int 0))) aNil))) (eSl (eV 5) (pSome (eC (.int 1))) pNone)))))
noncomputable def m_unified : MF := runP 6 3 c_unified
theorem ok_unified (T : Tx K mg) : FnOk P w K mg base (L2.CX P w) 5 T.a_unified T.d_unified ["terms", "goal", "row"] (spP K mg m_unified) := fnP (k := 4) T.F_unified sc_unified c_unified fun cdv A outer s H E hr => (ss_cons (se_unpB 3 4 2 rfl sc_unified.nd (Or.inl rfl) (Or.inl rfl))
  (ss_cons (se_set 5 sc_unified.nd rfl (Or.inl rfl) (fe_call (ok_numbered T) (hr.mono (by decide)) rfl T.m_numbered T.F_numbered.kp T.b_numbered (takes_of rfl rfl rfl rfl) (ra_cons (re_fe (fe_lst (ra_cons (re_var 3) (ra_star (re_var 4) ra_nil)))) (ra_cons (re_fe (fe_call (ok_next_number T) (hr.mono (by decide)) rfl T.m_next_number T.F_next_number.kp T.b_next_number (takes_of rfl rfl rfl rfl) (ra_cons (re_fe (fe_lst (ra_star (re_var 0) (ra_cons (re_var 1) ra_nil)))) ra_nil))) ra_nil))))
  (ss_one (se_ret (fe_tup2 (fe_call (ok_unify T) (hr.mono (by decide)) rfl T.m_unify T.F_unify.kp T.b_unify (takes_of rfl rfl rfl rfl) (ra_cons (re_var 1) (ra_cons (re_ix (hu_of hr) (re_var 5) re_int) ra_nil))) (fe_sl (re_var 5) (rpo_some re_int) rpo_none))))))
def e_resolve_row_1 : ME := (eCall m_small (aCons (eV 5) aNil))
noncomputable def c_resolve_row : MS := (sSeq (sUnp2 3 4 (eCall m_unified (aCons (eV 0) (aCons (eV 1) (aCons (eV 2) aNil)))))
  (sSeq (sIf (tCp oIs (eV 3) (eC .non)) (sRet (eIm (eC .non))) sNil)
  (sRet (eLcX (eCall m_replaced (aCons (eV 3) (aCons (eAdd (eV 0) (eV 4)) aNil))) 5 tYs e_resolve_row_1))))
noncomputable def m_resolve_row : MF := runP 6 3 c_resolve_row
theorem ok_resolve_row (T : Tx K mg) : FnOk P w K mg base (L2.CX P w) 6 T.a_resolve_row T.d_resolve_row ["terms", "goal", "row"] (spP K mg m_resolve_row) := fnP (k := 5) T.F_resolve_row sc_resolve_row c_resolve_row fun cdv A outer s H E hr => (ss_cons (se_unp2 3 4 rfl sc_resolve_row.nd (fe_call (ok_unified T) (hr.mono (by decide)) rfl T.m_unified T.F_unified.kp T.b_unified (takes_of rfl rfl rfl rfl) (ra_cons (re_var 0) (ra_cons (re_var 1) (ra_cons (re_var 2) ra_nil)))) (hx := (Or.inl rfl)) (hy := (Or.inl rfl)))
  (ss_cons (se_if (rt_is (re_var 3) re_non) (ss_one (se_ret (fe_re re_non))) ss_nil)
  (ss_one (se_ret (fe_lcX (x := "term") 5 rfl rfl (takes_of rfl rfl rfl rfl) rfl sc_resolve_row.nd (re_fe (fe_call (ok_replaced T) (hr.mono (by decide)) rfl T.m_replaced T.F_replaced.kp T.b_replaced (takes_of rfl rfl rfl rfl) (ra_cons (re_var 3) (ra_cons (re_fe (fe_add (re_var 0) (re_var 4))) ra_nil)))) (blkOk_by (own := [("term", 5)]) (N := N_resolve_row) (sc := defScope s_resolve_row) (by decide +kernel)) (fun _ _ _ _ _ => pg_name (i := 5) sc_resolve_row.nd rfl (Or.inl rfl)) (fun _ _ _ _ _ => rts_nil) (fun _ _ _ _ _ _ _ tkX => (re_fe (fe_call (ok_small T) (hr.mono (by decide)) rfl T.m_small T.F_small.kp T.b_small tkX (ra_cons (re_var 5) ra_nil)))))))))
noncomputable def c_pair_of : MS := (sSeq (sSet 1 (eCall m_numbered (aCons (eV 0) (aCons (eC (.int 0)) aNil))))
  (sRet (eTup2 (eIm (eIx (eV 1) (eC (.int 0)))) (eSl (eV 1) (pSome (eC (.int 1))) pNone))))
noncomputable def m_pair_of : MF := runP 2 1 c_pair_of
theorem ok_pair_of (T : Tx K mg) : FnOk P w K mg base (L2.CX P w) 5 T.a_pair_of T.d_pair_of ["terms"] (spP K mg m_pair_of) := fnP (k := 4) T.F_pair_of sc_pair_of c_pair_of fun cdv A outer s H E hr => (ss_cons (se_set 1 sc_pair_of.nd rfl (Or.inl rfl) (fe_call (ok_numbered T) (hr.mono (by decide)) rfl T.m_numbered T.F_numbered.kp T.b_numbered (takes_of rfl rfl rfl rfl) (ra_cons (re_var 0) (ra_cons re_int ra_nil))))
  (ss_one (se_ret (fe_tup2 (fe_re (re_ix (hu_of hr) (re_var 1) re_int)) (fe_sl (re_var 1) (rpo_some re_int) rpo_none)))))
noncomputable def c_resolve : MS := (sSeq (sSet 4 (eCall m_head_and_goals (aCons (eV 3) aNil)))
  (sSeq (sSet 5 (eLen (aCons (eIx (eV 4) (eC (.int 1))) aNil)))
  (sSeq (sSet 6 (eAdd (eAdd (eLst (aCons (eV 0) aNil)) (eSl (eV 1) pNone (pSome (eV 2)))) (eSl (eV 1) (pSome (eAdd (eV 2) (eC (.int 1)))) pNone)))
  (sSeq (sSet 7 (eCall m_resolve_row (aCons (eV 6) (aCons (eIx (eV 1) (eV 2)) (aCons (eV 4) aNil)))))
  (sSeq (sIf (tCp oIs (eV 7) (eC .non)) (sRet (eIm (eC .non))) sNil)
  (sSeq (sSet 8 (eSub (eLen (aCons (eV 7) aNil)) (eV 5)))
  (sRet (eCall m_pair_of (aCons (eAdd (eAdd (eAdd (eLst (aCons (eIx (eV 7) (eC (.int 0))) aNil)) (eSl (eV 7) (pSome (eC (.int 1))) (pSome (eAdd (eV 2) (eC (.int 1)))))) (eSl (eV 7) (pSome (eV 8)) pNone)) (eSl (eV 7) (pSome (eAdd (eV 2) (eC (.int 1)))) (pSome (eV 8)))) aNil)))))))))
noncomputable def m_resolve : MF := runP 9 4 c_resolve
theorem ok_resolve (T : Tx K mg) : FnOk P w K mg base (L2.CX P w) 7 T.a_resolve T.d_resolve ["query", "goals", "pick", "clause"] (spP K mg m_resolve) := fnP (k := 6) T.F_resolve sc_resolve c_resolve fun cdv A outer s H E hr => (ss_cons (se_set 4 sc_resolve.nd rfl (Or.inl rfl) (fe_call (ok_head_and_goals T) (hr.mono (by decide)) rfl T.m_head_and_goals T.F_head_and_goals.kp T.b_head_and_goals (takes_of rfl rfl rfl rfl) (ra_cons (re_var 3) ra_nil)))
  (ss_cons (se_set 5 sc_resolve.nd rfl (Or.inl rfl) (fe_len rfl T.n_len (ra_cons (re_ix (hu_of hr) (re_var 4) re_int) ra_nil)))
  (ss_cons (se_set 6 sc_resolve.nd rfl (Or.inl rfl) (fe_add (re_fe (fe_add (re_fe (fe_lst (ra_cons (re_var 0) ra_nil))) (re_fe (fe_sl (re_var 1) rpo_none (rpo_some (re_var 2)))))) (re_fe (fe_sl (re_var 1) (rpo_some (re_fe (fe_add (re_var 2) re_int))) rpo_none))))
  (ss_cons (se_set 7 sc_resolve.nd rfl (Or.inl rfl) (fe_call (ok_resolve_row T) (hr.mono (by decide)) rfl T.m_resolve_row T.F_resolve_row.kp T.b_resolve_row (takes_of rfl rfl rfl rfl) (ra_cons (re_var 6) (ra_cons (re_ix (hu_of hr) (re_var 1) (re_var 2)) (ra_cons (re_var 4) ra_nil)))))
  (ss_cons (se_if (rt_is (re_var 7) re_non) (ss_one (se_ret (fe_re re_non))) ss_nil)
  (ss_cons (se_set 8 sc_resolve.nd rfl (Or.inl rfl) (fe_sub (re_fe (fe_len rfl T.n_len (ra_cons (re_var 7) ra_nil))) (re_var 5)))
  (ss_one (se_ret (fe_call (ok_pair_of T) (hr.mono (by decide)) rfl T.m_pair_of T.F_pair_of.kp T.b_pair_of (takes_of rfl rfl rfl rfl) (ra_cons (re_fe (fe_add (re_fe (fe_add (re_fe (fe_add (re_fe (fe_lst (ra_cons (re_ix (hu_of hr) (re_var 7) re_int) ra_nil))) (re_fe (fe_sl (re_var 7) (rpo_some re_int) (rpo_some (re_fe (fe_add (re_var 2) re_int))))))) (re_fe (fe_sl (re_var 7) (rpo_some (re_var 8)) rpo_none)))) (re_fe (fe_sl (re_var 7) (rpo_some (re_fe (fe_add (re_var 2) re_int))) (rpo_some (re_var 8)))))) ra_nil))))))))))
def c__law_is_variable : MS := (sRet (eAn (eIsi .tuple (eV 0)) (eBin (oEq false) (eIx (eV 0) (eC (.int 0))) (eC (.str (Str.ofString "v"))))))
def m__law_is_variable : MF := runP 1 1 c__law_is_variable
theorem ok__law_is_variable (T : Tx K mg) : FnOk P w K mg base (L2.CX P w) 1 T.a__law_is_variable T.d__law_is_variable ["node"] (spP K mg m__law_is_variable) := fnP (k := 0) T.F__law_is_variable sc__law_is_variable c__law_is_variable fun cdv A outer s H E hr => (ss_one (se_ret (fe_and (re_fe (fe_isi .tuple rfl T.n_isinstance rfl T.n_tuple (by decide +kernel) (re_var 0))) (fe_one (fe_eq (hu64 hr) (re_ix (hu_of hr) (re_var 0) re_int) re_str)))))
def b__law_end_1 : MS := (sSeq (sIf (tAn (tTru (eIsi .tuple (eIx (eV 0) (eV 3)))) (tCp (oEq false) (eIx (eIx (eV 0) (eV 3)) (eC (.int 0))) (eC (.str (Str.ofString "f"))))) (sSet 2 (eAdd (eV 2) (eIx (eIx (eV 0) (eV 3)) (eC (.int 2))))) sNil)
  (sSeq (sSet 2 (eSub (eV 2) (eC (.int 1))))
  (sSet 3 (eAdd (eV 3) (eC (.int 1))))))
def t__law_end_2 : MT := (tCp oGt (eV 2) (eC (.int 0)))
noncomputable def c__law_end : MS := (sSeq (sSet 2 (eIm (eC (.int 1))))
  (sSeq (sSet 3 (eIm (eV 1)))
  (sSeq (sWh t__law_end_2 b__law_end_1)
  (sRetV 3))))
noncomputable def m__law_end : MF := runP 4 2 c__law_end
theorem ok__law_end (T : Tx K mg) : FnOk P w K mg base (L2.CX P w) 1 T.a__law_end T.d__law_end ["term", "start"] (spP K mg m__law_end) := fnP (k := 0) T.F__law_end sc__law_end c__law_end fun cdv A outer s H E hr => (ss_cons (se_set 2 sc__law_end.nd rfl (Or.inl rfl) (fe_re re_int))
  (ss_cons (se_set 3 sc__law_end.nd rfl (Or.inl rfl) (fe_re (re_var 1)))
  (ss_cons (se_while (passes_of rfl) (rt_gt (re_var 2) re_int) (ss_cons (se_if (rt_rw (rw_and (rt_tru (re_fe (fe_isi .tuple rfl T.n_isinstance rfl T.n_tuple (by decide +kernel) (re_ix (hu_of hr) (re_var 0) (re_var 3))))) (rw_and1 (rt_eq (hu64 hr) (re_ix (hu_of hr) (re_ix (hu_of hr) (re_var 0) (re_var 3)) re_int) re_str)))) (ss_one (se_set 2 sc__law_end.nd rfl (Or.inl rfl) (fe_add (re_var 2) (re_ix (hu_of hr) (re_ix (hu_of hr) (re_var 0) (re_var 3)) re_int)))) ss_nil)
  (ss_cons (se_set 2 sc__law_end.nd rfl (Or.inl rfl) (fe_sub (re_var 2) re_int))
  (ss_one (se_set 3 sc__law_end.nd rfl (Or.inl rfl) (fe_add (re_var 3) re_int))))))
  (ss_one (se_retV 3)))))
noncomputable def b__law_parts_1 : MS := (sSeq (sSet 3 (eCall m__law_end (aCons (eV 0) (aCons (eV 2) aNil))))
  (sSeq (sApp 1 (eSl (eV 0) (pSome (eV 2)) (pSome (eV 3))))
  (sSet 2 (eIm (eV 3)))))
def t__law_parts_2 : MT := (tCp oLt (eV 2) (eLen (aCons (eV 0) aNil)))
noncomputable def c__law_parts : MS := (sSeq (sSet 1 (eLst aNil))
  (sSeq (sSet 2 (eIm (eC (.int 1))))
  (sSeq (sWh t__law_parts_2 b__law_parts_1)
  (sRetV 1))))
noncomputable def m__law_parts : MF := runP 4 1 c__law_parts
theorem ok__law_parts (T : Tx K mg) : FnOk P w K mg base (L2.CX P w) 2 T.a__law_parts T.d__law_parts ["term"] (spP K mg m__law_parts) := fnP (k := 1) T.F__law_parts sc__law_parts c__law_parts fun cdv A outer s H E hr => (ss_cons (se_set 1 sc__law_parts.nd rfl (Or.inl rfl) (fe_lst ra_nil))
  (ss_cons (se_set 2 sc__law_parts.nd rfl (Or.inl rfl) (fe_re re_int))
  (ss_cons (se_while (passes_of rfl) (rt_lt (hu64 hr) (re_var 2) (re_fe (fe_len rfl T.n_len (ra_cons (re_var 0) ra_nil)))) (ss_cons (se_set 3 sc__law_parts.nd rfl (Or.inl rfl) (fe_call (ok__law_end T) (hr.mono (by decide)) rfl T.m__law_end T.F__law_end.kp T.b__law_end (takes_of rfl rfl rfl rfl) (ra_cons (re_var 0) (ra_cons (re_var 2) ra_nil))))
  (ss_cons (se_app 1 (re_fe (fe_sl (re_var 0) (rpo_some (re_var 2)) (rpo_some (re_var 3)))))
  (ss_one (se_set 2 sc__law_parts.nd rfl (Or.inl rfl) (fe_re (re_var 3)))))))
  (ss_one (se_retV 1)))))
def b__law_put_1 : MS := (sIf (tAn (tTru (eCall m__law_is_variable (aCons (eV 3) aNil))) (tCp (oIn false) (eIx (eV 3) (eC (.int 1))) (eV 0))) (sExt 2 (eIx (eV 0) (eIx (eV 3) (eC (.int 1))))) (sApp 2 (eV 3)))
def c__law_put : MS := (sSeq (sSet 2 (eLst aNil))
  (sSeq (sForV 1 (gN 3) b__law_put_1)
  (sRet (eTuple (aCons (eV 2) aNil)))))
def m__law_put : MF := runP 4 2 c__law_put
theorem ok__law_put (T : Tx K mg) : FnOk P w K mg base (L2.CX P w) 2 T.a__law_put T.d__law_put ["table", "term"] (spP K mg m__law_put) := fnP (k := 1) T.F__law_put sc__law_put c__law_put fun cdv A outer s H E hr => (ss_cons (se_set 2 sc__law_put.nd rfl (Or.inl rfl) (fe_lst ra_nil))
  (ss_cons (se_forV 1 (passes_of rfl) rfl (ge_name 3 sc__law_put.nd rfl (Or.inl rfl)) (ss_one (se_if (rt_rw (rw_and (rt_tru (re_fe (fe_call (ok__law_is_variable T) (hr.mono (by decide)) rfl T.m__law_is_variable T.F__law_is_variable.kp T.b__law_is_variable (takes_of rfl rfl rfl rfl) (ra_cons (re_var 3) ra_nil)))) (rw_and1 (rt_in (hu65 hr) (re_ix (hu_of hr) (re_var 3) re_int) (re_var 0))))) (ss_one (se_ext 2 (re_ix (hu_of hr) (re_var 0) (re_ix (hu_of hr) (re_var 3) re_int)))) (ss_one (se_app 2 (re_var 3))))))
  (ss_one (se_ret (fe_tuple rfl T.n_tuple (ra_cons (re_var 2) ra_nil))))))
def b__law_numbered_1 : MS := (sIf (tAn (tTru (eCall m__law_is_variable (aCons (eV 5) aNil))) (tCp (oIn true) (eIx (eV 5) (eC (.int 1))) (eV 2))) (sPut 2 (eIx (eV 5) (eC (.int 1))) (eTup (aCons (eTup (aCons (eC (.str (Str.ofString "v"))) (aCons (eAdd (eV 1) (eLen (aCons (eV 2) aNil))) aNil))) aNil))) sNil)
def b__law_numbered_2 : MS := (sSeq (sForV 4 (gN 5) b__law_numbered_1)
  (sApp 3 (eCall m__law_put (aCons (eV 2) (aCons (eV 4) aNil)))))
def c__law_numbered : MS := (sSeq (sSet 2 eDk)
  (sSeq (sSet 3 (eLst aNil))
  (sSeq (sForV 0 (gN 4) b__law_numbered_2)
  (sRetV 3))))
def m__law_numbered : MF := runP 6 2 c__law_numbered
theorem ok__law_numbered (T : Tx K mg) : FnOk P w K mg base (L2.CX P w) 3 T.a__law_numbered T.d__law_numbered ["terms", "first"] (spP K mg m__law_numbered) := fnP (k := 2) T.F__law_numbered sc__law_numbered c__law_numbered fun cdv A outer s H E hr => (ss_cons (se_set 2 sc__law_numbered.nd rfl (Or.inl rfl) fe_dk)
  (ss_cons (se_set 3 sc__law_numbered.nd rfl (Or.inl rfl) (fe_lst ra_nil))
  (ss_cons (se_forV 0 (passes_of rfl) rfl (ge_name 4 sc__law_numbered.nd rfl (Or.inl rfl)) (ss_cons (se_forV 4 (passes_of rfl) rfl (ge_name 5 sc__law_numbered.nd rfl (Or.inl rfl)) (ss_one (se_if (rt_rw (rw_and (rt_tru (re_fe (fe_call (ok__law_is_variable T) (hr.mono (by decide)) rfl T.m__law_is_variable T.F__law_is_variable.kp T.b__law_is_variable (takes_of rfl rfl rfl rfl) (ra_cons (re_var 5) ra_nil)))) (rw_and1 (rt_nin (hu65 hr) (re_ix (hu_of hr) (re_var 5) re_int) (re_var 2))))) (ss_one (se_put 2 (hu_of hr) (re_ix (hu_of hr) (re_var 5) re_int) (re_tup (ra_cons (re_tup (ra_cons re_str (ra_cons (re_fe (fe_add (re_var 1) (re_fe (fe_len rfl T.n_len (ra_cons (re_var 2) ra_nil))))) ra_nil))) ra_nil)))) ss_nil)))
  (ss_one (se_app 3 (re_fe (fe_call (ok__law_put T) (hr.mono (by decide)) rfl T.m__law_put T.F__law_put.kp T.b__law_put (takes_of rfl rfl rfl rfl) (ra_cons (re_var 2) (ra_cons (re_var 4) ra_nil))))))))
  (ss_one (se_retV 3)))))
def b__law_fresh_1 : MS := (sIf (tTru (eCall m__law_is_variable (aCons (eV 3) aNil))) (sSet 1 (eMax (aCons (eV 1) (aCons (eAdd (eIx (eV 3) (eC (.int 1))) (eC (.int 1))) aNil)))) sNil)
def b__law_fresh_2 : MS := (sForV 2 (gN 3) b__law_fresh_1)
def c__law_fresh : MS := (sSeq (sSet 1 (eIm (eC (.int 0))))
  (sSeq (sForV 0 (gN 2) b__law_fresh_2)
  (sRetV 1)))
def m__law_fresh : MF := runP 4 1 c__law_fresh
theorem ok__law_fresh (T : Tx K mg) : FnOk P w K mg base (L2.CX P w) 2 T.a__law_fresh T.d__law_fresh ["terms"] (spP K mg m__law_fresh) := fnP (k := 1) T.F__law_fresh sc__law_fresh c__law_fresh fun cdv A outer s H E hr => (ss_cons (se_set 1 sc__law_fresh.nd rfl (Or.inl rfl) (fe_re re_int))
  (ss_cons (se_forV 0 (passes_of rfl) rfl (ge_name 2 sc__law_fresh.nd rfl (Or.inl rfl)) (ss_one (se_forV 2 (passes_of rfl) rfl (ge_name 3 sc__law_fresh.nd rfl (Or.inl rfl)) (ss_one (se_if (rt_tru (re_fe (fe_call (ok__law_is_variable T) (hr.mono (by decide)) rfl T.m__law_is_variable T.F__law_is_variable.kp T.b__law_is_variable (takes_of rfl rfl rfl rfl) (ra_cons (re_var 3) ra_nil)))) (ss_one (se_set 1 sc__law_fresh.nd rfl (Or.inl rfl) (fe_max rfl rfl T.n_max (ra_cons (re_var 1) (ra_cons (re_fe (fe_add (re_ix (hu_of hr) (re_var 3) re_int) re_int)) ra_nil))))) ss_nil)))))
  (ss_one (se_retV 1))))
noncomputable def c__law_bound : MS := (sSeq (sSet 3 (eIm (eIx (eV 0) (eV 2))))
  (sSeq (sSet 4 (eIm (eIx (eV 1) (eV 2))))
  (sSeq (sIf (tAn (tTru (eCall m__law_is_variable (aCons (eV 3) aNil))) (tTru (eCall m__law_is_variable (aCons (eV 4) aNil)))) (sRet (eIm (eTup (aCons (eMax (aCons (eIx (eV 3) (eC (.int 1))) (aCons (eIx (eV 4) (eC (.int 1))) aNil))) (aCons (eTup (aCons (eTup (aCons (eC (.str (Str.ofString "v"))) (aCons (eMin (aCons (eIx (eV 3) (eC (.int 1))) (aCons (eIx (eV 4) (eC (.int 1))) aNil))) aNil))) aNil)) aNil))))) sNil)
  (sSeq (sIf (tTru (eCall m__law_is_variable (aCons (eV 3) aNil))) (sSet 5 (eIm (eTup (aCons (eIx (eV 3) (eC (.int 1))) (aCons (eSl (eV 1) (pSome (eV 2)) (pSome (eCall m__law_end (aCons (eV 1) (aCons (eV 2) aNil))))) aNil))))) (sIf (tTru (eCall m__law_is_variable (aCons (eV 4) aNil))) (sSet 5 (eIm (eTup (aCons (eIx (eV 4) (eC (.int 1))) (aCons (eSl (eV 0) (pSome (eV 2)) (pSome (eCall m__law_end (aCons (eV 0) (aCons (eV 2) aNil))))) aNil))))) (sRet (eIm (eC .non)))))
  (sSeq (sIf (tCp (oIn false) (eTup (aCons (eC (.str (Str.ofString "v"))) (aCons (eIx (eV 5) (eC (.int 0))) aNil))) (eIx (eV 5) (eC (.int 1)))) (sRet (eIm (eC .non))) sNil)
  (sRetV 5))))))
noncomputable def m__law_bound : MF := runP 6 3 c__law_bound
theorem ok__law_bound (T : Tx K mg) : FnOk P w K mg base (L2.CX P w) 2 T.a__law_bound T.d__law_bound ["left", "right", "at"] (spP K mg m__law_bound) := fnP (k := 1) T.F__law_bound sc__law_bound c__law_bound fun cdv A outer s H E hr => (ss_cons (se_set 3 sc__law_bound.nd rfl (Or.inl rfl) (fe_re (re_ix (hu_of hr) (re_var 0) (re_var 2))))
  (ss_cons (se_set 4 sc__law_bound.nd rfl (Or.inl rfl) (fe_re (re_ix (hu_of hr) (re_var 1) (re_var 2))))
  (ss_cons (se_if (rt_rw (rw_and (rt_tru (re_fe (fe_call (ok__law_is_variable T) (hr.mono (by decide)) rfl T.m__law_is_variable T.F__law_is_variable.kp T.b__law_is_variable (takes_of rfl rfl rfl rfl) (ra_cons (re_var 3) ra_nil)))) (rw_and1 (rt_tru (re_fe (fe_call (ok__law_is_variable T) (hr.mono (by decide)) rfl T.m__law_is_variable T.F__law_is_variable.kp T.b__law_is_variable (takes_of rfl rfl rfl rfl) (ra_cons (re_var 4) ra_nil))))))) (ss_one (se_ret (fe_re (re_tup (ra_cons (re_fe (fe_max rfl rfl T.n_max (ra_cons (re_ix (hu_of hr) (re_var 3) re_int) (ra_cons (re_ix (hu_of hr) (re_var 4) re_int) ra_nil)))) (ra_cons (re_tup (ra_cons (re_tup (ra_cons re_str (ra_cons (re_fe (fe_min rfl rfl T.n_min (ra_cons (re_ix (hu_of hr) (re_var 3) re_int) (ra_cons (re_ix (hu_of hr) (re_var 4) re_int) ra_nil)))) ra_nil))) ra_nil)) ra_nil)))))) ss_nil)
  (ss_cons (se_if (rt_tru (re_fe (fe_call (ok__law_is_variable T) (hr.mono (by decide)) rfl T.m__law_is_variable T.F__law_is_variable.kp T.b__law_is_variable (takes_of rfl rfl rfl rfl) (ra_cons (re_var 3) ra_nil)))) (ss_one (se_set 5 sc__law_bound.nd rfl (Or.inl rfl) (fe_re (re_tup (ra_cons (re_ix (hu_of hr) (re_var 3) re_int) (ra_cons (re_fe (fe_sl (re_var 1) (rpo_some (re_var 2)) (rpo_some (re_fe (fe_call (ok__law_end T) (hr.mono (by decide)) rfl T.m__law_end T.F__law_end.kp T.b__law_end (takes_of rfl rfl rfl rfl) (ra_cons (re_var 1) (ra_cons (re_var 2) ra_nil))))))) ra_nil)))))) (ss_one (se_if (rt_tru (re_fe (fe_call (ok__law_is_variable T) (hr.mono (by decide)) rfl T.m__law_is_variable T.F__law_is_variable.kp T.b__law_is_variable (takes_of rfl rfl rfl rfl) (ra_cons (re_var 4) ra_nil)))) (ss_one (se_set 5 sc__law_bound.nd rfl (Or.inl rfl) (fe_re (re_tup (ra_cons (re_ix (hu_of hr) (re_var 4) re_int) (ra_cons (re_fe (fe_sl (re_var 0) (rpo_some (re_var 2)) (rpo_some (re_fe (fe_call (ok__law_end T) (hr.mono (by decide)) rfl T.m__law_end T.F__law_end.kp T.b__law_end (takes_of rfl rfl rfl rfl) (ra_cons (re_var 0) (ra_cons (re_var 2) ra_nil))))))) ra_nil)))))) (ss_one (se_ret (fe_re re_non))))))
  (ss_cons (se_if (rt_in (hu65 hr) (re_tup (ra_cons re_str (ra_cons (re_ix (hu_of hr) (re_var 5) re_int) ra_nil))) (re_ix (hu_of hr) (re_var 5) re_int)) (ss_one (se_ret (fe_re re_non))) ss_nil)
  (ss_one (se_retV 5)))))))
def b__law_unify_1 : MS := (sSeq (sSet 9 (eCall m__law_put (aCons (eV 6) (aCons (eIx (eV 3) (eV 8)) aNil))))
  (sSeq (sPut 3 (eV 8) (eV 9))
  (sSet 7 (eMax (aCons (eV 7) (aCons (eLen (aCons (eV 9) aNil)) aNil))))))
noncomputable def b__law_unify_2 : MS := (sIf (tCp (oEq false) (eIx (eV 0) (eV 4)) (eIx (eV 1) (eV 4))) (sSet 4 (eAdd (eV 4) (eC (.int 1)))) (sSeq (sSet 5 (eCall m__law_bound (aCons (eV 0) (aCons (eV 1) (aCons (eV 4) aNil)))))
  (sSeq (sIf (tCp oIs (eV 5) (eC .non)) (sRet (eIm (eC .non))) sNil)
  (sSeq (sSet 6 (eDisp (eIx (eV 5) (eC (.int 0))) (eIx (eV 5) (eC (.int 1)))))
  (sSeq (sSet 0 (eCall m__law_put (aCons (eV 6) (aCons (eV 0) aNil))))
  (sSeq (sSet 1 (eCall m__law_put (aCons (eV 6) (aCons (eV 1) aNil))))
  (sSeq (sSet 7 (eMax3 (aCons (eLen (aCons (eV 0) aNil)) (aCons (eLen (aCons (eV 1) aNil)) (aCons (eLen (aCons (eIx (eV 5) (eC (.int 1))) aNil)) aNil)))))
  (sSeq (sFor (eListD (aCons (eV 3) aNil)) (gN 8) b__law_unify_1)
  (sSeq (sPut 3 (eIx (eV 5) (eC (.int 0))) (eIx (eV 5) (eC (.int 1))))
  (sIf (tCp oGt (eV 7) (eV 2)) (sRet (eIm (eC (.str (Str.ofString "large"))))) sNil))))))))))
def t__law_unify_3 : MT := (tCp oLt (eV 4) (eLen (aCons (eV 0) aNil)))
noncomputable def c__law_unify : MS := (sSeq (sSet 2 (eMax3 (aCons (eC (.int 200)) (aCons (eLen (aCons (eV 0) aNil)) (aCons (eLen (aCons (eV 1) aNil)) aNil)))))
  (sSeq (sSet 3 eDk)
  (sSeq (sSet 4 (eIm (eC (.int 0))))
  (sSeq (sWh t__law_unify_3 b__law_unify_2)
  (sRetV 3)))))
noncomputable def m__law_unify : MF := runP 10 2 c__law_unify
theorem ok__law_unify (T : Tx K mg) : FnOk P w K mg base (L2.CX P w) 3 T.a__law_unify T.d__law_unify ["left", "right"] (spP K mg m__law_unify) := fnP (k := 2) T.F__law_unify sc__law_unify c__law_unify fun cdv A outer s H E hr => (ss_cons (se_set 2 sc__law_unify.nd rfl (Or.inl rfl) (fe_max3 rfl rfl T.n_max (ra_cons re_int (ra_cons (re_fe (fe_len rfl T.n_len (ra_cons (re_var 0) ra_nil))) (ra_cons (re_fe (fe_len rfl T.n_len (ra_cons (re_var 1) ra_nil))) ra_nil)))))
  (ss_cons (se_set 3 sc__law_unify.nd rfl (Or.inl rfl) fe_dk)
  (ss_cons (se_set 4 sc__law_unify.nd rfl (Or.inl rfl) (fe_re re_int))
  (ss_cons (se_while (passes_of rfl) (rt_lt (hu64 hr) (re_var 4) (re_fe (fe_len rfl T.n_len (ra_cons (re_var 0) ra_nil)))) (ss_one (se_if (rt_eq (hu64 hr) (re_ix (hu_of hr) (re_var 0) (re_var 4)) (re_ix (hu_of hr) (re_var 1) (re_var 4))) (ss_one (se_set 4 sc__law_unify.nd rfl (Or.inl rfl) (fe_add (re_var 4) re_int))) (ss_cons (se_set 5 sc__law_unify.nd rfl (Or.inl rfl) (fe_call (ok__law_bound T) (hr.mono (by decide)) rfl T.m__law_bound T.F__law_bound.kp T.b__law_bound (takes_of rfl rfl rfl rfl) (ra_cons (re_var 0) (ra_cons (re_var 1) (ra_cons (re_var 4) ra_nil)))))
  (ss_cons (se_if (rt_is (re_var 5) re_non) (ss_one (se_ret (fe_re re_non))) ss_nil)
  (ss_cons (se_set 6 sc__law_unify.nd rfl (Or.inl rfl) (fe_disp (re_ix (hu_of hr) (re_var 5) re_int) (re_ix (hu_of hr) (re_var 5) re_int)))
  (ss_cons (se_set 0 sc__law_unify.nd rfl (Or.inl rfl) (fe_call (ok__law_put T) (hr.mono (by decide)) rfl T.m__law_put T.F__law_put.kp T.b__law_put (takes_of rfl rfl rfl rfl) (ra_cons (re_var 6) (ra_cons (re_var 0) ra_nil))))
  (ss_cons (se_set 1 sc__law_unify.nd rfl (Or.inl rfl) (fe_call (ok__law_put T) (hr.mono (by decide)) rfl T.m__law_put T.F__law_put.kp T.b__law_put (takes_of rfl rfl rfl rfl) (ra_cons (re_var 6) (ra_cons (re_var 1) ra_nil))))
  (ss_cons (se_set 7 sc__law_unify.nd rfl (Or.inl rfl) (fe_max3 rfl rfl T.n_max (ra_cons (re_fe (fe_len rfl T.n_len (ra_cons (re_var 0) ra_nil))) (ra_cons (re_fe (fe_len rfl T.n_len (ra_cons (re_var 1) ra_nil))) (ra_cons (re_fe (fe_len rfl T.n_len (ra_cons (re_ix (hu_of hr) (re_var 5) re_int) ra_nil))) ra_nil)))))
  (ss_cons (se_for (passes_of rfl) rfl (fe_listD rfl rfl T.n_list (ra_cons (re_var 3) ra_nil)) (ge_name 8 sc__law_unify.nd rfl (Or.inl rfl)) (ss_cons (se_set 9 sc__law_unify.nd rfl (Or.inl rfl) (fe_call (ok__law_put T) (hr.mono (by decide)) rfl T.m__law_put T.F__law_put.kp T.b__law_put (takes_of rfl rfl rfl rfl) (ra_cons (re_var 6) (ra_cons (re_ix (hu_of hr) (re_var 3) (re_var 8)) ra_nil))))
  (ss_cons (se_put 3 (hu_of hr) (re_var 8) (re_var 9))
  (ss_one (se_set 7 sc__law_unify.nd rfl (Or.inl rfl) (fe_max rfl rfl T.n_max (ra_cons (re_var 7) (ra_cons (re_fe (fe_len rfl T.n_len (ra_cons (re_var 9) ra_nil))) ra_nil))))))))
  (ss_cons (se_put 3 (hu_of hr) (re_ix (hu_of hr) (re_var 5) re_int) (re_ix (hu_of hr) (re_var 5) re_int))
  (ss_one (se_if (rt_gt (re_var 7) (re_var 2)) (ss_one (se_ret (fe_re re_str))) ss_nil)))))))))))))
  (ss_one (se_retV 3))))))
noncomputable def b__law_conjuncts_1 : MS := (sSeq (sPop 2 3)
  (sIf (tCp (oEq false) (eIx (eV 3) (eC (.int 0))) (eTup (aCons (eC (.str (Str.ofString "f"))) (aCons (eC (.str (Str.ofString ","))) (aCons (eC (.int 2)) aNil))))) (sSeq (sSet 4 (eCall m__law_parts (aCons (eV 3) aNil)))
  (sSeq (sApp 2 (eIx (eV 4) (eC (.int 1))))
  (sApp 2 (eIx (eV 4) (eC (.int 0)))))) (sIf (tCp (oEq true) (eV 3) (eTup (aCons (eTup (aCons (eC (.str (Str.ofString "f"))) (aCons (eC (.str (Str.ofString "true"))) (aCons (eC (.int 0)) aNil)))) aNil))) (sApp 1 (eV 3)) sNil)))
def t__law_conjuncts_2 : MT := (tCp oGt (eLen (aCons (eV 2) aNil)) (eC (.int 0)))
noncomputable def c__law_conjuncts : MS := (sSeq (sSet 1 (eLst aNil))
  (sSeq (sSet 2 (eLst (aCons (eV 0) aNil)))
  (sSeq (sWh t__law_conjuncts_2 b__law_conjuncts_1)
  (sRetV 1))))
noncomputable def m__law_conjuncts : MF := runP 5 1 c__law_conjuncts
theorem ok__law_conjuncts (T : Tx K mg) : FnOk P w K mg base (L2.CX P w) 3 T.a__law_conjuncts T.d__law_conjuncts ["body"] (spP K mg m__law_conjuncts) := fnP (k := 2) T.F__law_conjuncts sc__law_conjuncts c__law_conjuncts fun cdv A outer s H E hr => (ss_cons (se_set 1 sc__law_conjuncts.nd rfl (Or.inl rfl) (fe_lst ra_nil))
  (ss_cons (se_set 2 sc__law_conjuncts.nd rfl (Or.inl rfl) (fe_lst (ra_cons (re_var 0) ra_nil)))
  (ss_cons (se_while (passes_of rfl) (rt_gt (re_fe (fe_len rfl T.n_len (ra_cons (re_var 2) ra_nil))) re_int) (ss_cons (se_pop 2 3 sc__law_conjuncts.nd rfl (Or.inl rfl))
  (ss_one (se_if (rt_eq (hu64 hr) (re_ix (hu_of hr) (re_var 3) re_int) (re_tup (ra_cons re_str (ra_cons re_str (ra_cons re_int ra_nil))))) (ss_cons (se_set 4 sc__law_conjuncts.nd rfl (Or.inl rfl) (fe_call (ok__law_parts T) (hr.mono (by decide)) rfl T.m__law_parts T.F__law_parts.kp T.b__law_parts (takes_of rfl rfl rfl rfl) (ra_cons (re_var 3) ra_nil)))
  (ss_cons (se_app 2 (re_ix (hu_of hr) (re_var 4) re_int))
  (ss_one (se_app 2 (re_ix (hu_of hr) (re_var 4) re_int))))) (ss_one (se_if (rt_ne (hu64 hr) (re_var 3) (re_tup (ra_cons (re_tup (ra_cons re_str (ra_cons re_str (ra_cons re_int ra_nil)))) ra_nil))) (ss_one (se_app 1 (re_var 3))) ss_nil))))))
  (ss_one (se_retV 1)))))
noncomputable def c__law_row : MS := (sSeq (sIf (tCp (oEq false) (eIx (eV 0) (eC (.int 0))) (eTup (aCons (eC (.str (Str.ofString "f"))) (aCons (eC (.str (Str.ofString ":-"))) (aCons (eC (.int 2)) aNil))))) (sSeq (sSet 1 (eCall m__law_parts (aCons (eV 0) aNil)))
  (sRet (eAdd (eLst (aCons (eIx (eV 1) (eC (.int 0))) aNil)) (eCall m__law_conjuncts (aCons (eIx (eV 1) (eC (.int 1))) aNil))))) sNil)
  (sRet (eLst (aCons (eV 0) aNil))))
noncomputable def m__law_row : MF := runP 2 1 c__law_row
theorem ok__law_row (T : Tx K mg) : FnOk P w K mg base (L2.CX P w) 4 T.a__law_row T.d__law_row ["clause"] (spP K mg m__law_row) := fnP (k := 3) T.F__law_row sc__law_row c__law_row fun cdv A outer s H E hr => (ss_cons (se_if (rt_eq (hu64 hr) (re_ix (hu_of hr) (re_var 0) re_int) (re_tup (ra_cons re_str (ra_cons re_str (ra_cons re_int ra_nil))))) (ss_cons (se_set 1 sc__law_row.nd rfl (Or.inl rfl) (fe_call (ok__law_parts T) (hr.mono (by decide)) rfl T.m__law_parts T.F__law_parts.kp T.b__law_parts (takes_of rfl rfl rfl rfl) (ra_cons (re_var 0) ra_nil)))
  (ss_one (se_ret (fe_add (re_fe (fe_lst (ra_cons (re_ix (hu_of hr) (re_var 1) re_int) ra_nil))) (re_fe (fe_call (ok__law_conjuncts T) (hr.mono (by decide)) rfl T.m__law_conjuncts T.F__law_conjuncts.kp T.b__law_conjuncts (takes_of rfl rfl rfl rfl) (ra_cons (re_ix (hu_of hr) (re_var 1) re_int) ra_nil))))))) ss_nil)
  (ss_one (se_ret (fe_lst (ra_cons (re_var 0) ra_nil)))))
def e__law_resolve_1 : ME := (eCall m__law_put (aCons (eV 4) (aCons (eV 5) aNil)))
def b__law_resolve_2 : MS := (sIf (tCp oGt (eLen (aCons (eV 5) aNil)) (eC (.int 200))) (sRet (eIm (eC (.str (Str.ofString "large"))))) sNil)
noncomputable def c__law_resolve : MS := (sSeq (sSet 3 (eCall m__law_numbered (aCons (eV 2) (aCons (eCall m__law_fresh (aCons (eAdd (eV 0) (eLst (aCons (eV 1) aNil))) aNil)) aNil))))
  (sSeq (sSet 4 (eCall m__law_unify (aCons (eV 1) (aCons (eIx (eV 3) (eC (.int 0))) aNil))))
  (sSeq (sIf (tOr' (tCp oIs (eV 4) (eC .non)) (tCp oEqS (eV 4) (eC (.str (Str.ofString "large"))))) (sRetV 4) sNil)
  (sSeq (sSet 6 (eLc (eAdd (eV 0) (eSl (eV 3) (pSome (eC (.int 1))) pNone)) 5 tYs e__law_resolve_1))
  (sSeq (sForV 6 (gN 5) b__law_resolve_2)
  (sRet (eCall m__law_numbered (aCons (eV 6) (aCons (eC (.int 0)) aNil)))))))))
noncomputable def m__law_resolve : MF := runP 7 3 c__law_resolve
theorem ok__law_resolve (T : Tx K mg) : FnOk P w K mg base (L2.CX P w) 4 T.a__law_resolve T.d__law_resolve ["terms", "goal", "row"] (spP K mg m__law_resolve) := fnP (k := 3) T.F__law_resolve sc__law_resolve c__law_resolve fun cdv A outer s H E hr => (ss_cons (se_set 3 sc__law_resolve.nd rfl (Or.inl rfl) (fe_call (ok__law_numbered T) (hr.mono (by decide)) rfl T.m__law_numbered T.F__law_numbered.kp T.b__law_numbered (takes_of rfl rfl rfl rfl) (ra_cons (re_var 2) (ra_cons (re_fe (fe_call (ok__law_fresh T) (hr.mono (by decide)) rfl T.m__law_fresh T.F__law_fresh.kp T.b__law_fresh (takes_of rfl rfl rfl rfl) (ra_cons (re_fe (fe_add (re_var 0) (re_fe (fe_lst (ra_cons (re_var 1) ra_nil))))) ra_nil))) ra_nil))))
  (ss_cons (se_set 4 sc__law_resolve.nd rfl (Or.inr rfl) (fe_call (ok__law_unify T) (hr.mono (by decide)) rfl T.m__law_unify T.F__law_unify.kp T.b__law_unify (takes_of rfl rfl rfl rfl) (ra_cons (re_var 1) (ra_cons (re_ix (hu_of hr) (re_var 3) re_int) ra_nil))))
  (ss_cons (se_if (rt_rw (rw_or (rt_is (re_var 4) re_non) (rw_or1 (rt_eqS (hu64 hr) (re_var 4) re_str)))) (ss_one (se_retV 4)) ss_nil)
  (ss_cons (se_setLc (x := "term") 6 5 rfl sc__law_resolve.nd rfl rfl (sw_true rfl rfl rfl (by decide +kernel)) (re_fe (fe_add (re_var 0) (re_fe (fe_sl (re_var 3) (rpo_some re_int) rpo_none)))) (blkOk_by (own := [("term", 5)]) (N := N__law_resolve) (sc := defScope s__law_resolve) (by decide +kernel)) (fun _ _ _ _ _ => pg_name (i := 5) sc__law_resolve.nd rfl (Or.inl rfl)) (fun _ _ _ _ _ => rts_nil) (fun _ _ _ _ _ => (re_fe (fe_call (ok__law_put T) (hr.mono (by decide)) rfl T.m__law_put T.F__law_put.kp T.b__law_put takes0 (ra_cons (re_var 4) (ra_cons (re_var 5) ra_nil))))))
  (ss_cons (se_forV 6 (passes_of rfl) rfl (ge_name 5 sc__law_resolve.nd rfl (Or.inl rfl)) (ss_one (se_if (rt_gt (re_fe (fe_len rfl T.n_len (ra_cons (re_var 5) ra_nil))) re_int) (ss_one (se_ret (fe_re re_str))) ss_nil)))
  (ss_one (se_ret (fe_call (ok__law_numbered T) (hr.mono (by decide)) rfl T.m__law_numbered T.F__law_numbered.kp T.b__law_numbered (takes_of rfl rfl rfl rfl) (ra_cons (re_var 6) (ra_cons re_int ra_nil))))))))))
def c__law_leaf : MS := (sSeq (sSet 2 (eCallZ 0 m__law_draw (aCons (eC (.int 4)) aNil)))
  (sSeq (sIf (tCp oLt (eV 2) (eC (.int 2))) (sRet (eIm (eTup (aCons (eTup (aCons (eC (.str (Str.ofString "v"))) (aCons (eCallZ 0 m__law_draw (aCons (eV 1) aNil)) aNil))) aNil)))) sNil)
  (sSeq (sIf (tCp (oEq false) (eV 2) (eC (.int 2))) (sRet (eIm (eTup (aCons (eTup (aCons (eC (.str (Str.ofString "f"))) (aCons (eIx (eLst (aCons (eC (.str (Str.ofString "a"))) (aCons (eC (.str (Str.ofString "b"))) (aCons (eC (.str (Str.ofString "c"))) aNil)))) (eCallZ 0 m__law_draw (aCons (eC (.int 3)) aNil))) (aCons (eC (.int 0)) aNil)))) aNil)))) sNil)
  (sSeq (sIf (tCp (oEq false) (eCallZ 0 m__law_draw (aCons (eC (.int 8)) aNil)) (eC (.int 0))) (sRet (eIm (eTup (aCons (eIx (eLst (aCons (eNeg (eC (.int 1))) (aCons (ePow (eC (.int 10)) (eC (.int 30))) (aCons (eAdd (ePow (eC (.int 10)) (eC (.int 30))) (eC (.int 1))) (aCons (eNeg (ePow (eC (.int 10)) (eC (.int 39)))) aNil))))) (eCallZ 0 m__law_draw (aCons (eC (.int 4)) aNil))) aNil)))) sNil)
  (sRet (eIm (eTup (aCons (eCallZ 0 m__law_draw (aCons (eC (.int 3)) aNil)) aNil))))))))
def m__law_leaf : MZ := runZ 3 2 c__law_leaf
theorem ok__law_leaf (T : Tx K mg) : FnOk P w K mg base (L2.CX P w) 2 T.a__law_leaf T.d__law_leaf ["stream", "widest"] (spZ K mg m__law_leaf) := fnZ (k := 1) T.F__law_leaf sc__law_leaf c__law_leaf fun so cdv A outer s H E hr => (ss_cons (se_set 2 sc__law_leaf.nd rfl (Or.inl rfl) (fe_callZ 0 (ok__law_draw T) (hr.mono (by decide)) rfl T.m__law_draw T.F__law_draw.kp T.b__law_draw (takes_of rfl rfl rfl rfl) (ra_cons re_int ra_nil)))
  (ss_cons (se_if (rt_lt (hu64 hr) (re_var 2) re_int) (ss_one (se_ret (fe_re (re_tup (ra_cons (re_tup (ra_cons re_str (ra_cons (re_fe (fe_callZ 0 (ok__law_draw T) (hr.mono (by decide)) rfl T.m__law_draw T.F__law_draw.kp T.b__law_draw (takes_of rfl rfl rfl rfl) (ra_cons (re_var 1) ra_nil))) ra_nil))) ra_nil))))) ss_nil)
  (ss_cons (se_if (rt_eq (hu64 hr) (re_var 2) re_int) (ss_one (se_ret (fe_re (re_tup (ra_cons (re_tup (ra_cons re_str (ra_cons (re_ix (hu_of hr) (re_fe (fe_lst (ra_cons re_str (ra_cons re_str (ra_cons re_str ra_nil))))) (re_fe (fe_callZ 0 (ok__law_draw T) (hr.mono (by decide)) rfl T.m__law_draw T.F__law_draw.kp T.b__law_draw (takes_of rfl rfl rfl rfl) (ra_cons re_int ra_nil)))) (ra_cons re_int ra_nil)))) ra_nil))))) ss_nil)
  (ss_cons (se_if (rt_eq (hu64 hr) (re_fe (fe_callZ 0 (ok__law_draw T) (hr.mono (by decide)) rfl T.m__law_draw T.F__law_draw.kp T.b__law_draw (takes_of rfl rfl rfl rfl) (ra_cons re_int ra_nil))) re_int) (ss_one (se_ret (fe_re (re_tup (ra_cons (re_ix (hu_of hr) (re_fe (fe_lst (ra_cons (re_fe (fe_neg re_int)) (ra_cons (re_fe (fe_pow re_int re_int)) (ra_cons (re_fe (fe_add (re_fe (fe_pow re_int re_int)) re_int)) (ra_cons (re_fe (fe_neg (re_fe (fe_pow re_int re_int)))) ra_nil)))))) (re_fe (fe_callZ 0 (ok__law_draw T) (hr.mono (by decide)) rfl T.m__law_draw T.F__law_draw.kp T.b__law_draw (takes_of rfl rfl rfl rfl) (ra_cons re_int ra_nil)))) ra_nil))))) ss_nil)
  (ss_one (se_ret (fe_re (re_tup (ra_cons (re_fe (fe_callZ 0 (ok__law_draw T) (hr.mono (by decide)) rfl T.m__law_draw T.F__law_draw.kp T.b__law_draw (takes_of rfl rfl rfl rfl) (ra_cons re_int ra_nil))) ra_nil)))))))))
def c__law_argument : MS := (sSeq (sSet 2 (eCallZ 0 m__law_draw (aCons (eC (.int 6)) aNil)))
  (sSeq (sIf (tCp (oEq false) (eV 2) (eC (.int 0))) (sRet (eAdd (eTup (aCons (eTup (aCons (eC (.str (Str.ofString "f"))) (aCons (eC (.str (Str.ofString "s"))) (aCons (eC (.int 1)) aNil)))) aNil)) (eCallZ 0 m__law_leaf (aCons (eV 1) aNil)))) sNil)
  (sSeq (sIf (tCp (oEq false) (eV 2) (eC (.int 1))) (sRet (eAdd (eAdd (eTup (aCons (eTup (aCons (eC (.str (Str.ofString "f"))) (aCons (eC (.str (Str.ofString "."))) (aCons (eC (.int 2)) aNil)))) aNil)) (eCallZ 0 m__law_leaf (aCons (eV 1) aNil))) (eCallZ 0 m__law_leaf (aCons (eV 1) aNil)))) sNil)
  (sRet (eCallZ 0 m__law_leaf (aCons (eV 1) aNil))))))
def m__law_argument : MZ := runZ 3 2 c__law_argument
theorem ok__law_argument (T : Tx K mg) : FnOk P w K mg base (L2.CX P w) 3 T.a__law_argument T.d__law_argument ["stream", "widest"] (spZ K mg m__law_argument) := fnZ (k := 2) T.F__law_argument sc__law_argument c__law_argument fun so cdv A outer s H E hr => (ss_cons (se_set 2 sc__law_argument.nd rfl (Or.inl rfl) (fe_callZ 0 (ok__law_draw T) (hr.mono (by decide)) rfl T.m__law_draw T.F__law_draw.kp T.b__law_draw (takes_of rfl rfl rfl rfl) (ra_cons re_int ra_nil)))
  (ss_cons (se_if (rt_eq (hu64 hr) (re_var 2) re_int) (ss_one (se_ret (fe_add (re_tup (ra_cons (re_tup (ra_cons re_str (ra_cons re_str (ra_cons re_int ra_nil)))) ra_nil)) (re_fe (fe_callZ 0 (ok__law_leaf T) (hr.mono (by decide)) rfl T.m__law_leaf T.F__law_leaf.kp T.b__law_leaf (takes_of rfl rfl rfl rfl) (ra_cons (re_var 1) ra_nil)))))) ss_nil)
  (ss_cons (se_if (rt_eq (hu64 hr) (re_var 2) re_int) (ss_one (se_ret (fe_add (re_fe (fe_add (re_tup (ra_cons (re_tup (ra_cons re_str (ra_cons re_str (ra_cons re_int ra_nil)))) ra_nil)) (re_fe (fe_callZ 0 (ok__law_leaf T) (hr.mono (by decide)) rfl T.m__law_leaf T.F__law_leaf.kp T.b__law_leaf (takes_of rfl rfl rfl rfl) (ra_cons (re_var 1) ra_nil))))) (re_fe (fe_callZ 0 (ok__law_leaf T) (hr.mono (by decide)) rfl T.m__law_leaf T.F__law_leaf.kp T.b__law_leaf (takes_of rfl rfl rfl rfl) (ra_cons (re_var 1) ra_nil)))))) ss_nil)
  (ss_one (se_ret (fe_callZ 0 (ok__law_leaf T) (hr.mono (by decide)) rfl T.m__law_leaf T.F__law_leaf.kp T.b__law_leaf (takes_of rfl rfl rfl rfl) (ra_cons (re_var 1) ra_nil)))))))
def c__law_atom_of : MS := (sSeq (sSet 2 (eCallZ 0 m__law_draw (aCons (eC (.int 12)) aNil)))
  (sSeq (sIf (tCp oLt (eV 2) (eC (.int 2))) (sRet (eIm (eTup (aCons (eTup (aCons (eC (.str (Str.ofString "f"))) (aCons (eC (.str (Str.ofString "r"))) (aCons (eC (.int 0)) aNil)))) aNil)))) sNil)
  (sSeq (sIf (tCp oLt (eV 2) (eC (.int 6))) (sRet (eAdd (eTup (aCons (eTup (aCons (eC (.str (Str.ofString "f"))) (aCons (eIx (eLst (aCons (eC (.str (Str.ofString "p"))) (aCons (eC (.str (Str.ofString "p"))) (aCons (eC (.str (Str.ofString "pp"))) aNil)))) (eCallZ 0 m__law_draw (aCons (eC (.int 3)) aNil))) (aCons (eC (.int 1)) aNil)))) aNil)) (eCallZ 0 m__law_argument (aCons (eV 1) aNil)))) sNil)
  (sSeq (sIf (tCp (oEq false) (eV 2) (eC (.int 6))) (sSeq (sSet 3 (eAdd (eAdd (eTup (aCons (eTup (aCons (eC (.str (Str.ofString "f"))) (aCons (eC (.str (Str.ofString "q_p"))) (aCons (eC (.int 4)) aNil)))) aNil)) (eCallZ 0 m__law_leaf (aCons (eV 1) aNil))) (eCallZ 0 m__law_leaf (aCons (eV 1) aNil))))
  (sRet (eAdd (eAdd (eV 3) (eCallZ 0 m__law_leaf (aCons (eV 1) aNil))) (eCallZ 0 m__law_leaf (aCons (eV 1) aNil))))) sNil)
  (sRet (eAdd (eAdd (eTup (aCons (eTup (aCons (eC (.str (Str.ofString "f"))) (aCons (eC (.str (Str.ofString "q"))) (aCons (eC (.int 2)) aNil)))) aNil)) (eCallZ 0 m__law_argument (aCons (eV 1) aNil))) (eCallZ 0 m__law_argument (aCons (eV 1) aNil))))))))
def m__law_atom_of : MZ := runZ 4 2 c__law_atom_of
theorem ok__law_atom_of (T : Tx K mg) : FnOk P w K mg base (L2.CX P w) 4 T.a__law_atom_of T.d__law_atom_of ["stream", "widest"] (spZ K mg m__law_atom_of) := fnZ (k := 3) T.F__law_atom_of sc__law_atom_of c__law_atom_of fun so cdv A outer s H E hr => (ss_cons (se_set 2 sc__law_atom_of.nd rfl (Or.inl rfl) (fe_callZ 0 (ok__law_draw T) (hr.mono (by decide)) rfl T.m__law_draw T.F__law_draw.kp T.b__law_draw (takes_of rfl rfl rfl rfl) (ra_cons re_int ra_nil)))
  (ss_cons (se_if (rt_lt (hu64 hr) (re_var 2) re_int) (ss_one (se_ret (fe_re (re_tup (ra_cons (re_tup (ra_cons re_str (ra_cons re_str (ra_cons re_int ra_nil)))) ra_nil))))) ss_nil)
  (ss_cons (se_if (rt_lt (hu64 hr) (re_var 2) re_int) (ss_one (se_ret (fe_add (re_tup (ra_cons (re_tup (ra_cons re_str (ra_cons (re_ix (hu_of hr) (re_fe (fe_lst (ra_cons re_str (ra_cons re_str (ra_cons re_str ra_nil))))) (re_fe (fe_callZ 0 (ok__law_draw T) (hr.mono (by decide)) rfl T.m__law_draw T.F__law_draw.kp T.b__law_draw (takes_of rfl rfl rfl rfl) (ra_cons re_int ra_nil)))) (ra_cons re_int ra_nil)))) ra_nil)) (re_fe (fe_callZ 0 (ok__law_argument T) (hr.mono (by decide)) rfl T.m__law_argument T.F__law_argument.kp T.b__law_argument (takes_of rfl rfl rfl rfl) (ra_cons (re_var 1) ra_nil)))))) ss_nil)
  (ss_cons (se_if (rt_eq (hu64 hr) (re_var 2) re_int) (ss_cons (se_set 3 sc__law_atom_of.nd rfl (Or.inl rfl) (fe_add (re_fe (fe_add (re_tup (ra_cons (re_tup (ra_cons re_str (ra_cons re_str (ra_cons re_int ra_nil)))) ra_nil)) (re_fe (fe_callZ 0 (ok__law_leaf T) (hr.mono (by decide)) rfl T.m__law_leaf T.F__law_leaf.kp T.b__law_leaf (takes_of rfl rfl rfl rfl) (ra_cons (re_var 1) ra_nil))))) (re_fe (fe_callZ 0 (ok__law_leaf T) (hr.mono (by decide)) rfl T.m__law_leaf T.F__law_leaf.kp T.b__law_leaf (takes_of rfl rfl rfl rfl) (ra_cons (re_var 1) ra_nil)))))
  (ss_one (se_ret (fe_add (re_fe (fe_add (re_var 3) (re_fe (fe_callZ 0 (ok__law_leaf T) (hr.mono (by decide)) rfl T.m__law_leaf T.F__law_leaf.kp T.b__law_leaf (takes_of rfl rfl rfl rfl) (ra_cons (re_var 1) ra_nil))))) (re_fe (fe_callZ 0 (ok__law_leaf T) (hr.mono (by decide)) rfl T.m__law_leaf T.F__law_leaf.kp T.b__law_leaf (takes_of rfl rfl rfl rfl) (ra_cons (re_var 1) ra_nil))))))) ss_nil)
  (ss_one (se_ret (fe_add (re_fe (fe_add (re_tup (ra_cons (re_tup (ra_cons re_str (ra_cons re_str (ra_cons re_int ra_nil)))) ra_nil)) (re_fe (fe_callZ 0 (ok__law_argument T) (hr.mono (by decide)) rfl T.m__law_argument T.F__law_argument.kp T.b__law_argument (takes_of rfl rfl rfl rfl) (ra_cons (re_var 1) ra_nil))))) (re_fe (fe_callZ 0 (ok__law_argument T) (hr.mono (by decide)) rfl T.m__law_argument T.F__law_argument.kp T.b__law_argument (takes_of rfl rfl rfl rfl) (ra_cons (re_var 1) ra_nil))))))))))
def b__law_joined_1 : MS := (sSet 1 (eAdd (eAdd (eTup (aCons (eTup (aCons (eC (.str (Str.ofString "f"))) (aCons (eC (.str (Str.ofString ","))) (aCons (eC (.int 2)) aNil)))) aNil)) (eIx (eV 0) (eSub (eSub (eLen (aCons (eV 0) aNil)) (eC (.int 2))) (eV 2)))) (eV 1)))
def c__law_joined : MS := (sSeq (sSet 1 (eIm (eIx (eV 0) (eSub (eLen (aCons (eV 0) aNil)) (eC (.int 1))))))
  (sSeq (sRng rngT1 (aCons (eSub (eLen (aCons (eV 0) aNil)) (eC (.int 1))) aNil) (gN 2) b__law_joined_1)
  (sRetV 1)))
def m__law_joined : MF := runP 3 1 c__law_joined
theorem ok__law_joined (T : Tx K mg) : FnOk P w K mg base (L2.CX P w) 1 T.a__law_joined T.d__law_joined ["goals"] (spP K mg m__law_joined) := fnP (k := 0) T.F__law_joined sc__law_joined c__law_joined fun cdv A outer s H E hr => (ss_cons (se_set 1 sc__law_joined.nd rfl (Or.inl rfl) (fe_re (re_ix (hu_of hr) (re_var 0) (re_fe (fe_sub (re_fe (fe_len rfl T.n_len (ra_cons (re_var 0) ra_nil))) re_int)))))
  (ss_cons (se_rng1 (passes_of rfl) rfl rfl T.n_range (ra_cons (re_fe (fe_sub (re_fe (fe_len rfl T.n_len (ra_cons (re_var 0) ra_nil))) re_int)) ra_nil) (ge_name 2 sc__law_joined.nd rfl (Or.inl rfl)) (ss_one (se_set 1 sc__law_joined.nd rfl (Or.inl rfl) (fe_add (re_fe (fe_add (re_tup (ra_cons (re_tup (ra_cons re_str (ra_cons re_str (ra_cons re_int ra_nil)))) ra_nil)) (re_ix (hu_of hr) (re_var 0) (re_fe (fe_sub (re_fe (fe_sub (re_fe (fe_len rfl T.n_len (ra_cons (re_var 0) ra_nil))) re_int)) (re_var 2)))))) (re_var 1)))))
  (ss_one (se_retV 1))))
def e__law_clause_1 : ME := (eCallZ 0 m__law_atom_of (aCons (eC (.int 3)) aNil))
def c__law_clause : MS := (sSeq (sSet 1 (eCallZ 0 m__law_atom_of (aCons (eC (.int 3)) aNil)))
  (sSeq (sSet 2 (eIm (eIx (eLst (aCons (eC (.int 0)) (aCons (eC (.int 0)) (aCons (eC (.int 1)) (aCons (eC (.int 1)) (aCons (eC (.int 2)) (aCons (eC (.int 3)) aNil))))))) (eCallZ 0 m__law_draw (aCons (eC (.int 6)) aNil)))))
  (sSeq (sIf (tCp (oEq false) (eCallZ 0 m__law_draw (aCons (eC (.int 12)) aNil)) (eC (.int 0))) (sSet 2 (eAdd (eC (.int 4)) (eCallZ 0 m__law_draw (aCons (eC (.int 3)) aNil)))) sNil)
  (sSeq (sIf (tAn (tCp (oEq false) (eV 2) (eC (.int 0))) (tCp oGt (eCallZ 0 m__law_draw (aCons (eC (.int 4)) aNil)) (eC (.int 0)))) (sRetV 1) sNil)
  (sSeq (sSet 3 (eLcR rngT1 (aCons (eV 2) aNil) 4 tYs e__law_clause_1))
  (sSeq (sIf (tOr' (tCp (oEq false) (eV 2) (eC (.int 0))) (tCp (oEq false) (eCallZ 0 m__law_draw (aCons (eC (.int 8)) aNil)) (eC (.int 0)))) (sApp 3 (eTup (aCons (eTup (aCons (eC (.str (Str.ofString "f"))) (aCons (eC (.str (Str.ofString "true"))) (aCons (eC (.int 0)) aNil)))) aNil))) sNil)
  (sRet (eAdd (eAdd (eTup (aCons (eTup (aCons (eC (.str (Str.ofString "f"))) (aCons (eC (.str (Str.ofString ":-"))) (aCons (eC (.int 2)) aNil)))) aNil)) (eV 1)) (eCall m__law_joined (aCons (eV 3) aNil))))))))))
def m__law_clause : MZ := runZ 5 1 c__law_clause
theorem ok__law_clause (T : Tx K mg) : FnOk P w K mg base (L2.CX P w) 5 T.a__law_clause T.d__law_clause ["stream"] (spZ K mg m__law_clause) := fnZ (k := 4) T.F__law_clause sc__law_clause c__law_clause fun so cdv A outer s H E hr => (ss_cons (se_set 1 sc__law_clause.nd rfl (Or.inl rfl) (fe_callZ 0 (ok__law_atom_of T) (hr.mono (by decide)) rfl T.m__law_atom_of T.F__law_atom_of.kp T.b__law_atom_of (takes_of rfl rfl rfl rfl) (ra_cons re_int ra_nil)))
  (ss_cons (se_set 2 sc__law_clause.nd rfl (Or.inl rfl) (fe_re (re_ix (hu_of hr) (re_fe (fe_lst (ra_cons re_int (ra_cons re_int (ra_cons re_int (ra_cons re_int (ra_cons re_int (ra_cons re_int ra_nil)))))))) (re_fe (fe_callZ 0 (ok__law_draw T) (hr.mono (by decide)) rfl T.m__law_draw T.F__law_draw.kp T.b__law_draw (takes_of rfl rfl rfl rfl) (ra_cons re_int ra_nil))))))
  (ss_cons (se_if (rt_eq (hu64 hr) (re_fe (fe_callZ 0 (ok__law_draw T) (hr.mono (by decide)) rfl T.m__law_draw T.F__law_draw.kp T.b__law_draw (takes_of rfl rfl rfl rfl) (ra_cons re_int ra_nil))) re_int) (ss_one (se_set 2 sc__law_clause.nd rfl (Or.inl rfl) (fe_add re_int (re_fe (fe_callZ 0 (ok__law_draw T) (hr.mono (by decide)) rfl T.m__law_draw T.F__law_draw.kp T.b__law_draw (takes_of rfl rfl rfl rfl) (ra_cons re_int ra_nil)))))) ss_nil)
  (ss_cons (se_if (rt_rw (rw_and (rt_eq (hu64 hr) (re_var 2) re_int) (rw_and1 (rt_gt (re_fe (fe_callZ 0 (ok__law_draw T) (hr.mono (by decide)) rfl T.m__law_draw T.F__law_draw.kp T.b__law_draw (takes_of rfl rfl rfl rfl) (ra_cons re_int ra_nil))) re_int)))) (ss_one (se_retV 1)) ss_nil)
  (ss_cons (se_setLcR (x := "k") 3 4 rfl sc__law_clause.nd rfl rfl (sw_true rfl rfl rfl (by decide +kernel)) rfl T.n_range (ra_cons (re_var 2) ra_nil) (blkOk_by (own := [("k", 4)]) (N := N__law_clause) (sc := defScope s__law_clause) (by decide +kernel)) (fun _ _ _ _ _ => pg_name (i := 4) sc__law_clause.nd rfl (Or.inl rfl)) (fun _ _ _ _ _ => rts_nil) (fun _ _ _ _ _ => (re_fe (fe_callZ 0 (ok__law_atom_of T) (hr.mono (by decide)) rfl T.m__law_atom_of T.F__law_atom_of.kp T.b__law_atom_of takes0 (ra_cons re_int ra_nil)))))
  (ss_cons (se_if (rt_rw (rw_or (rt_eq (hu64 hr) (re_var 2) re_int) (rw_or1 (rt_eq (hu64 hr) (re_fe (fe_callZ 0 (ok__law_draw T) (hr.mono (by decide)) rfl T.m__law_draw T.F__law_draw.kp T.b__law_draw (takes_of rfl rfl rfl rfl) (ra_cons re_int ra_nil))) re_int)))) (ss_one (se_app 3 (re_tup (ra_cons (re_tup (ra_cons re_str (ra_cons re_str (ra_cons re_int ra_nil)))) ra_nil)))) ss_nil)
  (ss_one (se_ret (fe_add (re_fe (fe_add (re_tup (ra_cons (re_tup (ra_cons re_str (ra_cons re_str (ra_cons re_int ra_nil)))) ra_nil)) (re_var 1))) (re_fe (fe_call (ok__law_joined T) (hr.mono (by decide)) rfl T.m__law_joined T.F__law_joined.kp T.b__law_joined (takes_of rfl rfl rfl rfl) (ra_cons (re_var 3) ra_nil))))))))))))
def c__law_atom : MS := (sRet (eIm (eTup (aCons (eTup (aCons (eC (.str (Str.ofString "f"))) (aCons (eIx (eLst (aCons (eC (.str (Str.ofString "a"))) (aCons (eC (.str (Str.ofString "b"))) (aCons (eC (.str (Str.ofString "c"))) (aCons (eC (.str (Str.ofString "d"))) aNil))))) (eCallZ 0 m__law_draw (aCons (eC (.int 4)) aNil))) (aCons (eC (.int 0)) aNil)))) aNil))))
def m__law_atom : MZ := runZ 1 1 c__law_atom
theorem ok__law_atom (T : Tx K mg) : FnOk P w K mg base (L2.CX P w) 2 T.a__law_atom T.d__law_atom ["stream"] (spZ K mg m__law_atom) := fnZ (k := 1) T.F__law_atom sc__law_atom c__law_atom fun so cdv A outer s H E hr => (ss_one (se_ret (fe_re (re_tup (ra_cons (re_tup (ra_cons re_str (ra_cons (re_ix (hu_of hr) (re_fe (fe_lst (ra_cons re_str (ra_cons re_str (ra_cons re_str (ra_cons re_str ra_nil)))))) (re_fe (fe_callZ 0 (ok__law_draw T) (hr.mono (by decide)) rfl T.m__law_draw T.F__law_draw.kp T.b__law_draw (takes_of rfl rfl rfl rfl) (ra_cons re_int ra_nil)))) (ra_cons re_int ra_nil)))) ra_nil)))))
def e__law_known_1 : ME := (eAdd (eAdd (eV 5) (eCallZ 0 m__law_atom aNil)) (eCallZ 0 m__law_atom aNil))
def c__law_known : MS := (sSeq (sSet 2 (eIm (eTup (aCons (eTup (aCons (eC (.str (Str.ofString "v"))) (aCons (eC (.int 0)) aNil))) aNil))))
  (sSeq (sSet 3 (eIm (eTup (aCons (eTup (aCons (eC (.str (Str.ofString "v"))) (aCons (eC (.int 1)) aNil))) aNil))))
  (sSeq (sSet 4 (eIm (eTup (aCons (eTup (aCons (eC (.str (Str.ofString "v"))) (aCons (eC (.int 2)) aNil))) aNil))))
  (sSeq (sSet 5 (eIm (eTup (aCons (eTup (aCons (eC (.str (Str.ofString "f"))) (aCons (eC (.str (Str.ofString "e"))) (aCons (eC (.int 2)) aNil)))) aNil))))
  (sSeq (sSet 6 (eIm (eTup (aCons (eTup (aCons (eC (.str (Str.ofString "f"))) (aCons (eC (.str (Str.ofString "q"))) (aCons (eC (.int 2)) aNil)))) aNil))))
  (sSeq (sSet 7 (eIm (eTup (aCons (eTup (aCons (eC (.str (Str.ofString "f"))) (aCons (eC (.str (Str.ofString ":-"))) (aCons (eC (.int 2)) aNil)))) aNil))))
  (sSeq (sSet 8 (eIm (eTup (aCons (eTup (aCons (eC (.str (Str.ofString "f"))) (aCons (eC (.str (Str.ofString ","))) (aCons (eC (.int 2)) aNil)))) aNil))))
  (sSeq (sIf (tCp (oEq false) (eV 1) (eC (.int 0))) (sSeq (sSet 9 (eLcR rngT1 (aCons (eAdd (eC (.int 2)) (eCallZ 0 m__law_draw (aCons (eC (.int 3)) aNil))) aNil) 13 tYs e__law_known_1))
  (sSeq (sSet 10 (eAdd (eAdd (eAdd (eAdd (eAdd (eAdd (eV 8) (eV 6)) (eV 2)) (eV 3)) (eV 5)) (eV 3)) (eV 4)))
  (sSeq (sIf (tCp (oEq false) (eCallZ 0 m__law_draw (aCons (eC (.int 3)) aNil)) (eC (.int 0))) (sSet 10 (eAdd (eAdd (eAdd (eAdd (eAdd (eAdd (eV 8) (eV 5)) (eV 2)) (eV 3)) (eV 6)) (eV 3)) (eV 4))) sNil)
  (sRet (eAdd (eV 9) (eLst (aCons (eAdd (eAdd (eAdd (eAdd (eAdd (eAdd (eV 7) (eV 6)) (eV 2)) (eV 3)) (eV 5)) (eV 2)) (eV 3)) (aCons (eAdd (eAdd (eAdd (eAdd (eV 7) (eV 6)) (eV 2)) (eV 4)) (eV 10)) aNil)))))))) sNil)
  (sSeq (sIf (tCp (oEq false) (eV 1) (eC (.int 1))) (sRet (eLst (aCons (eAdd (eTup (aCons (eTup (aCons (eC (.str (Str.ofString "f"))) (aCons (eC (.str (Str.ofString "p"))) (aCons (eC (.int 1)) aNil)))) aNil)) (eCallZ 0 m__law_leaf (aCons (eC (.int 2)) aNil))) (aCons (eAdd (eAdd (eAdd (eAdd (eV 7) (eTup (aCons (eTup (aCons (eC (.str (Str.ofString "f"))) (aCons (eC (.str (Str.ofString "p"))) (aCons (eC (.int 1)) aNil)))) (aCons (eTup (aCons (eC (.str (Str.ofString "f"))) (aCons (eC (.str (Str.ofString "s"))) (aCons (eC (.int 1)) aNil)))) aNil)))) (eV 2)) (eTup (aCons (eTup (aCons (eC (.str (Str.ofString "f"))) (aCons (eC (.str (Str.ofString "p"))) (aCons (eC (.int 1)) aNil)))) aNil))) (eV 2)) aNil)))) sNil)
  (sSeq (sIf (tCp (oEq false) (eV 1) (eC (.int 2))) (sSeq (sSet 11 (eAdd (eAdd (eV 6) (eTup (aCons (eTup (aCons (eC (.str (Str.ofString "f"))) (aCons (eC (.str (Str.ofString "[]"))) (aCons (eC (.int 0)) aNil)))) aNil))) (eCallZ 0 m__law_leaf (aCons (eC (.int 2)) aNil))))
  (sRet (eLst (aCons (eV 11) (aCons (eAdd (eAdd (eAdd (eAdd (eAdd (eAdd (eAdd (eAdd (eV 7) (eV 6)) (eTup (aCons (eTup (aCons (eC (.str (Str.ofString "f"))) (aCons (eC (.str (Str.ofString "."))) (aCons (eC (.int 2)) aNil)))) aNil))) (eV 2)) (eV 3)) (eV 4)) (eV 6)) (eV 3)) (eV 4)) aNil))))) sNil)
  (sSeq (sSet 12 (eAdd (eAdd (eAdd (eAdd (eAdd (eAdd (eAdd (eAdd (eAdd (eAdd (eV 7) (eV 6)) (eV 2)) (eV 4)) (eV 8)) (eV 6)) (eV 2)) (eV 3)) (eV 6)) (eV 3)) (eV 4)))
  (sRet (eLst (aCons (eAdd (eAdd (eV 6) (eCallZ 0 m__law_atom aNil)) (eCallZ 0 m__law_atom aNil)) (aCons (eV 12) (aCons (eAdd (eAdd (eV 6) (eCallZ 0 m__law_atom aNil)) (eCallZ 0 m__law_atom aNil)) aNil))))))))))))))))
def m__law_known : MZ := runZ 14 2 c__law_known
theorem ok__law_known (T : Tx K mg) : FnOk P w K mg base (L2.CX P w) 3 T.a__law_known T.d__law_known ["stream", "which"] (spZ K mg m__law_known) := fnZ (k := 2) T.F__law_known sc__law_known c__law_known fun so cdv A outer s H E hr => (ss_cons (se_set 2 sc__law_known.nd rfl (Or.inl rfl) (fe_re (re_tup (ra_cons (re_tup (ra_cons re_str (ra_cons re_int ra_nil))) ra_nil))))
  (ss_cons (se_set 3 sc__law_known.nd rfl (Or.inl rfl) (fe_re (re_tup (ra_cons (re_tup (ra_cons re_str (ra_cons re_int ra_nil))) ra_nil))))
  (ss_cons (se_set 4 sc__law_known.nd rfl (Or.inl rfl) (fe_re (re_tup (ra_cons (re_tup (ra_cons re_str (ra_cons re_int ra_nil))) ra_nil))))
  (ss_cons (se_set 5 sc__law_known.nd rfl (Or.inr rfl) (fe_re (re_tup (ra_cons (re_tup (ra_cons re_str (ra_cons re_str (ra_cons re_int ra_nil)))) ra_nil))))
  (ss_cons (se_set 6 sc__law_known.nd rfl (Or.inl rfl) (fe_re (re_tup (ra_cons (re_tup (ra_cons re_str (ra_cons re_str (ra_cons re_int ra_nil)))) ra_nil))))
  (ss_cons (se_set 7 sc__law_known.nd rfl (Or.inl rfl) (fe_re (re_tup (ra_cons (re_tup (ra_cons re_str (ra_cons re_str (ra_cons re_int ra_nil)))) ra_nil))))
  (ss_cons (se_set 8 sc__law_known.nd rfl (Or.inl rfl) (fe_re (re_tup (ra_cons (re_tup (ra_cons re_str (ra_cons re_str (ra_cons re_int ra_nil)))) ra_nil))))
  (ss_cons (se_if (rt_eq (hu64 hr) (re_var 1) re_int) (ss_cons (se_setLcR (x := "k") 9 13 rfl sc__law_known.nd rfl rfl (sw_true rfl rfl rfl (by decide +kernel)) rfl T.n_range (ra_cons (re_fe (fe_add re_int (re_fe (fe_callZ 0 (ok__law_draw T) (hr.mono (by decide)) rfl T.m__law_draw T.F__law_draw.kp T.b__law_draw (takes_of rfl rfl rfl rfl) (ra_cons re_int ra_nil))))) ra_nil) (blkOk_by (own := [("k", 13)]) (N := N__law_known) (sc := defScope s__law_known) (by decide +kernel)) (fun _ _ _ _ _ => pg_name (i := 13) sc__law_known.nd rfl (Or.inl rfl)) (fun _ _ _ _ _ => rts_nil) (fun _ _ _ _ _ => (re_fe (fe_add (re_fe (fe_add (re_var 5) (re_fe (fe_callZ 0 (ok__law_atom T) (hr.mono (by decide)) rfl T.m__law_atom T.F__law_atom.kp T.b__law_atom takes0 ra_nil)))) (re_fe (fe_callZ 0 (ok__law_atom T) (hr.mono (by decide)) rfl T.m__law_atom T.F__law_atom.kp T.b__law_atom takes0 ra_nil))))))
  (ss_cons (se_set 10 sc__law_known.nd rfl (Or.inl rfl) (fe_add (re_fe (fe_add (re_fe (fe_add (re_fe (fe_add (re_fe (fe_add (re_fe (fe_add (re_var 8) (re_var 6))) (re_var 2))) (re_var 3))) (re_var 5))) (re_var 3))) (re_var 4)))
  (ss_cons (se_if (rt_eq (hu64 hr) (re_fe (fe_callZ 0 (ok__law_draw T) (hr.mono (by decide)) rfl T.m__law_draw T.F__law_draw.kp T.b__law_draw (takes_of rfl rfl rfl rfl) (ra_cons re_int ra_nil))) re_int) (ss_one (se_set 10 sc__law_known.nd rfl (Or.inl rfl) (fe_add (re_fe (fe_add (re_fe (fe_add (re_fe (fe_add (re_fe (fe_add (re_fe (fe_add (re_var 8) (re_var 5))) (re_var 2))) (re_var 3))) (re_var 6))) (re_var 3))) (re_var 4)))) ss_nil)
  (ss_one (se_ret (fe_add (re_var 9) (re_fe (fe_lst (ra_cons (re_fe (fe_add (re_fe (fe_add (re_fe (fe_add (re_fe (fe_add (re_fe (fe_add (re_fe (fe_add (re_var 7) (re_var 6))) (re_var 2))) (re_var 3))) (re_var 5))) (re_var 2))) (re_var 3))) (ra_cons (re_fe (fe_add (re_fe (fe_add (re_fe (fe_add (re_fe (fe_add (re_var 7) (re_var 6))) (re_var 2))) (re_var 4))) (re_var 10))) ra_nil)))))))))) ss_nil)
  (ss_cons (se_if (rt_eq (hu64 hr) (re_var 1) re_int) (ss_one (se_ret (fe_lst (ra_cons (re_fe (fe_add (re_tup (ra_cons (re_tup (ra_cons re_str (ra_cons re_str (ra_cons re_int ra_nil)))) ra_nil)) (re_fe (fe_callZ 0 (ok__law_leaf T) (hr.mono (by decide)) rfl T.m__law_leaf T.F__law_leaf.kp T.b__law_leaf (takes_of rfl rfl rfl rfl) (ra_cons re_int ra_nil))))) (ra_cons (re_fe (fe_add (re_fe (fe_add (re_fe (fe_add (re_fe (fe_add (re_var 7) (re_tup (ra_cons (re_tup (ra_cons re_str (ra_cons re_str (ra_cons re_int ra_nil)))) (ra_cons (re_tup (ra_cons re_str (ra_cons re_str (ra_cons re_int ra_nil)))) ra_nil))))) (re_var 2))) (re_tup (ra_cons (re_tup (ra_cons re_str (ra_cons re_str (ra_cons re_int ra_nil)))) ra_nil)))) (re_var 2))) ra_nil))))) ss_nil)
  (ss_cons (se_if (rt_eq (hu64 hr) (re_var 1) re_int) (ss_cons (se_set 11 sc__law_known.nd rfl (Or.inl rfl) (fe_add (re_fe (fe_add (re_var 6) (re_tup (ra_cons (re_tup (ra_cons re_str (ra_cons re_str (ra_cons re_int ra_nil)))) ra_nil)))) (re_fe (fe_callZ 0 (ok__law_leaf T) (hr.mono (by decide)) rfl T.m__law_leaf T.F__law_leaf.kp T.b__law_leaf (takes_of rfl rfl rfl rfl) (ra_cons re_int ra_nil)))))
  (ss_one (se_ret (fe_lst (ra_cons (re_var 11) (ra_cons (re_fe (fe_add (re_fe (fe_add (re_fe (fe_add (re_fe (fe_add (re_fe (fe_add (re_fe (fe_add (re_fe (fe_add (re_fe (fe_add (re_var 7) (re_var 6))) (re_tup (ra_cons (re_tup (ra_cons re_str (ra_cons re_str (ra_cons re_int ra_nil)))) ra_nil)))) (re_var 2))) (re_var 3))) (re_var 4))) (re_var 6))) (re_var 3))) (re_var 4))) ra_nil)))))) ss_nil)
  (ss_cons (se_set 12 sc__law_known.nd rfl (Or.inl rfl) (fe_add (re_fe (fe_add (re_fe (fe_add (re_fe (fe_add (re_fe (fe_add (re_fe (fe_add (re_fe (fe_add (re_fe (fe_add (re_fe (fe_add (re_fe (fe_add (re_var 7) (re_var 6))) (re_var 2))) (re_var 4))) (re_var 8))) (re_var 6))) (re_var 2))) (re_var 3))) (re_var 6))) (re_var 3))) (re_var 4)))
  (ss_one (se_ret (fe_lst (ra_cons (re_fe (fe_add (re_fe (fe_add (re_var 6) (re_fe (fe_callZ 0 (ok__law_atom T) (hr.mono (by decide)) rfl T.m__law_atom T.F__law_atom.kp T.b__law_atom (takes_of rfl rfl rfl rfl) ra_nil)))) (re_fe (fe_callZ 0 (ok__law_atom T) (hr.mono (by decide)) rfl T.m__law_atom T.F__law_atom.kp T.b__law_atom (takes_of rfl rfl rfl rfl) ra_nil)))) (ra_cons (re_var 12) (ra_cons (re_fe (fe_add (re_fe (fe_add (re_var 6) (re_fe (fe_callZ 0 (ok__law_atom T) (hr.mono (by decide)) rfl T.m__law_atom T.F__law_atom.kp T.b__law_atom (takes_of rfl rfl rfl rfl) ra_nil)))) (re_fe (fe_callZ 0 (ok__law_atom T) (hr.mono (by decide)) rfl T.m__law_atom T.F__law_atom.kp T.b__law_atom (takes_of rfl rfl rfl rfl) ra_nil)))) ra_nil)))))))))))))))))
def e__law_program_1 : ME := (eCallZ 0 m__law_clause aNil)
def c__law_program : MS := (sSeq (sIf (tCp (oEq false) (eCallZ 0 m__law_draw (aCons (eC (.int 3)) aNil)) (eC (.int 0))) (sSeq (sSet 1 (eCallZ 0 m__law_known (aCons (eCallZ 0 m__law_draw (aCons (eC (.int 4)) aNil)) aNil)))
  (sSeq (sIf (tCp (oEq false) (eCallZ 0 m__law_draw (aCons (eC (.int 2)) aNil)) (eC (.int 0))) (sApp 1 (eCallZ 0 m__law_clause aNil)) sNil)
  (sRetV 1))) sNil)
  (sRet (eLcR rngT1 (aCons (eAdd (eC (.int 1)) (eCallZ 0 m__law_draw (aCons (eC (.int 5)) aNil))) aNil) 2 tYs e__law_program_1)))
def m__law_program : MZ := runZ 3 1 c__law_program
theorem ok__law_program (T : Tx K mg) : FnOk P w K mg base (L2.CX P w) 6 T.a__law_program T.d__law_program ["stream"] (spZ K mg m__law_program) := fnZ (k := 5) T.F__law_program sc__law_program c__law_program fun so cdv A outer s H E hr => (ss_cons (se_if (rt_eq (hu64 hr) (re_fe (fe_callZ 0 (ok__law_draw T) (hr.mono (by decide)) rfl T.m__law_draw T.F__law_draw.kp T.b__law_draw (takes_of rfl rfl rfl rfl) (ra_cons re_int ra_nil))) re_int) (ss_cons (se_set 1 sc__law_program.nd rfl (Or.inl rfl) (fe_callZ 0 (ok__law_known T) (hr.mono (by decide)) rfl T.m__law_known T.F__law_known.kp T.b__law_known (takes_of rfl rfl rfl rfl) (ra_cons (re_fe (fe_callZ 0 (ok__law_draw T) (hr.mono (by decide)) rfl T.m__law_draw T.F__law_draw.kp T.b__law_draw (takes_of rfl rfl rfl rfl) (ra_cons re_int ra_nil))) ra_nil)))
  (ss_cons (se_if (rt_eq (hu64 hr) (re_fe (fe_callZ 0 (ok__law_draw T) (hr.mono (by decide)) rfl T.m__law_draw T.F__law_draw.kp T.b__law_draw (takes_of rfl rfl rfl rfl) (ra_cons re_int ra_nil))) re_int) (ss_one (se_app 1 (re_fe (fe_callZ 0 (ok__law_clause T) (hr.mono (by decide)) rfl T.m__law_clause T.F__law_clause.kp T.b__law_clause (takes_of rfl rfl rfl rfl) ra_nil)))) ss_nil)
  (ss_one (se_retV 1)))) ss_nil)
  (ss_one (se_ret (fe_lcR (x := "k") 2 rfl sc__law_program.nd rfl T.n_range (ra_cons (re_fe (fe_add re_int (re_fe (fe_callZ 0 (ok__law_draw T) (hr.mono (by decide)) rfl T.m__law_draw T.F__law_draw.kp T.b__law_draw (takes_of rfl rfl rfl rfl) (ra_cons re_int ra_nil))))) ra_nil) (blkOk_by (own := [("k", 2)]) (N := N__law_program) (sc := defScope s__law_program) (by decide +kernel)) (fun _ _ _ _ _ => pg_name (i := 2) sc__law_program.nd rfl (Or.inl rfl)) (fun _ _ _ _ _ => rts_nil) (fun _ _ _ _ _ => (re_fe (fe_callZ 0 (ok__law_clause T) (hr.mono (by decide)) rfl T.m__law_clause T.F__law_clause.kp T.b__law_clause takes0 ra_nil)))))))
def b__law_query_1 : MS := (sSeq (sSet 5 (eIm (eIx (eV 2) (eV 4))))
  (sIf (tOr' (tCp (oEq false) (eV 4) (eC (.int 0))) (tOr' (tAn (tTru (eIsi .tuple (eV 5))) (tAn (tCp (oEq false) (eIx (eV 5) (eC (.int 0))) (eC (.str (Str.ofString "f")))) (tCp oGt (eIx (eV 5) (eC (.int 2))) (eC (.int 0))))) (tCp oGt (eCallZ 0 m__law_draw (aCons (eC (.int 3)) aNil)) (eC (.int 0))))) (sApp 3 (eV 5)) (sApp 3 (eTup (aCons (eC (.str (Str.ofString "v"))) (aCons (eCallZ 0 m__law_draw (aCons (eC (.int 3)) aNil)) aNil))))))
noncomputable def c__law_query : MS := (sSeq (sIf (tCp (oEq false) (eCallZ 0 m__law_draw (aCons (eC (.int 3)) aNil)) (eC (.int 0))) (sRet (eCallZ 0 m__law_atom_of (aCons (eC (.int 3)) aNil))) sNil)
  (sSeq (sSet 2 (eIm (eIx (eCall m__law_row (aCons (eIx (eV 1) (eCallZ 0 m__law_draw (aCons (eLen (aCons (eV 1) aNil)) aNil))) aNil)) (eC (.int 0)))))
  (sSeq (sSet 3 (eLst aNil))
  (sSeq (sRng rngT1 (aCons (eLen (aCons (eV 2) aNil)) aNil) (gN 4) b__law_query_1)
  (sRet (eTuple (aCons (eV 3) aNil)))))))
noncomputable def m__law_query : MZ := runZ 6 2 c__law_query
theorem ok__law_query (T : Tx K mg) : FnOk P w K mg base (L2.CX P w) 5 T.a__law_query T.d__law_query ["stream", "program"] (spZ K mg m__law_query) := fnZ (k := 4) T.F__law_query sc__law_query c__law_query fun so cdv A outer s H E hr => (ss_cons (se_if (rt_eq (hu64 hr) (re_fe (fe_callZ 0 (ok__law_draw T) (hr.mono (by decide)) rfl T.m__law_draw T.F__law_draw.kp T.b__law_draw (takes_of rfl rfl rfl rfl) (ra_cons re_int ra_nil))) re_int) (ss_one (se_ret (fe_callZ 0 (ok__law_atom_of T) (hr.mono (by decide)) rfl T.m__law_atom_of T.F__law_atom_of.kp T.b__law_atom_of (takes_of rfl rfl rfl rfl) (ra_cons re_int ra_nil)))) ss_nil)
  (ss_cons (se_set 2 sc__law_query.nd rfl (Or.inl rfl) (fe_re (re_ix (hu_of hr) (re_fe (fe_call (ok__law_row T) (hr.mono (by decide)) rfl T.m__law_row T.F__law_row.kp T.b__law_row (takes_of rfl rfl rfl rfl) (ra_cons (re_ix (hu_of hr) (re_var 1) (re_fe (fe_callZ 0 (ok__law_draw T) (hr.mono (by decide)) rfl T.m__law_draw T.F__law_draw.kp T.b__law_draw (takes_of rfl rfl rfl rfl) (ra_cons (re_fe (fe_len rfl T.n_len (ra_cons (re_var 1) ra_nil))) ra_nil)))) ra_nil))) re_int)))
  (ss_cons (se_set 3 sc__law_query.nd rfl (Or.inl rfl) (fe_lst ra_nil))
  (ss_cons (se_rng1 (passes_of rfl) rfl rfl T.n_range (ra_cons (re_fe (fe_len rfl T.n_len (ra_cons (re_var 2) ra_nil))) ra_nil) (ge_name 4 sc__law_query.nd rfl (Or.inl rfl)) (ss_cons (se_set 5 sc__law_query.nd rfl (Or.inl rfl) (fe_re (re_ix (hu_of hr) (re_var 2) (re_var 4))))
  (ss_one (se_if (rt_rw (rw_or (rt_eq (hu64 hr) (re_var 4) re_int) (rw_or (rt_rw (rw_and (rt_tru (re_fe (fe_isi .tuple rfl T.n_isinstance rfl T.n_tuple (by decide +kernel) (re_var 5)))) (rw_and (rt_eq (hu64 hr) (re_ix (hu_of hr) (re_var 5) re_int) re_str) (rw_and1 (rt_gt (re_ix (hu_of hr) (re_var 5) re_int) re_int))))) (rw_or1 (rt_gt (re_fe (fe_callZ 0 (ok__law_draw T) (hr.mono (by decide)) rfl T.m__law_draw T.F__law_draw.kp T.b__law_draw (takes_of rfl rfl rfl rfl) (ra_cons re_int ra_nil))) re_int))))) (ss_one (se_app 3 (re_var 5))) (ss_one (se_app 3 (re_tup (ra_cons re_str (ra_cons (re_fe (fe_callZ 0 (ok__law_draw T) (hr.mono (by decide)) rfl T.m__law_draw T.F__law_draw.kp T.b__law_draw (takes_of rfl rfl rfl rfl) (ra_cons re_int ra_nil))) ra_nil)))))))))
  (ss_one (se_ret (fe_tuple rfl T.n_tuple (ra_cons (re_var 3) ra_nil))))))))
def c__law_large : MS := (sSeq (sSet 1 (eAdd (eC (.int 20)) (eCallZ 0 m__law_draw (aCons (eC (.int 90)) aNil))))
  (sSeq (sSet 2 (eAdd (eRep (eTup (aCons (eTup (aCons (eC (.str (Str.ofString "f"))) (aCons (eC (.str (Str.ofString "s"))) (aCons (eC (.int 1)) aNil)))) aNil)) (eV 1)) (eTup (aCons (eTup (aCons (eC (.str (Str.ofString "v"))) (aCons (eC (.int 0)) aNil))) aNil))))
  (sSeq (sIf (tCp (oEq false) (eCallZ 0 m__law_draw (aCons (eC (.int 2)) aNil)) (eC (.int 0))) (sRet (eAdd (eAdd (eTup (aCons (eTup (aCons (eC (.str (Str.ofString "f"))) (aCons (eC (.str (Str.ofString "q"))) (aCons (eC (.int 2)) aNil)))) (aCons (eTup (aCons (eC (.str (Str.ofString "f"))) (aCons (eC (.str (Str.ofString "s"))) (aCons (eC (.int 1)) aNil)))) aNil))) (eV 2)) (eTup (aCons (eTup (aCons (eC (.str (Str.ofString "f"))) (aCons (eC (.str (Str.ofString "s"))) (aCons (eC (.int 1)) aNil)))) (aCons (eTup (aCons (eC (.str (Str.ofString "v"))) (aCons (eC (.int 1)) aNil))) aNil))))) sNil)
  (sRet (eAdd (eAdd (eTup (aCons (eTup (aCons (eC (.str (Str.ofString "f"))) (aCons (eC (.str (Str.ofString "q"))) (aCons (eC (.int 2)) aNil)))) aNil)) (eV 2)) (eTup (aCons (eTup (aCons (eC (.str (Str.ofString "v"))) (aCons (eC (.int 1)) aNil))) aNil)))))))
def m__law_large : MZ := runZ 3 1 c__law_large
theorem ok__law_large (T : Tx K mg) : FnOk P w K mg base (L2.CX P w) 2 T.a__law_large T.d__law_large ["stream"] (spZ K mg m__law_large) := fnZ (k := 1) T.F__law_large sc__law_large c__law_large fun so cdv A outer s H E hr => (ss_cons (se_set 1 sc__law_large.nd rfl (Or.inl rfl) (fe_add re_int (re_fe (fe_callZ 0 (ok__law_draw T) (hr.mono (by decide)) rfl T.m__law_draw T.F__law_draw.kp T.b__law_draw (takes_of rfl rfl rfl rfl) (ra_cons re_int ra_nil)))))
  (ss_cons (se_set 2 sc__law_large.nd rfl (Or.inl rfl) (fe_add (re_fe (fe_rep (re_tup (ra_cons (re_tup (ra_cons re_str (ra_cons re_str (ra_cons re_int ra_nil)))) ra_nil)) (re_var 1))) (re_tup (ra_cons (re_tup (ra_cons re_str (ra_cons re_int ra_nil))) ra_nil))))
  (ss_cons (se_if (rt_eq (hu64 hr) (re_fe (fe_callZ 0 (ok__law_draw T) (hr.mono (by decide)) rfl T.m__law_draw T.F__law_draw.kp T.b__law_draw (takes_of rfl rfl rfl rfl) (ra_cons re_int ra_nil))) re_int) (ss_one (se_ret (fe_add (re_fe (fe_add (re_tup (ra_cons (re_tup (ra_cons re_str (ra_cons re_str (ra_cons re_int ra_nil)))) (ra_cons (re_tup (ra_cons re_str (ra_cons re_str (ra_cons re_int ra_nil)))) ra_nil))) (re_var 2))) (re_tup (ra_cons (re_tup (ra_cons re_str (ra_cons re_str (ra_cons re_int ra_nil)))) (ra_cons (re_tup (ra_cons re_str (ra_cons re_int ra_nil))) ra_nil)))))) ss_nil)
  (ss_one (se_ret (fe_add (re_fe (fe_add (re_tup (ra_cons (re_tup (ra_cons re_str (ra_cons re_str (ra_cons re_int ra_nil)))) ra_nil)) (re_var 2))) (re_tup (ra_cons (re_tup (ra_cons re_str (ra_cons re_int ra_nil))) ra_nil))))))))
noncomputable def e_law_1 : ME := (eCallZ 1 m__law_query (aCons (eV 2) aNil))
def b_law_2 : MS := (sPut 12 (eV 4) (eTup (aCons (eTup (aCons (eC (.str (Str.ofString "v"))) (aCons (eAdd (eAdd (eMul (eC (.int 7)) (eV 4)) (eCallZ 1 m__law_draw (aCons (eC (.int 7)) aNil))) (eV 11)) aNil))) aNil)))
def e_law_3 : ME := (eCall m__law_put (aCons (eV 12) (aCons (eV 18) aNil)))
noncomputable def b_law_4 : MS := (sSet 17 (eCall m_resolve (aCons (eV 3) (aCons (eV 16) (aCons (eV 7) (aCons (eV 6) aNil))))))
def b_law_5 : MS := (sRet (eAn (eBin (oEq false) (eV 14) (eC (.str (Str.ofString "large")))) (eBin (oEq false) (eV 16) (eV 5))))
@[simp] def r_law_6 : MS := (sRet (eAn (eBin (oEq false) (eIx (eV 17) (eC (.int 0))) (eIx (eV 14) (eC (.int 0)))) (eBin (oEq false) (eIx (eV 17) (eC (.int 1))) (eSl (eV 14) (pSome (eC (.int 1))) pNone))))
@[simp] def r_law_7 : MS := (sSeq (sIf (tOr' (tNt (tTru (eIsi .tuple (eV 17)))) (tOr' (tCp (oEq true) (eLen (aCons (eV 17) aNil)) (eC (.int 2))) (tNt (tTru (eIsi .list (eIx (eV 17) (eC (.int 1)))))))) (sRet (eIm (eC (.bl false)))) sNil)
  r_law_6)
@[simp] def r_law_8 : MS := (sSeq (sIf (tOr' (tCp oIs (eV 14) (eC .non)) (tCp (oEq false) (eV 14) (eC (.str (Str.ofString "large"))))) (sRet (eAn (eBin oIs (eV 17) (eC .non)) (eBin oIs (eV 14) (eC .non)))) sNil)
  r_law_7)
@[simp] noncomputable def r_law_9 : MS := (sSeq (sSet 16 (eList (aCons (eV 5) aNil)))
  (sSeq (sTry [("HornbookError", false), ("TooLarge", true), ("NotDefinite", false)] b_law_4 (fun _ => b_law_5))
  (sSeq (sIf (tCp (oEq true) (eV 16) (eV 5)) (sRet (eIm (eC (.bl false)))) sNil)
  r_law_8)))
@[simp] noncomputable def r_law_10 : MS := (sSeq (sSet 13 (eCall m__law_row (aCons (eV 6) aNil)))
  (sSeq (sSet 14 (eCall m__law_resolve (aCons (eAdd (eAdd (eLst (aCons (eV 3) aNil)) (eSl (eV 5) pNone (pSome (eV 7)))) (eSl (eV 5) (pSome (eAdd (eV 7) (eC (.int 1)))) pNone)) (aCons (eIx (eV 5) (eV 7)) (aCons (eV 13) aNil)))))
  (sSeq (sIf (tAn (tCp oIsnt (eV 14) (eC .non)) (tCp (oEq true) (eV 14) (eC (.str (Str.ofString "large"))))) (sSeq (sSet 15 (eAdd (eSub (eLen (aCons (eV 14) aNil)) (eLen (aCons (eV 13) aNil))) (eC (.int 1))))
  (sSet 14 (eCall m__law_numbered (aCons (eAdd (eAdd (eAdd (eLst (aCons (eIx (eV 14) (eC (.int 0))) aNil)) (eSl (eV 14) (pSome (eC (.int 1))) (pSome (eAdd (eV 7) (eC (.int 1)))))) (eSl (eV 14) (pSome (eV 15)) pNone)) (eSl (eV 14) (pSome (eAdd (eV 7) (eC (.int 1)))) (pSome (eV 15)))) (aCons (eC (.int 0)) aNil))))) sNil)
  r_law_9)))
@[simp] noncomputable def r_law_11 : MS := (sSeq (sIf (tCp (oEq false) (eCallZ 1 m__law_draw (aCons (eC (.int 4)) aNil)) (eC (.int 0))) (sSet 6 (eCall m__law_put (aCons (eDisp2 (eC (.int 0)) (eTup (aCons (eTup (aCons (eC (.str (Str.ofString "v"))) (aCons (eAdd (eC (.int 2)) (eCallZ 1 m__law_draw (aCons (eC (.int 40)) aNil))) aNil))) aNil)) (eC (.int 1)) (eTup (aCons (eTup (aCons (eC (.str (Str.ofString "v"))) (aCons (eC (.int 50)) aNil))) aNil))) (aCons (eV 6) aNil)))) sNil)
  r_law_10)
@[simp] noncomputable def r_law_12 : MS := (sSeq (sIf (tCp (oEq false) (eCallZ 1 m__law_draw (aCons (eC (.int 2)) aNil)) (eC (.int 0))) (sSeq (sSet 11 (eIm (eIx (eLst (aCons (eC (.int 1)) (aCons (ePow (eC (.int 10)) (eC (.int 12))) (aCons (eC (.int 3)) aNil)))) (eCallZ 1 m__law_draw (aCons (eC (.int 3)) aNil)))))
  (sSeq (sSet 12 eDk)
  (sSeq (sRng rngT1 (aCons (eC (.int 3)) aNil) (gN 4) b_law_2)
  (sSeq (sSet 3 (eCall m__law_put (aCons (eV 12) (aCons (eV 3) aNil))))
  (sSet 5 (eLc (eV 5) 18 tYs e_law_3)))))) sNil)
  r_law_11)
noncomputable def c_law : MS := (sSeq (sSet 2 (eCallZ 1 m__law_program aNil))
  (sSeq (sSet 3 (eCallZ 1 m__law_query (aCons (eV 2) aNil)))
  (sSeq (sSet 5 (eLcR rngT1 (aCons (eAdd (eC (.int 1)) (eCallZ 1 m__law_draw (aCons (eC (.int 3)) aNil))) aNil) 4 tYs e_law_1))
  (sSeq (sSet 6 (eIm (eIx (eV 2) (eCallZ 1 m__law_draw (aCons (eLen (aCons (eV 2) aNil)) aNil)))))
  (sSeq (sSet 7 (eCallZ 1 m__law_draw (aCons (eLen (aCons (eV 5) aNil)) aNil)))
  (sSeq (sIf (tCp (oEq false) (eCallZ 1 m__law_draw (aCons (eC (.int 8)) aNil)) (eC (.int 0))) (sSeq (sSet 8 (eIm (eTup (aCons (eTup (aCons (eC (.str (Str.ofString "v"))) (aCons (eC (.int 0)) aNil))) aNil))))
  (sSeq (sSet 9 (eIm (eTup (aCons (eTup (aCons (eC (.str (Str.ofString "v"))) (aCons (eC (.int 1)) aNil))) aNil))))
  (sSeq (sPut 5 (eV 7) (eCallZ 1 m__law_large aNil))
  (sSeq (sSet 10 (eAdd (eAdd (eAdd (eTup (aCons (eTup (aCons (eC (.str (Str.ofString "f"))) (aCons (eC (.str (Str.ofString "q"))) (aCons (eC (.int 2)) aNil)))) (aCons (eTup (aCons (eC (.str (Str.ofString "f"))) (aCons (eC (.str (Str.ofString "."))) (aCons (eC (.int 2)) aNil)))) aNil))) (eV 8)) (eV 8)) (eV 9)))
  (sSet 6 (eAdd (eAdd (eAdd (eAdd (eAdd (eTup (aCons (eTup (aCons (eC (.str (Str.ofString "f"))) (aCons (eC (.str (Str.ofString ":-"))) (aCons (eC (.int 2)) aNil)))) (aCons (eTup (aCons (eC (.str (Str.ofString "f"))) (aCons (eC (.str (Str.ofString "q"))) (aCons (eC (.int 2)) aNil)))) aNil))) (eV 8)) (eV 9)) (eTup (aCons (eTup (aCons (eC (.str (Str.ofString "f"))) (aCons (eC (.str (Str.ofString ","))) (aCons (eC (.int 2)) aNil)))) aNil))) (eV 10)) (eV 10))))))) sNil)
  r_law_12))))))
theorem ok_law (T : Tx K mg) (hl : lawOk 19 c_law) : FnOk P w K mg base (L2.CX P w) 8 T.a_law T.d_law ["script"] (spLaw K) := fnLaw (k := 7) T.F_law sc_law c_law 17 rfl rfl (fun cdv A outer s H0 E hr => ⟨_, ps_set (i := 1) sc_law.nd rfl (Or.inr rfl) (pe_call (ok__law_stream T) (hr.mono (by decide)) rfl T.m__law_stream T.F__law_stream.kp T.b__law_stream .nil passL (pa_cons (pv 0) pa_nil)), fun a ns H D hS h63 q => ⟨_, rfl, a, ns, rfl, hS, h63, q⟩⟩) (fun so cdv A outer s H E hr => (ss_cons (se_set 2 sc_law.nd rfl (Or.inr rfl) (fe_callZ 1 (ok__law_program T) (hr.mono (by decide)) rfl T.m__law_program T.F__law_program.kp T.b__law_program (takes_of rfl rfl rfl rfl) ra_nil))
  (ss_cons (se_set 3 sc_law.nd rfl (Or.inl rfl) (fe_callZ 1 (ok__law_query T) (hr.mono (by decide)) rfl T.m__law_query T.F__law_query.kp T.b__law_query (takes_of rfl rfl rfl rfl) (ra_cons (re_var 2) ra_nil)))
  (ss_cons (se_setLcR (x := "k") 5 4 rfl sc_law.nd rfl rfl (sw_true rfl rfl rfl (by decide +kernel)) rfl T.n_range (ra_cons (re_fe (fe_add re_int (re_fe (fe_callZ 1 (ok__law_draw T) (hr.mono (by decide)) rfl T.m__law_draw T.F__law_draw.kp T.b__law_draw (takes_of rfl rfl rfl rfl) (ra_cons re_int ra_nil))))) ra_nil) (blkOk_by (own := [("k", 4)]) (N := N_law) (sc := defScope s_law) (by decide +kernel)) (fun _ _ _ _ _ => pg_name (i := 4) sc_law.nd rfl (Or.inl rfl)) (fun _ _ _ _ _ => rts_nil) (fun _ _ _ _ _ => (re_fe (fe_callZ 1 (ok__law_query T) (hr.mono (by decide)) rfl T.m__law_query T.F__law_query.kp T.b__law_query takes0 (ra_cons (re_var 2) ra_nil)))))
  (ss_cons (se_set 6 sc_law.nd rfl (Or.inl rfl) (fe_re (re_ix (hu_of hr) (re_var 2) (re_fe (fe_callZ 1 (ok__law_draw T) (hr.mono (by decide)) rfl T.m__law_draw T.F__law_draw.kp T.b__law_draw (takes_of rfl rfl rfl rfl) (ra_cons (re_fe (fe_len rfl T.n_len (ra_cons (re_var 2) ra_nil))) ra_nil))))))
  (ss_cons (se_set 7 sc_law.nd rfl (Or.inl rfl) (fe_callZ 1 (ok__law_draw T) (hr.mono (by decide)) rfl T.m__law_draw T.F__law_draw.kp T.b__law_draw (takes_of rfl rfl rfl rfl) (ra_cons (re_fe (fe_len rfl T.n_len (ra_cons (re_var 5) ra_nil))) ra_nil)))
  (ss_cons (se_if (rt_eq (hu64 hr) (re_fe (fe_callZ 1 (ok__law_draw T) (hr.mono (by decide)) rfl T.m__law_draw T.F__law_draw.kp T.b__law_draw (takes_of rfl rfl rfl rfl) (ra_cons re_int ra_nil))) re_int) (ss_cons (se_set 8 sc_law.nd rfl (Or.inl rfl) (fe_re (re_tup (ra_cons (re_tup (ra_cons re_str (ra_cons re_int ra_nil))) ra_nil))))
  (ss_cons (se_set 9 sc_law.nd rfl (Or.inl rfl) (fe_re (re_tup (ra_cons (re_tup (ra_cons re_str (ra_cons re_int ra_nil))) ra_nil))))
  (ss_cons (se_put 5 (hu_of hr) (re_var 7) (re_fe (fe_callZ 1 (ok__law_large T) (hr.mono (by decide)) rfl T.m__law_large T.F__law_large.kp T.b__law_large (takes_of rfl rfl rfl rfl) ra_nil)))
  (ss_cons (se_set 10 sc_law.nd rfl (Or.inl rfl) (fe_add (re_fe (fe_add (re_fe (fe_add (re_tup (ra_cons (re_tup (ra_cons re_str (ra_cons re_str (ra_cons re_int ra_nil)))) (ra_cons (re_tup (ra_cons re_str (ra_cons re_str (ra_cons re_int ra_nil)))) ra_nil))) (re_var 8))) (re_var 8))) (re_var 9)))
  (ss_one (se_set 6 sc_law.nd rfl (Or.inl rfl) (fe_add (re_fe (fe_add (re_fe (fe_add (re_fe (fe_add (re_fe (fe_add (re_tup (ra_cons (re_tup (ra_cons re_str (ra_cons re_str (ra_cons re_int ra_nil)))) (ra_cons (re_tup (ra_cons re_str (ra_cons re_str (ra_cons re_int ra_nil)))) ra_nil))) (re_var 8))) (re_var 9))) (re_tup (ra_cons (re_tup (ra_cons re_str (ra_cons re_str (ra_cons re_int ra_nil)))) ra_nil)))) (re_var 10))) (re_var 10)))))))) ss_nil)
  (ss_cons (se_if (rt_eq (hu64 hr) (re_fe (fe_callZ 1 (ok__law_draw T) (hr.mono (by decide)) rfl T.m__law_draw T.F__law_draw.kp T.b__law_draw (takes_of rfl rfl rfl rfl) (ra_cons re_int ra_nil))) re_int) (ss_cons (se_set 11 sc_law.nd rfl (Or.inl rfl) (fe_re (re_ix (hu_of hr) (re_fe (fe_lst (ra_cons re_int (ra_cons (re_fe (fe_pow re_int re_int)) (ra_cons re_int ra_nil))))) (re_fe (fe_callZ 1 (ok__law_draw T) (hr.mono (by decide)) rfl T.m__law_draw T.F__law_draw.kp T.b__law_draw (takes_of rfl rfl rfl rfl) (ra_cons re_int ra_nil))))))
  (ss_cons (se_set 12 sc_law.nd rfl (Or.inr rfl) fe_dk)
  (ss_cons (se_rng1 (passes_of rfl) rfl rfl T.n_range (ra_cons re_int ra_nil) (ge_name 4 sc_law.nd rfl (Or.inl rfl)) (ss_one (se_put 12 (hu_of hr) (re_var 4) (re_tup (ra_cons (re_tup (ra_cons re_str (ra_cons (re_fe (fe_add (re_fe (fe_add (re_fe (fe_mul re_int (re_var 4))) (re_fe (fe_callZ 1 (ok__law_draw T) (hr.mono (by decide)) rfl T.m__law_draw T.F__law_draw.kp T.b__law_draw (takes_of rfl rfl rfl rfl) (ra_cons re_int ra_nil))))) (re_var 11))) ra_nil))) ra_nil)))))
  (ss_cons (se_set 3 sc_law.nd rfl (Or.inl rfl) (fe_call (ok__law_put T) (hr.mono (by decide)) rfl T.m__law_put T.F__law_put.kp T.b__law_put (takes_of rfl rfl rfl rfl) (ra_cons (re_var 12) (ra_cons (re_var 3) ra_nil))))
  (ss_one (se_setLc (x := "goal") 5 18 rfl sc_law.nd rfl rfl (sw_true rfl rfl rfl (by decide +kernel)) (re_var 5) (blkOk_by (own := [("goal", 18)]) (N := N_law) (sc := defScope s_law) (by decide +kernel)) (fun _ _ _ _ _ => pg_name (i := 18) sc_law.nd rfl (Or.inl rfl)) (fun _ _ _ _ _ => rts_nil) (fun _ _ _ _ _ => (re_fe (fe_call (ok__law_put T) (hr.mono (by decide)) rfl T.m__law_put T.F__law_put.kp T.b__law_put takes0 (ra_cons (re_var 12) (ra_cons (re_var 18) ra_nil))))))))))) ss_nil)
  (ss_cons (se_if (rt_eq (hu64 hr) (re_fe (fe_callZ 1 (ok__law_draw T) (hr.mono (by decide)) rfl T.m__law_draw T.F__law_draw.kp T.b__law_draw (takes_of rfl rfl rfl rfl) (ra_cons re_int ra_nil))) re_int) (ss_one (se_set 6 sc_law.nd rfl (Or.inl rfl) (fe_call (ok__law_put T) (hr.mono (by decide)) rfl T.m__law_put T.F__law_put.kp T.b__law_put (takes_of rfl rfl rfl rfl) (ra_cons (re_fe (fe_disp2 re_int (re_tup (ra_cons (re_tup (ra_cons re_str (ra_cons (re_fe (fe_add re_int (re_fe (fe_callZ 1 (ok__law_draw T) (hr.mono (by decide)) rfl T.m__law_draw T.F__law_draw.kp T.b__law_draw (takes_of rfl rfl rfl rfl) (ra_cons re_int ra_nil))))) ra_nil))) ra_nil)) re_int (re_tup (ra_cons (re_tup (ra_cons re_str (ra_cons re_int ra_nil))) ra_nil)))) (ra_cons (re_var 6) ra_nil))))) ss_nil)
  (ss_cons (se_set 13 sc_law.nd rfl (Or.inl rfl) (fe_call (ok__law_row T) (hr.mono (by decide)) rfl T.m__law_row T.F__law_row.kp T.b__law_row (takes_of rfl rfl rfl rfl) (ra_cons (re_var 6) ra_nil)))
  (ss_cons (se_set 14 sc_law.nd rfl (Or.inl rfl) (fe_call (ok__law_resolve T) (hr.mono (by decide)) rfl T.m__law_resolve T.F__law_resolve.kp T.b__law_resolve (takes_of rfl rfl rfl rfl) (ra_cons (re_fe (fe_add (re_fe (fe_add (re_fe (fe_lst (ra_cons (re_var 3) ra_nil))) (re_fe (fe_sl (re_var 5) rpo_none (rpo_some (re_var 7)))))) (re_fe (fe_sl (re_var 5) (rpo_some (re_fe (fe_add (re_var 7) re_int))) rpo_none)))) (ra_cons (re_ix (hu_of hr) (re_var 5) (re_var 7)) (ra_cons (re_var 13) ra_nil)))))
  (ss_cons (se_if (rt_rw (rw_and (rt_isnt (re_var 14) re_non) (rw_and1 (rt_ne (hu64 hr) (re_var 14) re_str)))) (ss_cons (se_set 15 sc_law.nd rfl (Or.inl rfl) (fe_add (re_fe (fe_sub (re_fe (fe_len rfl T.n_len (ra_cons (re_var 14) ra_nil))) (re_fe (fe_len rfl T.n_len (ra_cons (re_var 13) ra_nil))))) re_int))
  (ss_one (se_set 14 sc_law.nd rfl (Or.inl rfl) (fe_call (ok__law_numbered T) (hr.mono (by decide)) rfl T.m__law_numbered T.F__law_numbered.kp T.b__law_numbered (takes_of rfl rfl rfl rfl) (ra_cons (re_fe (fe_add (re_fe (fe_add (re_fe (fe_add (re_fe (fe_lst (ra_cons (re_ix (hu_of hr) (re_var 14) re_int) ra_nil))) (re_fe (fe_sl (re_var 14) (rpo_some re_int) (rpo_some (re_fe (fe_add (re_var 7) re_int))))))) (re_fe (fe_sl (re_var 14) (rpo_some (re_var 15)) rpo_none)))) (re_fe (fe_sl (re_var 14) (rpo_some (re_fe (fe_add (re_var 7) re_int))) (rpo_some (re_var 15)))))) (ra_cons re_int ra_nil)))))) ss_nil)
  (ss_cons (se_set 16 sc_law.nd rfl (Or.inl rfl) (fe_list rfl T.n_list (ra_cons (re_var 5) ra_nil)))
  (ss_cons (se_try rfl rfl ⟨rfl, by decide, .inl T.gx_TooLarge⟩ (takes_of rfl rfl rfl rfl) (cat_TooLarge T) (fun W1 pn1 xe1 tk1 ps1 => (ss_one (se_set 17 sc_law.nd rfl (Or.inl rfl) (fe_call (ok_resolve T) (hr.mono (by decide)) rfl T.m_resolve T.F_resolve.kp T.b_resolve tk1 (ra_cons (re_var 3) (ra_cons (re_var 16) (ra_cons (re_var 7) (ra_cons (re_var 6) ra_nil)))))))) (fun a oe C pn nm hz hf hC hnm => (ss_one (se_ret (fe_and (re_fe (fe_eq ((have h := hu64 hr; h)) (re_var 14) re_str)) (fe_one (fe_eq ((have h := hu64 hr; h)) (re_var 16) (re_var 5))))))))
  (ss_cons (se_if (rt_ne (hu64 hr) (re_var 16) (re_var 5)) (ss_one (se_ret (fe_re re_bl))) ss_nil)
  (ss_cons (se_if (rt_rw (rw_or (rt_is (re_var 14) re_non) (rw_or1 (rt_eq (hu64 hr) (re_var 14) re_str)))) (ss_one (se_ret (fe_and (re_fe (fe_is (re_var 17) re_non)) (fe_one (fe_is (re_var 14) re_non))))) ss_nil)
  (ss_cons (se_if (rt_rw (rw_or (rt_not (rt_tru (re_fe (fe_isi .tuple rfl T.n_isinstance rfl T.n_tuple (by decide +kernel) (re_var 17))))) (rw_or (rt_ne (hu64 hr) (re_fe (fe_len rfl T.n_len (ra_cons (re_var 17) ra_nil))) re_int) (rw_or1 (rt_not (rt_tru (re_fe (fe_isi .list rfl T.n_isinstance rfl T.n_list (by decide +kernel) (re_ix (hu_of hr) (re_var 17) re_int))))))))) (ss_one (se_ret (fe_re re_bl))) ss_nil)
  (ss_one (se_ret (fe_and (re_fe (fe_eq (hu64 hr) (re_ix (hu_of hr) (re_var 17) re_int) (re_ix (hu_of hr) (re_var 14) re_int))) (fe_one (fe_eq (hu64 hr) (re_ix (hu_of hr) (re_var 17) re_int) (re_fe (fe_sl (re_var 14) (rpo_some re_int) rpo_none)))))))))))))))))))))))) hl
end
end Law
namespace Law
open PySem PySem.Spec PyProof.Rows L2 MM
/-! ### drawn numbers -/
theorem draw_ok (z : Zs) (n : Int) (h : 0 < n) (hl : n.natAbs.log2 < 9000) : ∃ v z', drawM [.im (.int n)] z = .ok (.im (.int v)) z' ∧ 0 ≤ v ∧ v < n := by
  refine ⟨_, _, if_pos ⟨h, hl⟩, ?_⟩
  unfold Zs.draw Zs.fin
  split
  · exact ⟨Int.emod_nonneg _ (by omega), Int.emod_lt_of_pos _ h⟩
  · exact ⟨Int.emod_nonneg _ (by omega), Int.emod_lt_of_pos _ h⟩
theorem log_small {n : Int} (h0 : 0 < n) (h : n < 10 ^ 41) : n.natAbs.log2 < 9000 := by
  have h1 : n.natAbs < 2 ^ 140 := Nat.lt_of_lt_of_le (m := 10 ^ 41) (by omega) (by decide)
  have : n.natAbs.log2 < 140 := (Nat.log2_lt (by omega)).mpr h1
  omega
theorem draw_sm (z : Zs) (n : Int) (h : 0 < n) (hl : n < 10 ^ 41) : ∃ v z', m__law_draw [.im (.int n)] z = .ok (.im (.int v)) z' ∧ 0 ≤ v ∧ v < n := draw_ok z n h (log_small h hl)
abbrev S (s : String) : T := .str (Str.ofString s)
/-- a drawn item of a list -/
theorem pick_ok {ts : List T} {i : Int} (P : T → Prop) (h0 : 0 ≤ i) (h1 : i < ts.length) (h : ∀ t ∈ ts, P t) : ∃ t, atI ts i = some t ∧ P t := by
  obtain ⟨t, e, e2⟩ := atI_of h0 h1
  exact ⟨t, e, h t (List.mem_of_getElem? e2)⟩
end Law

namespace Law
open PySem PySem.Spec PyProof.Rows L2 MM
/-! ### nodes and terms -/
def nameB (s : Str) : Bool := decide (1 ≤ s.length) && decide (s.length ≤ 40) && s.cps.all fun c => decide (32 ≤ c) && decide (c ≤ 126)
/-- a node of a term with variables below w -/
inductive Node (w : Int) : T → Prop
  | v {n : Int} : 0 ≤ n → n < w → Node w (.tup [S "v", .int n])
  | i {n : Int} : -(10 ^ 40) < n → n < 10 ^ 40 → Node w (.int n)
  | f {s : Str} {a : Int} : nameB s = true → 0 ≤ a → a ≤ 8 → Node w (.tup [S "f", .str s, .int a])
def arT : T → Nat
  | .tup [.str _, .str _, .int a] => a.toNat
  | _ => 0
/-- how many nodes are missing behind -/
def need : Nat → List T → Option Nat
  | m, [] => some m
  | 0, _ :: _ => none
  | m + 1, t :: ts => need (m + arT t) ts
theorem need_app : ∀ {ts us : List T} {m k : Nat}, need m ts = some k → need m (ts ++ us) = need k us
  | [], us, m, k, h => by cases h; rfl
  | t :: ts, us, 0, k, h => by cases h
  | t :: ts, us, m + 1, k, h => by
    show need (m + arT t) (ts ++ us) = _
    exact need_app h
theorem need_more : ∀ {ts : List T} {m j k : Nat}, need m ts = some k → need (m + j) ts = some (k + j)
  | [], m, j, k, h => by cases h; rfl
  | t :: ts, 0, j, k, h => by cases h
  | t :: ts, m + 1, j, k, h => by
    have h' : need (m + arT t) ts = some k := h
    rw [show m + 1 + j = (m + j) + 1 by omega]
    show need (m + j + arT t) ts = _
    rw [show m + j + arT t = m + arT t + j by omega]
    exact need_more h'
structure Term (w : Int) (ts : List T) : Prop where
  nodes : ∀ t ∈ ts, Node w t
  whole : need 1 ts = some 0
theorem Term.ne {w : Int} {ts : List T} (h : Term w ts) : ts ≠ [] := by
  rintro rfl
  have := h.whole
  simp [need] at this
theorem Node.dep {w : Int} {t : T} (h : Node w t) : t.dep ≤ 1 := by cases h <;> simp
end Law

namespace Law
open PySem PySem.Spec PyProof.Rows L2 MM
/-! ### what stands behind some terms -/
/-- what stands behind m terms -/
def skip : Nat → List T → List T
  | 0, ts => ts
  | _ + 1, [] => []
  | m + 1, t :: ts => skip (m + arT t) ts
theorem need_skip : ∀ {ts : List T} {m j : Nat}, need (m + j) ts = some 0 → need j (skip m ts) = some 0
  | ts, 0, j, h => by cases ts <;> simpa [skip] using h
  | [], m + 1, j, h => by simp [need] at h
  | t :: ts, m + 1, j, h => by
    have h' : need (m + j + arT t) ts = some 0 := by
      rw [show m + 1 + j = (m + j) + 1 by omega] at h
      exact h
    show need j (skip (m + arT t) ts) = some 0
    exact need_skip (by rw [show m + arT t + j = m + j + arT t by omega]; exact h')
theorem skip_suffix : ∀ {ts : List T} {m : Nat}, ∃ us, ts = us ++ skip m ts
  | ts, 0 => ⟨[], by cases ts <;> rfl⟩
  | [], m + 1 => ⟨[], rfl⟩
  | t :: ts, m + 1 => by
    obtain ⟨us, e⟩ := skip_suffix (ts := ts) (m := m + arT t)
    exact ⟨t :: us, by show t :: ts = t :: us ++ skip (m + arT t) ts; rw [List.cons_append, ← e]⟩
theorem skip_len {ts : List T} {m : Nat} : (skip m ts).length ≤ ts.length := by
  obtain ⟨us, e⟩ := skip_suffix (ts := ts) (m := m)
  have := congrArg List.length e
  rw [List.length_append] at this
  omega
theorem skip_drop {L : List T} {a m : Nat} (ha : a ≤ L.length) : L.drop (L.length - (skip m (L.drop a)).length) = skip m (L.drop a) := by
  obtain ⟨us, e⟩ := skip_suffix (ts := L.drop a) (m := m)
  have h1 := congrArg List.length e
  rw [List.length_append, List.length_drop] at h1
  have h2 : L.length - (skip m (L.drop a)).length = a + us.length := by omega
  rw [h2, ← List.drop_drop]
  conv => lhs; rw [e]
  simp
theorem atI_drop {L l : List T} {k : Nat} {a : T} (h : L.drop k = a :: l) : atI L k = some a ∧ L.drop (k + 1) = l ∧ k < L.length := by
  have e : L[k]? = some a := by
    have : (L.drop k)[0]? = some a := by rw [h]; rfl
    simpa using this
  refine ⟨atI_nat e, ?_, ?_⟩
  · rw [← List.drop_drop, h]; rfl
  · have := congrArg List.length h
    simp at this; omega
theorem need_cons {m : Nat} {ts : List T} (h : need (m + 1) ts = some 0) : ∃ t l, ts = t :: l ∧ need (m + arT t) l = some 0 := by
  cases ts with
  | nil => simp [need] at h
  | cons t l => exact ⟨t, l, rfl, h⟩
end Law

namespace Law
open PySem PySem.Spec PyProof.Rows L2 MM
/-! ### dicts of ints and texts, key by key -/
theorem look_cons {p : Key × T} {kvs : List (Key × T)} {k : Key} : look (p :: kvs) k = if p.1 = k then some p.2 else look kvs k := by
  by_cases c : p.1 = k <;> simp [look, List.find?_cons, c]
theorem look_nil {k : Key} : look ([] : List (Key × T)) k = none := rfl
theorem look_append {k : Key} : ∀ {a b : List (Key × T)}, look (a ++ b) k = (look a k).or (look b k)
  | [], b => by simp [look_nil]
  | p :: a, b => by
    rw [List.cons_append, look_cons, look_cons, look_append]
    split <;> simp
theorem look_any {kvs : List (Key × T)} {k : Key} : (kvs.any fun kv => decide (kv.1 = k)) = (look kvs k).isSome := by
  induction kvs with
  | nil => rfl
  | cons p kvs ih =>
    rw [look_cons, List.any_cons, ih]
    by_cases c : p.1 = k <;> simp [c]
theorem putT_new {kvs : List (Key × T)} {k : Key} {u : T} (h : look kvs k = none) : putT kvs k u = kvs ++ [(k, u)] := by
  unfold putT
  rw [look_any, h]; rfl
theorem look_not {kvs : List (Key × T)} {k : Key} (h : look kvs k = none) : k ∉ kvs.map (·.1) := fun c => by
  obtain ⟨p, hp, e⟩ := List.mem_map.mp c
  have : (kvs.any fun kv => decide (kv.1 = k)) = true := List.any_eq_true.mpr ⟨p, hp, by simp [e]⟩
  rw [look_any, h] at this
  cases this
theorem not_look {kvs : List (Key × T)} {k : Key} (h : k ∉ kvs.map (·.1)) : look kvs k = none := by
  cases e : look kvs k with
  | none => rfl
  | some t =>
    unfold look at e
    obtain ⟨p, hp, _⟩ := Option.map_eq_some_iff.mp e
    have h2 := List.find?_some hp
    exact absurd (List.mem_map.mpr ⟨p, List.mem_of_find?_eq_some hp, by simpa using h2⟩) h
theorem look_mem {kvs : List (Key × T)} (nd : (kvs.map (·.1)).Nodup) {p : Key × T} (hp : p ∈ kvs) : look kvs p.1 = some p.2 := by
  induction kvs with
  | nil => cases hp
  | cons q kvs ih =>
    simp only [List.map_cons, List.nodup_cons] at nd
    rw [look_cons]
    rcases List.mem_cons.mp hp with rfl | hp
    · simp
    · rw [if_neg fun e => nd.1 (by rw [e]; exact List.mem_map_of_mem hp)]
      exact ih nd.2 hp
/-- things made key by key -/
def Keyed (h : Key × T → List (Key × T)) : Prop := ∀ p, ∀ q ∈ h p, q.1 = p.1
theorem look_other {h : Key × T → List (Key × T)} (hh : Keyed h) {fs : List (Key × T)} {k : Key} (n : k ∉ fs.map (·.1)) : look (fs.flatMap h) k = none := not_look fun c => by
  obtain ⟨q, hq, rfl⟩ := List.mem_map.mp c
  obtain ⟨p, hp, hq⟩ := List.mem_flatMap.mp hq
  exact n (by rw [hh p q hq]; exact List.mem_map_of_mem hp)
theorem look_flat {h : Key × T → List (Key × T)} (hh : Keyed h) : ∀ {fs : List (Key × T)}, (fs.map (·.1)).Nodup → ∀ k, look (fs.flatMap h) k = (look fs k).bind fun v => look (h (k, v)) k
  | [], _, k => rfl
  | p :: fs, nd, k => by
    simp only [List.map_cons, List.nodup_cons] at nd
    rw [List.flatMap_cons, look_append, look_cons, look_flat hh nd.2]
    by_cases c : p.1 = k
    · subst c
      rw [if_pos rfl, not_look nd.1]
      simp
    · rw [if_neg c]
      have : look (h p) k = none := not_look fun e => by
        obtain ⟨q, hq, e⟩ := List.mem_map.mp e
        exact c (by rw [← hh p q hq, e])
      rw [this]; simp
theorem flat_nd {h : Key × T → List (Key × T)} (hh : Keyed h) (h1 : ∀ p, (h p).length ≤ 1) : ∀ {fs : List (Key × T)}, (fs.map (·.1)).Nodup → ((fs.flatMap h).map (·.1)).Nodup
  | [], _ => by simp
  | p :: fs, nd => by
    simp only [List.map_cons, List.nodup_cons] at nd
    rw [List.flatMap_cons, List.map_append]
    refine List.nodup_append.mpr ⟨?_, flat_nd hh h1 nd.2, fun a ha b hb c => ?_⟩
    · have := h1 p
      match h p, this with
      | [], _ => simp
      | [q], _ => simp
    · subst c
      obtain ⟨q, hq, rfl⟩ := List.mem_map.mp ha
      obtain ⟨r, hr, e⟩ := List.mem_map.mp hb
      obtain ⟨p2, hp2, hr⟩ := List.mem_flatMap.mp hr
      exact nd.1 (by rw [← hh p q hq, ← e, hh p2 r hr]; exact List.mem_map_of_mem hp2)
theorem flat_len {h : Key × T → List (Key × T)} (h1 : ∀ p, (h p).length ≤ 1) : ∀ {fs : List (Key × T)}, (fs.flatMap h).length ≤ fs.length
  | [] => by simp
  | p :: fs => by
    have := h1 p
    have := flat_len h1 (fs := fs)
    rw [List.flatMap_cons, List.length_append, List.length_cons]; omega
/-- a for over a dict that puts what is new -/
theorem put_turns {g : MGt} {body : MS} {z : Zs} {h : Key × T → List (Key × T)} (hh : Keyed h) (F : List (Key × T) → Sv → List Sv) (hg : ∀ t acc x, g t (F acc x) = some (F acc (.o (.im t)))) : ∀ {fs : List (Key × T)} {acc : List (Key × T)} {x : Sv}, (fs.map (·.1)).Nodup → (∀ p ∈ fs, look acc p.1 = none) →
    (∀ p ∈ fs, ∀ acc, look acc p.1 = none → acc.length ≤ 1000 → body (F acc (.o (.im (kyT p.1)))) z = .nx (F (acc ++ h p) (.o (.im (kyT p.1)))) z) → (∀ p, (h p).length ≤ 1) → acc.length + fs.length ≤ 1000 →
    ∃ x', sTurns g body (fs.map fun p => kyT p.1) (F acc x) z = .nx (F (acc ++ fs.flatMap h) x') z
  | [], acc, x, _, _, _, _, _ => ⟨x, by simp⟩
  | p :: fs, acc, x, nd, na, st, h1, hl => by
    simp only [List.map_cons, List.nodup_cons] at nd
    simp only [List.length_cons] at hl
    have e1 := st p (by simp) acc (na p (by simp)) (by omega)
    have := h1 p
    obtain ⟨x', e2⟩ := put_turns hh F hg (fs := fs) (acc := acc ++ h p) (x := .o (.im (kyT p.1))) nd.2 (fun q hq => by
      rw [look_append, na q (by simp [hq])]
      have : look (h p) q.1 = none := not_look fun e => by
        obtain ⟨r, hr, e⟩ := List.mem_map.mp e
        exact nd.1 (by rw [← hh p r hr, e]; exact List.mem_map_of_mem hq)
      rw [this]; rfl) (fun q hq => st q (by simp [hq])) h1 (by rw [List.length_append]; omega)
    rw [List.append_assoc] at e2
    exact ⟨x', by simp only [List.map_cons, List.flatMap_cons, sTurns, hg, e1]; exact e2⟩
/-- .. a dict comprehension -/
theorem dc_flat {j : Nat} {c : MT} {mk mv : ME} {S0 : List Sv} (hj : j < S0.length) (z : Zs) {h : Key × T → List (Key × T)} (hh : Keyed h) : ∀ {fs acc : List (Key × T)}, (fs.map (·.1)).Nodup → (∀ p ∈ fs, look acc p.1 = none) →
    (∀ p ∈ fs, (h p = [] ∧ c (S0.set j (.o (.im (kyT p.1)))) z = .ok false z) ∨ (∃ v, h p = [(p.1, v)] ∧ c (S0.set j (.o (.im (kyT p.1)))) z = .ok true z ∧ mk (S0.set j (.o (.im (kyT p.1)))) z = .ok (.im (kyT p.1)) z ∧ mv (S0.set j (.o (.im (kyT p.1)))) z = .ok (.im v) z)) → acc.length + fs.length ≤ 1000 →
    dcT j c mk mv S0 (fs.map fun p => kyT p.1) acc z = .ok (.dk (acc ++ fs.flatMap h)) z
  | [], acc, _, _, _, _ => by simp [dcT]
  | p :: fs, acc, nd, na, st, hl => by
    simp only [List.map_cons, List.nodup_cons] at nd
    simp only [List.length_cons] at hl
    have ne : ∀ q ∈ fs, look (acc ++ h p) q.1 = none := fun q hq => by
      rw [look_append, na q (by simp [hq])]
      have : look (h p) q.1 = none := not_look fun e => by
        obtain ⟨r, hr, e⟩ := List.mem_map.mp e
        exact nd.1 (by rw [← hh p r hr, e]; exact List.mem_map_of_mem hq)
      rw [this]; rfl
    rw [List.map_cons, List.flatMap_cons]
    unfold dcT
    rw [if_pos hj]
    rcases st p (by simp) with ⟨e, e1⟩ | ⟨v, e, e1, e2, e3⟩
    · rw [e1]
      rw [e, List.append_nil] at ne
      rw [e, List.nil_append]
      exact dc_flat hj z hh nd.2 ne (fun q hq => st q (by simp [hq])) (by omega)
    · have ek : (kyT p.1).key? = some p.1 := by cases p.1 <;> rfl
      simp only [e1, e2, e3, ek, line_eq]
      rw [e] at ne
      rw [if_pos (by omega), putT_new (na p (by simp)), e, dc_flat hj z hh nd.2 ne (fun q hq => st q (by simp [hq])) (by rw [List.length_append, List.length_singleton]; omega), List.append_assoc]
end Law

namespace Law
open PySem PySem.Spec PyProof.Rows L2 MM
/-! ### tables of terms, put in -/
def TB (w : Int) (N : Nat) (kvs : List (Key × T)) : Prop := ∀ p ∈ kvs, ∃ us, p.2 = .tup us ∧ Term w us ∧ us.length ≤ N
theorem tb_look {w : Int} {N : Nat} {kvs : List (Key × T)} (h : TB w N kvs) (k : Key) : look kvs k = none ∨ ∃ us, look kvs k = some (.tup us) ∧ Term w us ∧ us.length ≤ N := by
  cases e : look kvs k with
  | none => exact .inl rfl
  | some t =>
    unfold look at e
    obtain ⟨p, hp, rfl⟩ := Option.map_eq_some_iff.mp e
    obtain ⟨us, hn, h1, h2⟩ := h p (List.mem_of_find?_eq_some hp)
    exact .inr ⟨us, by rw [hn], h1, h2⟩
theorem tb_put {w : Int} {N : Nat} {kvs : List (Key × T)} (h : TB w N kvs) (k : Key) {us : List T} (h1 : Term w us) (h2 : us.length ≤ N) : TB w N (putT kvs k (.tup us)) ∧ (putT kvs k (.tup us)).length ≤ kvs.length + 1 := by
  unfold putT
  split
  · refine ⟨fun p hp => ?_, by simp⟩
    obtain ⟨q, hq, rfl⟩ := List.mem_map.mp hp
    split
    · exact ⟨us, rfl, h1, h2⟩
    · exact h q hq
  · refine ⟨fun p hp => ?_, by simp⟩
    rcases List.mem_append.mp hp with q | q
    · exact h p q
    · simp at q; subst q; exact ⟨us, rfl, h1, h2⟩
def ap (kvs : List (Key × T)) (t : T) : List T := match t with
  | .tup [.str _, .int n] => match look kvs (.inl n) with
    | some (.tup us) => us
    | _ => [t]
  | _ => [t]
theorem ap_ok {w : Int} {N : Nat} {kvs : List (Key × T)} (h : TB w N kvs) (hN : 1 ≤ N) {t : T} (ht : Node w t) : (∀ u ∈ ap kvs t, Node w u) ∧ (ap kvs t).length ≤ N ∧ need (1 + 0) (ap kvs t) = some (arT t) := by
  cases ht with
  | @v n h1 h2 =>
    rcases tb_look h (.inl n) with e | ⟨us, e, g1, g2⟩
    · have : ap kvs (.tup [S "v", .int n]) = [.tup [S "v", .int n]] := by simp [ap, e]
      rw [this]
      exact ⟨fun u hu => by simp at hu; subst hu; exact .v h1 h2, by simpa using hN, rfl⟩
    · have : ap kvs (.tup [S "v", .int n]) = us := by simp [ap, e]
      rw [this]
      exact ⟨g1.nodes, g2, g1.whole⟩
  | i h1 h2 => exact ⟨fun u hu => by simp [ap] at hu; subst hu; exact .i h1 h2, by simpa [ap] using hN, rfl⟩
  | f h1 h2 h3 => exact ⟨fun u hu => by simp [ap] at hu; subst hu; exact .f h1 h2 h3, by simpa [ap] using hN, by simp [ap, need]⟩
theorem ap_need {w : Int} {N : Nat} {kvs : List (Key × T)} (h : TB w N kvs) (hN : 1 ≤ N) : ∀ {ts : List T} {m k : Nat}, (∀ t ∈ ts, Node w t) → need m ts = some k → need m (ts.flatMap (ap kvs)) = some k
  | [], m, k, _, e => by cases e; rfl
  | t :: ts, 0, k, _, e => by cases e
  | t :: ts, m + 1, k, ht, e => by
    have e' : need (m + arT t) ts = some k := e
    obtain ⟨_, _, g⟩ := ap_ok h hN (ht t (by simp))
    have g2 := need_more (j := m) g
    rw [List.flatMap_cons, need_app (k := m + arT t) (by rw [show m + 1 = 1 + 0 + m by omega, g2, Nat.add_comm])]
    exact ap_need h hN (fun u hu => ht u (by simp [hu])) e'
theorem ap_len {w : Int} {N : Nat} {kvs : List (Key × T)} (h : TB w N kvs) (hN : 1 ≤ N) : ∀ {ts : List T}, (∀ t ∈ ts, Node w t) → (ts.flatMap (ap kvs)).length ≤ ts.length * N
  | [], _ => by simp
  | t :: ts, ht => by
    obtain ⟨_, g, _⟩ := ap_ok h hN (ht t (by simp))
    have := ap_len h hN (ts := ts) fun u hu => ht u (by simp [hu])
    rw [List.flatMap_cons, List.length_append, List.length_cons, Nat.add_mul]
    omega
theorem ap_nodes {w : Int} {N : Nat} {kvs : List (Key × T)} (h : TB w N kvs) (hN : 1 ≤ N) {ts : List T} (ht : ∀ t ∈ ts, Node w t) : ∀ t ∈ ts.flatMap (ap kvs), Node w t := fun u hu => by
  obtain ⟨t, h1, h2⟩ := List.mem_flatMap.mp hu
  exact (ap_ok h hN (ht t h1)).1 u h2
theorem ap_term {w : Int} {N : Nat} {kvs : List (Key × T)} (h : TB w N kvs) (hN : 1 ≤ N) {ts : List T} (ht : Term w ts) : Term w (ts.flatMap (ap kvs)) := ⟨ap_nodes h hN ht.nodes, ap_need h hN ht.nodes ht.whole⟩
/-! ### equal nodes are one -/
theorem eqv_node {w w' : Int} {t u : T} (h1 : Node w t) (h2 : Node w' u) (e : T.eqv t u = true) : t = u := by
  cases h1 <;> cases h2 <;> simp at e <;> simp [e]
theorem eqvs_nodes {w w' : Int} : ∀ {ts us : List T}, (∀ t ∈ ts, Node w t) → (∀ t ∈ us, Node w' t) → eqvs ts us = true → ts = us
  | [], [], _, _, _ => rfl
  | [], u :: us, _, _, e => by simp [eqvs] at e
  | t :: ts, [], _, _, e => by simp [eqvs] at e
  | t :: ts, u :: us, h1, h2, e => by
    simp at e
    rw [eqv_node (h1 t (by simp)) (h2 u (by simp)) e.1, eqvs_nodes (fun v hv => h1 v (by simp [hv])) (fun v hv => h2 v (by simp [hv])) e.2]
theorem eqv_refl_node {w : Int} {t : T} (h : Node w t) : T.eqv t t = true := by cases h <;> simp
theorem eqvs_refl_nodes {w : Int} : ∀ {ts : List T}, (∀ t ∈ ts, Node w t) → eqvs ts ts = true
  | [], _ => by simp
  | t :: ts, h => by
    have := eqvs_refl_nodes (ts := ts) fun u hu => h u (List.mem_cons_of_mem _ hu)
    simp [eqv_refl_node (h t (by simp)), this]
theorem depS_nodes {w : Int} {ts : List T} (h : ∀ t ∈ ts, Node w t) : depS ts ≤ 1 := depS_le fun t ht => (h t ht).dep
end Law

namespace Law
open PySem PySem.Spec PyProof.Rows L2 MM
/-! ### end_of -/
theorem sym_eq {w : Int} {t : T} (h : Node w t) : m_is_symbol [.im t] = .ok (.im (.bl (match t with | .tup [_, _, _] => true | _ => false))) z0 := by
  cases h <;> simp [m_is_symbol, runP, c_is_symbol]
theorem var_eq {w : Int} {t : T} (h : Node w t) : m_is_variable [.im t] = .ok (.im (.bl (match t with | .tup [_, _] => true | _ => false))) z0 := by
  cases h <;> simp [m_is_variable, runP, c_is_variable]
theorem eof_turn {w : Int} {L l : List T} {a m : Nat} {t : T} {x A : Sv} {z : Zs} (e : L.drop a = t :: l) (ht : Node w t) : b_end_of_1 [.b (.im (.tup L)), A, .o (.im (.int (m + 1 : Nat))), .o (.im (.int a)), x] z = .nx [.b (.im (.tup L)), A, .o (.im (.int (m + arT t : Nat))), .o (.im (.int (a + 1 : Nat))), .o (.im t)] z := by
  obtain ⟨e1, _⟩ := atI_drop e
  have es := sym_eq ht
  cases ht with
  | v h1 h2 => simp at es; simp [b_end_of_1, e1, arT, es]
  | i h1 h2 => simp at es; simp [b_end_of_1, e1, arT, es]
  | f h1 h2 h3 => simp at es; simp [b_end_of_1, e1, arT, es]; omega
theorem eof_ok {w : Int} {L : List T} {a : Nat} (hn : ∀ t ∈ L, Node w t) (ha : a ≤ L.length) (j : Nat) (hd : need (1 + j) (L.drop a) = some 0) : m_end_of [.im (.tup L), .im (.int a)] = .ok (.im (.int (L.length - (skip 1 (L.drop a)).length : Nat))) z0 := by
  obtain ⟨S', z', e, ⟨a', A, x, rfl, h1, h2, rfl⟩⟩ := wh_ind (c := t_end_of_2) (b := b_end_of_1)
    (fun n S z => ∃ (m a' : Nat) (x : Sv), S = [.b (.im (.tup L)), .b (.im (.int a)), .o (.im (.int m)), .o (.im (.int a')), x] ∧ a' ≤ L.length ∧ need (m + j) (L.drop a') = some 0 ∧ skip m (L.drop a') = skip 1 (L.drop a) ∧ n + a' = L.length ∧ z = z0)
    (fun S z => ∃ (a' : Nat) (A x : Sv), S = [.b (.im (.tup L)), A, .o (.im (.int 0)), .o (.im (.int a')), x] ∧ a' ≤ L.length ∧ L.drop a' = skip 1 (L.drop a) ∧ z = z0)
    (fun n S z ⟨m, a', x, eS, h1, h2, h3, h4, ez⟩ => by
      subst eS
      cases m with
      | zero =>
        left
        refine ⟨z, by simp [t_end_of_2], a', _, x, rfl, h1, ?_, ez⟩
        rw [← h3]; cases L.drop a' <;> rfl
      | succ m =>
        right
        rw [show m + 1 + j = (m + j) + 1 by omega] at h2
        obtain ⟨t, l, el, h5⟩ := need_cons h2
        obtain ⟨e1, e2, e3⟩ := atI_drop el
        have ht : Node w t := hn t (by have : t ∈ L.drop a' := by rw [el]; simp
                                       exact List.mem_of_mem_drop this)
        refine ⟨z, by simp [t_end_of_2], _, z, .inl (eof_turn el ht), n - 1, by omega, m + arT t, a' + 1, _, rfl, by omega, ?_, ?_, by omega, ez⟩
        · rw [e2, show m + arT t + j = m + j + arT t by omega]; exact h5
        · rw [e2, ← h3, el]; rfl)
    (L.length - a) [.b (.im (.tup L)), .b (.im (.int a)), .o (.im (.int (1 : Nat))), .o (.im (.int a)), .un] z0 ⟨1, a, .un, rfl, ha, hd, rfl, by omega, rfl⟩
  have : L.length - (skip 1 (L.drop a)).length = a' := by
    rw [← h2, List.length_drop]; omega
  rw [this]
  simp at e
  simp [m_end_of, runP, c_end_of, e]
end Law
namespace Law
open PySem PySem.Spec PyProof.Rows L2 MM
theorem pap_turn {w : Int} {N : Nat} {kvs : List (Key × T)} (h : TB w N kvs) (hN : N ≤ 1000000) (A : Sv) {t : T} (ht : Node w t) (z : Zs) (acc : List T) (hl : acc.length ≤ 10000000) : b_apply_1 [.b (.dk kvs), A, .o (.il acc), .o (.im t)] z = .nx [.b (.dk kvs), A, .o (.il (acc ++ ap kvs t)), .o (.im t)] z := by
  have ev := var_eq ht
  cases ht with
  | @v n h1 h2 =>
    simp at ev
    rcases tb_look h (.inl n) with e | ⟨us, e, g1, g2⟩
    · simp [b_apply_1, ev, T.key?, e, ap, show acc.length < 16777216 by omega]
    · simp [b_apply_1, ev, T.key?, e, ap, show acc.length + us.length ≤ 16777216 by omega]
  | i h1 h2 => simp at ev; simp [b_apply_1, ev, ap, show acc.length < 16777216 by omega]
  | f h1 h2 h3 => simp at ev; simp [b_apply_1, ev, ap, show acc.length < 16777216 by omega]
theorem pap_loop {w : Int} {N : Nat} {kvs : List (Key × T)} (h : TB w N kvs) (hN : 1 ≤ N ∧ N ≤ 1000000) (A : Sv) (z : Zs) : ∀ (ts acc : List T) (x3 : Sv), (∀ t ∈ ts, Node w t) → acc.length + ts.length * N ≤ 10000000 → ∃ x3', sTurns (gN 3) b_apply_1 ts [.b (.dk kvs), A, .o (.il acc), x3] z = .nx [.b (.dk kvs), A, .o (.il (acc ++ ts.flatMap (ap kvs))), x3'] z
  | [], acc, x3, _, _ => ⟨x3, by simp⟩
  | t :: ts, acc, x3, ht, hl => by
    simp only [List.length_cons, Nat.add_mul] at hl
    have e1 := pap_turn h hN.2 A (ht t (by simp)) z acc (by omega)
    have := (ap_ok h hN.1 (ht t (by simp))).2.1
    obtain ⟨x3', e2⟩ := pap_loop h hN A z ts (acc ++ ap kvs t) (.o (.im t)) (fun u hu => ht u (by simp [hu])) (by rw [List.length_append]; omega)
    rw [List.append_assoc] at e2
    exact ⟨x3', by simp [e1, e2]⟩
theorem pap_ok {w : Int} {N : Nat} {kvs : List (Key × T)} (h : TB w N kvs) (hN : 1 ≤ N ∧ N ≤ 1000000) {ts : List T} (ht : ∀ t ∈ ts, Node w t) (hl : ts.length * N ≤ 10000000) : m_apply [.dk kvs, .im (.tup ts)] = .ok (.im (.tup (ts.flatMap (ap kvs)))) z0 := by
  obtain ⟨x3, e⟩ := pap_loop h hN (.b (.im (.tup ts))) z0 ts [] .un ht (by simpa using hl)
  rw [List.nil_append] at e
  simp [m_apply, runP, c_apply, e]
theorem lend_turn {w : Int} {L l : List T} {a m : Nat} {t : T} {A x : Sv} {z : Zs} (e : L.drop a = t :: l) (ht : Node w t) : b__law_end_1 [.b (.im (.tup L)), A, .o (.im (.int (m + 1 : Nat))), .o (.im (.int a))] z = .nx [.b (.im (.tup L)), A, .o (.im (.int (m + arT t : Nat))), .o (.im (.int (a + 1 : Nat)))] z := by
  obtain ⟨e1, _⟩ := atI_drop e
  cases ht with
  | v h1 h2 => simp [b__law_end_1, e1, arT]; try omega
  | i h1 h2 => simp [b__law_end_1, e1, arT]; try omega
  | f h1 h2 h3 => simp [b__law_end_1, e1, arT]; omega
theorem lend_ok {w : Int} {L : List T} {a : Nat} (hn : ∀ t ∈ L, Node w t) (ha : a ≤ L.length) (j : Nat) (hd : need (1 + j) (L.drop a) = some 0) : m__law_end [.im (.tup L), .im (.int a)] = .ok (.im (.int (L.length - (skip 1 (L.drop a)).length : Nat))) z0 := by
  obtain ⟨S', z', e, ⟨a', A, rfl, h1, h2, rfl⟩⟩ := wh_ind (c := t__law_end_2) (b := b__law_end_1)
    (fun n S z => ∃ (m a' : Nat), S = [.b (.im (.tup L)), .b (.im (.int a)), .o (.im (.int m)), .o (.im (.int a'))] ∧ a' ≤ L.length ∧ need (m + j) (L.drop a') = some 0 ∧ skip m (L.drop a') = skip 1 (L.drop a) ∧ n + a' = L.length ∧ z = z0)
    (fun S z => ∃ (a' : Nat) (A : Sv), S = [.b (.im (.tup L)), A, .o (.im (.int 0)), .o (.im (.int a'))] ∧ a' ≤ L.length ∧ L.drop a' = skip 1 (L.drop a) ∧ z = z0)
    (fun n S z ⟨m, a', eS, h1, h2, h3, h4, ez⟩ => by
      subst eS
      cases m with
      | zero =>
        left
        refine ⟨z, by simp [t__law_end_2], a', _, rfl, h1, ?_, ez⟩
        rw [← h3]; cases L.drop a' <;> rfl
      | succ m =>
        right
        rw [show m + 1 + j = (m + j) + 1 by omega] at h2
        obtain ⟨t, l, el, h5⟩ := need_cons h2
        obtain ⟨e1, e2, e3⟩ := atI_drop el
        have ht : Node w t := hn t (by have : t ∈ L.drop a' := by rw [el]; simp
                                       exact List.mem_of_mem_drop this)
        refine ⟨z, by simp [t__law_end_2], _, z, .inl (lend_turn (x := .un) el ht), n - 1, by omega, m + arT t, a' + 1, rfl, by omega, ?_, ?_, by omega, ez⟩
        · rw [e2, show m + arT t + j = m + j + arT t by omega]; exact h5
        · rw [e2, ← h3, el]; rfl)
    (L.length - a) [.b (.im (.tup L)), .b (.im (.int a)), .o (.im (.int (1 : Nat))), .o (.im (.int a))] z0 ⟨1, a, rfl, ha, hd, rfl, by omega, rfl⟩
  have : L.length - (skip 1 (L.drop a)).length = a' := by
    rw [← h2, List.length_drop]; omega
  rw [this]
  simp at e
  simp [m__law_end, runP, c__law_end, e]
theorem lvar_eq {w : Int} {t : T} (h : Node w t) : m__law_is_variable [.im t] = .ok (.im (.bl (match t with | .tup [_, _] => true | _ => false))) z0 := by
  cases h <;> simp [m__law_is_variable, runP, c__law_is_variable]
theorem lput_turn {w : Int} {N : Nat} {kvs : List (Key × T)} (h : TB w N kvs) (hN : N ≤ 1000000) (A : Sv) {t : T} (ht : Node w t) (z : Zs) (acc : List T) (hl : acc.length ≤ 10000000) : b__law_put_1 [.b (.dk kvs), A, .o (.il acc), .o (.im t)] z = .nx [.b (.dk kvs), A, .o (.il (acc ++ ap kvs t)), .o (.im t)] z := by
  have ev := lvar_eq ht
  cases ht with
  | @v n h1 h2 =>
    simp at ev
    rcases tb_look h (.inl n) with e | ⟨us, e, g1, g2⟩
    · simp [b__law_put_1, ev, T.key?, e, ap, show acc.length < 16777216 by omega]
    · simp [b__law_put_1, ev, T.key?, e, ap, show acc.length + us.length ≤ 16777216 by omega]
  | i h1 h2 => simp at ev; simp [b__law_put_1, ev, ap, show acc.length < 16777216 by omega]
  | f h1 h2 h3 => simp at ev; simp [b__law_put_1, ev, ap, show acc.length < 16777216 by omega]
theorem lput_loop {w : Int} {N : Nat} {kvs : List (Key × T)} (h : TB w N kvs) (hN : 1 ≤ N ∧ N ≤ 1000000) (A : Sv) (z : Zs) : ∀ (ts acc : List T) (x3 : Sv), (∀ t ∈ ts, Node w t) → acc.length + ts.length * N ≤ 10000000 → ∃ x3', sTurns (gN 3) b__law_put_1 ts [.b (.dk kvs), A, .o (.il acc), x3] z = .nx [.b (.dk kvs), A, .o (.il (acc ++ ts.flatMap (ap kvs))), x3'] z
  | [], acc, x3, _, _ => ⟨x3, by simp⟩
  | t :: ts, acc, x3, ht, hl => by
    simp only [List.length_cons, Nat.add_mul] at hl
    have e1 := lput_turn h hN.2 A (ht t (by simp)) z acc (by omega)
    have := (ap_ok h hN.1 (ht t (by simp))).2.1
    obtain ⟨x3', e2⟩ := lput_loop h hN A z ts (acc ++ ap kvs t) (.o (.im t)) (fun u hu => ht u (by simp [hu])) (by rw [List.length_append]; omega)
    rw [List.append_assoc] at e2
    exact ⟨x3', by simp [e1, e2]⟩
theorem lput_ok {w : Int} {N : Nat} {kvs : List (Key × T)} (h : TB w N kvs) (hN : 1 ≤ N ∧ N ≤ 1000000) {ts : List T} (ht : ∀ t ∈ ts, Node w t) (hl : ts.length * N ≤ 10000000) : m__law_put [.dk kvs, .im (.tup ts)] = .ok (.im (.tup (ts.flatMap (ap kvs)))) z0 := by
  obtain ⟨x3, e⟩ := lput_loop h hN (.b (.im (.tup ts))) z0 ts [] .un ht (by simpa using hl)
  rw [List.nil_append] at e
  simp [m__law_put, runP, c__law_put, e]
end Law

namespace Law
open PySem PySem.Spec PyProof.Rows L2 MM
/-! ### terms within terms -/
abbrev V1 (n : Int) : T := .tup [S "v", .int n]
def sub (l : List T) (a : Nat) : List T := (l.drop a).take ((l.drop a).length - (skip 1 (l.drop a)).length)
theorem need_take : ∀ {ts : List T} {m j : Nat}, need (m + j) ts = some 0 → need m (ts.take (ts.length - (skip m ts).length)) = some 0
  | ts, 0, j, h => by
    have : skip 0 ts = ts := by cases ts <;> rfl
    rw [this]; simp [need]
  | [], m + 1, j, h => by
    rw [show m + 1 + j = (m + j) + 1 by omega] at h
    simp [need] at h
  | t :: ts, m + 1, j, h => by
    have h' : need (m + arT t + j) ts = some 0 := by
      rw [show m + 1 + j = (m + j) + 1 by omega] at h
      have : need (m + j + arT t) ts = some 0 := h
      rwa [show m + j + arT t = m + arT t + j by omega] at this
    have ih := need_take h'
    have e : skip (m + 1) (t :: ts) = skip (m + arT t) ts := rfl
    have l := skip_len (ts := ts) (m := m + arT t)
    rw [e, List.length_cons, show ts.length + 1 - (skip (m + arT t) ts).length = (ts.length - (skip (m + arT t) ts).length) + 1 by omega, List.take_succ_cons]
    exact ih
theorem need_pre : ∀ {p s : List T} {m k : Nat}, need m (p ++ s) = some k → ∃ j, need m p = some j ∧ need j s = some k
  | [], s, m, k, h => ⟨m, rfl, h⟩
  | t :: p, s, 0, k, h => by cases h
  | t :: p, s, m + 1, k, h => need_pre (p := p) (m := m + arT t) h
/-- two terms, alike up to at -/
structure Pair (w : Int) (l r : List T) (at' : Nat) : Prop where
  lt : Term w l
  rt : Term w r
  le : at' ≤ l.length
  pre : l.take at' = r.take at'
section
variable {w : Int} {l r : List T} {a : Nat}
theorem Pair.more (h : Pair w l r a) (ha : a < l.length) : ∃ j x xs y ys, l.drop a = x :: xs ∧ r.drop a = y :: ys ∧ need (1 + j) (l.drop a) = some 0 ∧ need (1 + j) (r.drop a) = some 0 := by
  obtain ⟨j, e1, e2⟩ := need_pre (p := l.take a) (s := l.drop a) (by rw [List.take_append_drop]; exact h.lt.whole)
  obtain ⟨j', e3, e4⟩ := need_pre (p := r.take a) (s := r.drop a) (by rw [List.take_append_drop]; exact h.rt.whole)
  rw [← h.pre, e1] at e3
  cases e3
  obtain ⟨x, xs, ex⟩ : ∃ x xs, l.drop a = x :: xs := by
    cases e : l.drop a with
    | nil => have := congrArg List.length e; simp at this; omega
    | cons x xs => exact ⟨x, xs, rfl⟩
  cases j with
  | zero => rw [ex] at e2; cases e2
  | succ j =>
    rw [Nat.add_comm] at e2 e4
    obtain ⟨y, ys, ey, _⟩ := need_cons (m := j) (ts := r.drop a) (by rwa [Nat.add_comm] at e4)
    exact ⟨j, x, xs, y, ys, ex, ey, e2, e4⟩
theorem Pair.next (h : Pair w l r a) {x : T} {xs ys : List T} (e1 : l.drop a = x :: xs) (e2 : r.drop a = x :: ys) : Pair w l r (a + 1) := by
  have h1 := (atI_drop e1).2.2
  have h2 := (atI_drop e2).2.2
  refine ⟨h.lt, h.rt, h1, ?_⟩
  have g1 : l[a]? = some x := by
    have : (l.drop a)[0]? = some x := by rw [e1]; rfl
    simpa using this
  have g2 : r[a]? = some x := by
    have : (r.drop a)[0]? = some x := by rw [e2]; rfl
    simpa using this
  rw [List.take_add_one, List.take_add_one, h.pre, g1, g2]
theorem sub_tm (h : Term w l) {j : Nat} (e : need (1 + j) (l.drop a) = some 0) : Term w (sub l a) := ⟨fun t ht => h.nodes t (List.mem_of_mem_drop (List.mem_of_mem_take ht)), need_take e⟩
theorem sub_mem {t : T} (h : t ∈ sub l a) : t ∈ l := List.mem_of_mem_drop (List.mem_of_mem_take h)
theorem sub_len : (sub l a).length ≤ l.length := by
  unfold sub
  rw [List.length_take, List.length_drop]; omega
theorem sub_cons {x : T} {xs : List T} (e : l.drop a = x :: xs) : ∃ ys, sub l a = x :: ys := by
  unfold sub
  rw [e]
  have l' := skip_len (ts := xs) (m := arT x)
  have e' : skip 1 (x :: xs) = skip (0 + arT x) xs := rfl
  rw [e', Nat.zero_add, List.length_cons, show xs.length + 1 - (skip (arT x) xs).length = (xs.length - (skip (arT x) xs).length) + 1 by omega, List.take_succ_cons]
  exact ⟨_, rfl⟩
theorem sub_one {x : T} {xs : List T} (e : l.drop a = x :: xs) (hx : arT x = 0) : sub l a = [x] := by
  unfold sub
  rw [e]
  have e' : skip 1 (x :: xs) = xs := by
    show skip (0 + arT x) xs = xs
    rw [hx]; cases xs <;> rfl
  rw [e', List.length_cons, show xs.length + 1 - xs.length = 1 by omega]
  rfl
theorem sub_cut (ha : a ≤ l.length) : cut l (some (a : Int)) (some ((l.length - (skip 1 (l.drop a)).length : Nat) : Int)) = sub l a := by
  have h1 := skip_len (ts := l.drop a) (m := 1)
  rw [List.length_drop] at h1
  rw [cut_two (by omega) (by omega)]
  unfold sub
  rw [List.length_drop]
  congr 1
  omega
end
/-! ### one variable is replaced -/
def one (n : Int) (val : List T) : List (Key × T) := [(.inl n, .tup val)]
section
variable {w : Int} {n : Int} {val : List T}
theorem one_tb (h : Term w val) {N : Nat} (hl : val.length ≤ N) : TB w N (one n val) := fun p hp => by
  simp [one] at hp; subst hp; exact ⟨val, rfl, h, hl⟩
theorem ap_one {t : T} (ht : Node w t) : (t = V1 n ∧ ap (one n val) t = val) ∨ (t ≠ V1 n ∧ ap (one n val) t = [t]) := by
  cases ht with
  | @v m h1 h2 =>
    by_cases c : m = n
    · subst c; exact .inl ⟨rfl, by simp [ap, one, look]⟩
    · have : ¬ (T.tup [S "v", .int m] = V1 n) := fun e => by injection e with e; injection e with _ e; injection e with e; injection e with e; exact c e
      have c' : ¬ n = m := fun e => c e.symm
      exact .inr ⟨this, by simp [ap, one, look, c']⟩
  | f h1 h2 h3 =>
    exact .inr ⟨fun e => by simp at e, by simp [ap]⟩
  | i h1 h2 => exact .inr ⟨fun e => by simp at e, by simp [ap]⟩
def rp (n : Int) (val ts : List T) : List T := ts.flatMap (ap (one n val))
theorem rp_mem {ts : List T} (ht : ∀ t ∈ ts, Node w t) {u : T} (hu : u ∈ rp n val ts) : u ∈ val ∨ (u ∈ ts ∧ u ≠ V1 n) := by
  obtain ⟨t, h1, h2⟩ := List.mem_flatMap.mp hu
  rcases ap_one (n := n) (val := val) (ht t h1) with ⟨c, e⟩ | ⟨c, e⟩
  · rw [e] at h2; exact .inl h2
  · rw [e] at h2
    simp at h2; subst h2
    exact .inr ⟨h1, c⟩
theorem rp_tm (h : Term w val) {ts : List T} (ht : Term w ts) : Term w (rp n val ts) := by
  refine ⟨fun u hu => ?_, ap_need (one_tb h (Nat.le_add_left _ 1)) (by omega) (fun t h => (ht.nodes t h)) ht.whole⟩
  rcases rp_mem ht.nodes hu with q | q
  · exact h.nodes u q
  · exact ht.nodes u q.1
theorem rp_gone (hv : V1 n ∉ val) {ts : List T} (ht : ∀ t ∈ ts, Node w t) : V1 n ∉ rp n val ts := fun hu => by
  rcases rp_mem ht hu with q | q
  · exact hv q
  · exact q.2 rfl
theorem rp_long (h : Term w val) : ∀ {ts : List T}, (∀ t ∈ ts, Node w t) → ts.length ≤ (rp n val ts).length
  | [], _ => by simp
  | t :: ts, ht => by
    have := rp_long h (ts := ts) fun u hu => ht u (by simp [hu])
    have h2 : 1 ≤ (ap (one n val) t).length := by
      rcases ap_one (n := n) (val := val) (ht t (by simp)) with ⟨c, e⟩ | ⟨c, e⟩
      · rw [e]; exact List.length_pos_iff.mpr h.ne
      · rw [e]; simp
    show _ ≤ ((t :: ts).flatMap (ap (one n val))).length
    rw [List.flatMap_cons, List.length_append, List.length_cons]
    have e : (ts.flatMap (ap (one n val))) = rp n val ts := rfl
    rw [e]
    omega
theorem Pair.rp {l r : List T} {a : Nat} (h : Pair w l r a) (hv : Term w val) : Pair w (rp n val l) (rp n val r) a := by
  have g : a ≤ (Law.rp n val (l.take a)).length := by
    have := rp_long (n := n) hv (ts := l.take a) fun t ht => h.lt.nodes t (List.mem_of_mem_take ht)
    rw [List.length_take] at this
    have := h.le
    omega
  have split : ∀ ts : List T, Law.rp n val ts = Law.rp n val (ts.take a) ++ Law.rp n val (ts.drop a) := fun ts => by
    unfold Law.rp
    rw [← List.flatMap_append, List.take_append_drop]
  refine ⟨rp_tm hv h.lt, rp_tm hv h.rt, ?_, ?_⟩
  · rw [split, List.length_append]; omega
  · rw [split l, split r, ← h.pre, List.take_append_of_le_length g, List.take_append_of_le_length g]
end
/-! ### how many variables are left -/
theorem countP_lt {α : Type} {p q : α → Bool} : ∀ {xs : List α}, (∀ x ∈ xs, p x = true → q x = true) → (∃ x ∈ xs, q x = true ∧ p x = false) → xs.countP p < xs.countP q
  | [], _, h => by obtain ⟨_, h, _⟩ := h; simp at h
  | y :: xs, hp, ⟨x, hx, h1, h2⟩ => by
    have le : xs.countP p ≤ xs.countP q := List.countP_mono_left fun z hz => hp z (by simp [hz])
    rcases List.mem_cons.mp hx with rfl | hx
    · rw [List.countP_cons_of_pos h1, List.countP_cons_of_neg (by simp [h2])]; omega
    · have := countP_lt (xs := xs) (fun z hz => hp z (by simp [hz])) ⟨x, hx, h1, h2⟩
      by_cases c : p y = true
      · rw [List.countP_cons_of_pos c, List.countP_cons_of_pos (hp y (by simp) c)]; omega
      · rw [List.countP_cons_of_neg c]
        have := List.countP_cons (p := q) (a := y) (l := xs)
        omega
open Classical in
noncomputable def vn (U : List Int) (l r : List T) : Nat := U.countP fun k => decide (V1 k ∈ l ∨ V1 k ∈ r)
theorem vn_lt {U : List Int} {l r l' r' : List T} {n : Int} (hn : n ∈ U) (ho : V1 n ∈ l ∨ V1 n ∈ r) (gone : V1 n ∉ l' ∧ V1 n ∉ r') (old : ∀ k : Int, V1 k ∈ l' ∨ V1 k ∈ r' → V1 k ∈ l ∨ V1 k ∈ r) : vn U l' r' < vn U l r := by
  refine countP_lt (fun k _ h => ?_) ⟨n, hn, by simpa using ho, by simpa using gone⟩
  simp only [decide_eq_true_eq] at h ⊢
  exact old k h
end Law


namespace Law
open PySem PySem.Spec PyProof.Rows L2 MM
theorem Node.eqv {w : Int} {t u : T} (h1 : Node w t) (h2 : Node w u) (e : T.eqv t u = true) : t = u := eqv_node h1 h2 e
theorem dep_tm {w : Int} {ts : List T} (h : ∀ t ∈ ts, Node w t) : depS ts ≤ 1 := depS_nodes fun t ht => (h t ht)
/-- n occurs -/
theorem occ_iff {w : Int} {n : Int} (hn : 0 ≤ n ∧ n < w) {ts : List T} (h : ∀ t ∈ ts, Node w t) : (ts.any fun z => T.eqv z (.tup [S "v", .int n])) = true ↔ V1 n ∈ ts := by
  rw [List.any_eq_true]
  constructor
  · rintro ⟨t, ht, e⟩
    have := (h t ht).eqv (.v hn.1 hn.2) e
    subst this; exact ht
  · intro ht
    exact ⟨_, ht, eqv_refl _⟩
def pairT : Option (Int × List T) → T
  | none => .non
  | some (n, val) => .tup [.int n, .tup val]
/-- what is bound where the terms differ first -/
structure BindOk (w : Int) (l r : List T) (n : Int) (val : List T) : Prop where
  n0 : 0 ≤ n
  n1 : n < w
  tm : Term w val
  no : V1 n ∉ val
  oc : V1 n ∈ l ∨ V1 n ∈ r
  sb : ∀ u ∈ val, u ∈ l ∨ u ∈ r
  le : val.length ≤ max l.length r.length
noncomputable def tailL : MS := (sSeq (sSet 6 (eDisp (eIx (eV 5) (eC (.int 0))) (eIx (eV 5) (eC (.int 1)))))
  (sSeq (sSet 0 (eCall m__law_put (aCons (eV 6) (aCons (eV 0) aNil))))
  (sSeq (sSet 1 (eCall m__law_put (aCons (eV 6) (aCons (eV 1) aNil))))
  (sSeq (sSet 7 (eMax3 (aCons (eLen (aCons (eV 0) aNil)) (aCons (eLen (aCons (eV 1) aNil)) (aCons (eLen (aCons (eIx (eV 5) (eC (.int 1))) aNil)) aNil)))))
  (sSeq (sFor (eListD (aCons (eV 3) aNil)) (gN 8) b__law_unify_1)
  (sSeq (sPut 3 (eIx (eV 5) (eC (.int 0))) (eIx (eV 5) (eC (.int 1))))
  (sIf (tCp oGt (eV 7) (eV 2)) (sRet (eIm (eC (.str (Str.ofString "large"))))) sNil)))))))
noncomputable def headL (tl : MS) : MS := (sIf (tCp (oEq false) (eIx (eV 0) (eV 4)) (eIx (eV 1) (eV 4))) (sSet 4 (eAdd (eV 4) (eC (.int 1)))) (sSeq (sSet 5 (eCall m__law_bound (aCons (eV 0) (aCons (eV 1) (aCons (eV 4) aNil)))))
  (sSeq (sIf (tCp oIs (eV 5) (eC .non)) (sRet (eIm (eC .non))) sNil)
  tl)))
theorem bL_eq : b__law_unify_2 = headL tailL := rfl
noncomputable def tailP : MS := (sSeq (sSet 6 (eDisp (eIx (eV 5) (eC (.int 0))) (eIx (eV 5) (eC (.int 1)))))
  (sSeq (sSet 0 (eCall m_apply (aCons (eV 6) (aCons (eV 0) aNil))))
  (sSeq (sSet 1 (eCall m_apply (aCons (eV 6) (aCons (eV 1) aNil))))
  (sSeq (sSet 3 (eDcD 3 8 tYs (eV 8) e_unify_1))
  (sSeq (sPut 3 (eIx (eV 5) (eC (.int 0))) (eIx (eV 5) (eC (.int 1))))
  (sSeq (sSet 7 (eAdd (eLst (aCons (eLen (aCons (eV 0) aNil)) (aCons (eLen (aCons (eV 1) aNil)) aNil))) (eLcD 3 8 tYs e_unify_2)))
  (sIf (tCp oGt (eMaxL (aCons (eV 7) aNil)) (eV 2)) (sRaise "TooLarge") sNil)))))))
noncomputable def headP (tl : MS) : MS := (sSeq (sIf (tCp (oEq false) (eIx (eV 0) (eV 4)) (eIx (eV 1) (eV 4))) (sSeq (sAug oAddI 4 (eC (.int 1)))
  sCt) sNil)
  (sSeq (sSet 5 (eCall m_binding (aCons (eV 0) (aCons (eV 1) (aCons (eV 4) aNil)))))
  (sSeq (sIf (tCp oIs (eV 5) (eC .non)) (sRet (eIm (eC .non))) sNil)
  tl)))
theorem bP_eq : b_unify_3 = headP tailP := rfl

section
variable {w : Int} {l r : List T} {a : Nat}
set_option maxHeartbeats 4000000 in
/-- the two terms differ at a: what is bound, by the program and by the law -/
theorem bind_ok (h : Pair w l r a) {x y : T} {xs ys : List T} (ex : l.drop a = x :: xs) (ey : r.drop a = y :: ys) {j : Nat} (nl : need (1 + j) (l.drop a) = some 0) (nr : need (1 + j) (r.drop a) = some 0) (ne : T.eqv x y = false) :
    ∃ o, (∀ n val, o = some (n, val) → BindOk w l r n val) ∧ m_binding [.im (.tup l), .im (.tup r), .im (.int (a : Int))] = .ok (.im (pairT o)) z0 ∧ m__law_bound [.im (.tup l), .im (.tup r), .im (.int (a : Int))] = .ok (.im (pairT o)) z0 := by
  obtain ⟨ax, _, hla⟩ := atI_drop ex
  obtain ⟨ay, _, hra⟩ := atI_drop ey
  have hx : Node w x := h.lt.nodes x (List.mem_of_mem_drop (by rw [ex]; simp))
  have hy : Node w y := h.rt.nodes y (List.mem_of_mem_drop (by rw [ey]; simp))
  have mx : x ∈ l := List.mem_of_mem_drop (by rw [ex]; simp)
  have my : y ∈ r := List.mem_of_mem_drop (by rw [ey]; simp)
  have vx := var_eq hx
  have vy := var_eq hy
  have ux := lvar_eq hx
  have uy := lvar_eq hy
  have el := eof_ok h.lt.nodes (Nat.le_of_lt hla) j nl
  have er := eof_ok h.rt.nodes (Nat.le_of_lt hra) j nr
  have ll := lend_ok h.lt.nodes (Nat.le_of_lt hla) j nl
  have lr := lend_ok h.rt.nodes (Nat.le_of_lt hra) j nr
  have cl := sub_cut (l := l) (Nat.le_of_lt hla)
  have cr := sub_cut (l := r) (Nat.le_of_lt hra)
  have tl := sub_tm h.lt nl
  have tr := sub_tm h.rt nr
  have sl := sub_len (l := l) (a := a)
  have sr := sub_len (l := r) (a := a)
  generalize hL : ((l.length - (skip 1 (l.drop a)).length : Nat) : Int) = eL at *
  generalize hR : ((r.length - (skip 1 (r.drop a)).length : Nat) : Int) = eR at *
  have one : ∀ {n : Int}, x = V1 n → 0 ≤ n → n < w → m_is_variable [.im y] = .ok (.im (.bl false)) z0 → m__law_is_variable [.im y] = .ok (.im (.bl false)) z0 → ∃ o, (∀ n val, o = some (n, val) → BindOk w l r n val) ∧ m_binding [.im (.tup l), .im (.tup r), .im (.int (a : Int))] = .ok (.im (pairT o)) z0 ∧ m__law_bound [.im (.tup l), .im (.tup r), .im (.int (a : Int))] = .ok (.im (pairT o)) z0 := by
    intro n en n0 n1 vy uy
    subst en
    simp at vx ux
    have oc := occ_iff ⟨n0, n1⟩ tr.nodes
    have dp := dep_tm tr.nodes
    have d : min (depS (sub r a)) 1 ≤ 64 := by omega
    cases c : (sub r a).any fun z => T.eqv z (.tup [S "v", .int n]) with
    | true =>
      refine ⟨none, by simp, ?_, ?_⟩
      · simp [m_binding, runP, c_binding, ax, ay, vx, vy, er, cr, c, pairT, d]
      · simp [m__law_bound, runP, c__law_bound, ax, ay, ux, uy, lr, cr, c, pairT, d]
    | false =>
      refine ⟨some (n, sub r a), fun n' val e => ?_, ?_, ?_⟩
      · cases e
        exact ⟨n0, n1, tr, fun q => (by rw [oc.mpr q] at c; cases c), .inl mx, fun u hu => .inr (sub_mem hu), by omega⟩
      · simp [m_binding, runP, c_binding, ax, ay, vx, vy, er, cr, c, pairT, d]
      · simp [m__law_bound, runP, c__law_bound, ax, ay, ux, uy, lr, cr, c, pairT, d]
  have two : ∀ {n : Int}, y = V1 n → 0 ≤ n → n < w → m_is_variable [.im x] = .ok (.im (.bl false)) z0 → m__law_is_variable [.im x] = .ok (.im (.bl false)) z0 → ∃ o, (∀ n val, o = some (n, val) → BindOk w l r n val) ∧ m_binding [.im (.tup l), .im (.tup r), .im (.int (a : Int))] = .ok (.im (pairT o)) z0 ∧ m__law_bound [.im (.tup l), .im (.tup r), .im (.int (a : Int))] = .ok (.im (pairT o)) z0 := by
    intro n en n0 n1 vx ux
    subst en
    simp at vy uy
    have oc := occ_iff ⟨n0, n1⟩ tl.nodes
    have dp := dep_tm tl.nodes
    have d : min (depS (sub l a)) 1 ≤ 64 := by omega
    cases c : (sub l a).any fun z => T.eqv z (.tup [S "v", .int n]) with
    | true =>
      refine ⟨none, by simp, ?_, ?_⟩
      · simp [m_binding, runP, c_binding, ax, ay, vx, vy, el, cl, c, pairT, d]
      · simp [m__law_bound, runP, c__law_bound, ax, ay, ux, uy, ll, cl, c, pairT, d]
    | false =>
      refine ⟨some (n, sub l a), fun n' val e => ?_, ?_, ?_⟩
      · cases e
        exact ⟨n0, n1, tl, fun q => (by rw [oc.mpr q] at c; cases c), .inr my, fun u hu => .inl (sub_mem hu), by omega⟩
      · simp [m_binding, runP, c_binding, ax, ay, vx, vy, el, cl, c, pairT, d]
      · simp [m__law_bound, runP, c__law_bound, ax, ay, ux, uy, ll, cl, c, pairT, d]
  have no : m_is_variable [.im x] = .ok (.im (.bl false)) z0 → m__law_is_variable [.im x] = .ok (.im (.bl false)) z0 → m_is_variable [.im y] = .ok (.im (.bl false)) z0 → m__law_is_variable [.im y] = .ok (.im (.bl false)) z0 → ∃ o, (∀ n val, o = some (n, val) → BindOk w l r n val) ∧ m_binding [.im (.tup l), .im (.tup r), .im (.int (a : Int))] = .ok (.im (pairT o)) z0 ∧ m__law_bound [.im (.tup l), .im (.tup r), .im (.int (a : Int))] = .ok (.im (pairT o)) z0 := by
    intro vx ux vy uy
    refine ⟨none, by simp, ?_, ?_⟩
    · simp [m_binding, runP, c_binding, ax, ay, vx, vy, pairT]
    · simp [m__law_bound, runP, c__law_bound, ax, ay, ux, uy, pairT]
  cases hx with
  | @v n n0 n1 =>
    cases hy with
    | @v m m0 m1 =>
      simp at vx vy ux uy ne
      have hw : ∀ {p q : Int}, 0 ≤ p → p < w → 0 ≤ q → q < w → p ≠ q → (V1 p ∈ l ∨ V1 p ∈ r) → (V1 q ∈ l ∨ V1 q ∈ r) → ∀ n val, some (p, [V1 q]) = some (n, val) → BindOk w l r n val := fun {p q} p0 p1 q0 q1 pq hp hq n val e => by
        cases e
        refine ⟨p0, p1, ⟨fun t ht => by simp at ht; subst ht; exact .v q0 q1, rfl⟩, fun hm => ?_, hp, fun u hu => by simp at hu; subst hu; exact hq, by simp; omega⟩
        simp at hm; exact pq hm
      by_cases c : n < m
      · have hmm : ¬ m < n := by omega
        refine ⟨some (m, [V1 n]), hw m0 m1 n0 n1 (by omega) (.inr my) (.inl mx), ?_, ?_⟩
        · simp [m_binding, runP, c_binding, ax, ay, vx, vy, c, hmm, pairT]
        · simp [m__law_bound, runP, c__law_bound, ax, ay, ux, uy, c, hmm, pairT]
      · have hmm : m < n := by omega
        refine ⟨some (n, [V1 m]), hw n0 n1 m0 m1 (by omega) (.inl mx) (.inr my), ?_, ?_⟩
        · simp [m_binding, runP, c_binding, ax, ay, vx, vy, c, hmm, pairT]
        · simp [m__law_bound, runP, c__law_bound, ax, ay, ux, uy, c, hmm, pairT]
    | f h1 h2 h3 => exact one rfl n0 n1 (by simpa using vy) (by simpa using uy)
    | i h1 h2 => exact one rfl n0 n1 (by simpa using vy) (by simpa using uy)
  | f h1 h2 h3 =>
    cases hy with
    | @v m m0 m1 => exact two rfl m0 m1 (by simpa using vx) (by simpa using ux)
    | f h1' h2' h3' => exact no (by simpa using vx) (by simpa using ux) (by simpa using vy) (by simpa using uy)
    | i h1' h2' => exact no (by simpa using vx) (by simpa using ux) (by simpa using vy) (by simpa using uy)
  | i h1 h2 =>
    cases hy with
    | @v m m0 m1 => exact two rfl m0 m1 (by simpa using vx) (by simpa using ux)
    | f h1' h2' h3' => exact no (by simpa using vx) (by simpa using ux) (by simpa using vy) (by simpa using uy)
    | i h1' h2' => exact no (by simpa using vx) (by simpa using ux) (by simpa using vy) (by simpa using uy)
end
end Law

namespace Law
open PySem PySem.Spec PyProof.Rows L2 MM
/-! ### what is bound so far -/
structure KV (w : Int) (N : Nat) (kvs : List (Key × T)) : Prop where
  at_ : ∀ p ∈ kvs, ∃ (i : Int) (us : List T), p = (.inl i, .tup us) ∧ Term w us ∧ us.length ≤ N
  nd : (kvs.map (·.1)).Nodup
def rpT (n : Int) (val : List T) : T → T
  | .tup us => .tup (rp n val us)
  | t => t
def rk (n : Int) (val : List T) (p : Key × T) : Key × T := (p.1, rpT n val p.2)
def lenT : T → Int
  | .tup us => (us.length : Int)
  | _ => 0
def szs (kvs : List (Key × T)) : List Int := kvs.map fun p => lenT p.2
theorem rk_keys (n : Int) (val : List T) (kvs : List (Key × T)) : (kvs.map (rk n val)).map (·.1) = kvs.map (·.1) := by
  rw [List.map_map]; rfl
theorem putT_upd {kvs : List (Key × T)} {k : Key} {u : T} (hk : k ∈ kvs.map (·.1)) : putT kvs k u = kvs.map fun kv => if kv.1 = k then (kv.1, u) else kv := by
  unfold putT
  rw [if_pos]
  rw [List.any_eq_true]
  obtain ⟨p, hp, e⟩ := List.mem_map.mp hk
  exact ⟨p, hp, by simpa using e⟩
theorem nd_put {kvs : List (Key × T)} {k : Key} {u : T} (h : (kvs.map (·.1)).Nodup) : ((putT kvs k u).map (·.1)).Nodup := by
  by_cases c : k ∈ kvs.map (·.1)
  · rw [putT_upd c, List.map_map]
    have : ((fun x => x.1) ∘ fun kv : Key × T => if kv.1 = k then (kv.1, u) else kv) = fun x => x.1 := by
      funext p; simp only [Function.comp]; split <;> rfl
    rw [this]; exact h
  · rw [putT_new (not_look c), List.map_append]
    refine List.nodup_append.mpr ⟨h, by simp, fun a ha b hb => ?_⟩
    simp at hb; subst hb
    exact fun e => c (e ▸ ha)
theorem mem_put {kvs : List (Key × T)} {k : Key} {u : T} {p : Key × T} (h : p ∈ putT kvs k u) : p ∈ kvs ∨ p = (k, u) := by
  by_cases c : k ∈ kvs.map (·.1)
  · rw [putT_upd c] at h
    obtain ⟨q, hq, rfl⟩ := List.mem_map.mp h
    split
    · rename_i e; right; rw [← e]
    · exact .inl hq
  · rw [putT_new (not_look c)] at h
    simpa using h
theorem len_put {kvs : List (Key × T)} {k : Key} {u : T} : (putT kvs k u).length ≤ kvs.length + 1 := by
  unfold putT; split <;> simp
section
variable {w : Int} {N M : Nat} {kvs : List (Key × T)} {n : Int} {val : List T}
theorem rp_le (hv : Term w val) (hM : 1 ≤ M) (hl : val.length ≤ M) {ts : List T} (ht : ∀ t ∈ ts, Node w t) : (rp n val ts).length ≤ ts.length * M := ap_len (one_tb hv hl) hM fun t h => (ht t h)
theorem KV.rk (h : KV w N kvs) (hv : Term w val) (hM : 1 ≤ M) (hl : val.length ≤ M) : KV w (N * M) (kvs.map (Law.rk n val)) := by
  refine ⟨fun p hp => ?_, by rw [rk_keys]; exact h.nd⟩
  obtain ⟨q, hq, rfl⟩ := List.mem_map.mp hp
  obtain ⟨i, us, rfl, t, l⟩ := h.at_ q hq
  exact ⟨i, rp n val us, rfl, rp_tm hv t, Nat.le_trans (rp_le hv hM hl t.nodes) (Nat.mul_le_mul_right M l)⟩
theorem KV.put (h : KV w N kvs) (hv : Term w val) (hl : val.length ≤ N) : KV w N (putT kvs (.inl n) (.tup val)) := by
  refine ⟨fun p hp => ?_, nd_put h.nd⟩
  rcases mem_put hp with q | rfl
  · exact h.at_ p q
  · exact ⟨n, val, rfl, hv, hl⟩
theorem pap1 (hv : Term w val) (hl : val.length ≤ 3000) {ts : List T} (ht : ∀ t ∈ ts, Node w t) (h : ts.length ≤ 3000) : m_apply [.dk [(.inl n, .tup val)], .im (.tup ts)] = .ok (.im (.tup (rp n val ts))) z0 :=
  pap_ok (one_tb (n := n) hv hl) ⟨by decide, by decide⟩ (fun t q => (ht t q)) (Nat.le_trans (Nat.mul_le_mul_right 3000 h) (by decide))
theorem lap1 (hv : Term w val) (hl : val.length ≤ 3000) {ts : List T} (ht : ∀ t ∈ ts, Node w t) (h : ts.length ≤ 3000) : m__law_put [.dk [(.inl n, .tup val)], .im (.tup ts)] = .ok (.im (.tup (rp n val ts))) z0 :=
  lput_ok (one_tb (n := n) hv hl) ⟨by decide, by decide⟩ (fun t q => (ht t q)) (Nat.le_trans (Nat.mul_le_mul_right 3000 h) (by decide))
/-- the program's table with the new value within -/
theorem dc_rk (h : KV w N kvs) (hN : N ≤ 3000) (hv : Term w val) (hl : val.length ≤ 3000) (hk : kvs.length ≤ 500) (x0 x1 x2 x4 x5 x7 : Sv) (z : Zs) :
    dcT 8 tYs (eV 8) e_unify_1 [x0, x1, x2, .lk (.dk kvs), x4, x5, .o (.dk [(.inl n, .tup val)]), x7, .un] (kvs.map fun p => kyT p.1) [] z = .ok (.dk (kvs.map (Law.rk n val))) z := by
  have := dc_flat (j := 8) (c := tYs) (mk := eV 8) (mv := e_unify_1) (S0 := [x0, x1, x2, .lk (.dk kvs), x4, x5, .o (.dk [(.inl n, .tup val)]), x7, .un]) (by simp) z (h := fun p => [Law.rk n val p]) (fun p q hq => by simp at hq; subst hq; rfl) (fs := kvs) (acc := []) h.nd (fun _ _ => rfl)
    (fun p hp => by
      right
      obtain ⟨i, us, rfl, t, l⟩ := h.at_ p hp
      have lk := look_mem h.nd hp
      have e := pap1 (n := n) hv hl t.nodes (by omega)
      exact ⟨.tup (rp n val us), rfl, rfl, by simp [kyT], by simp [e_unify_1, kyT, T.key?, lk, e]⟩) (by simp; omega)
  rw [this]
  congr 2
  rw [List.nil_append]
  clear this
  induction kvs with
  | nil => rfl
  | cons p kvs ih => simp [List.flatMap_cons] ; exact ih ⟨fun q hq => h.at_ q (by simp [hq]), by have := h.nd; simp at this; exact this.2⟩ (by simp at hk; omega)
/-- the law's -/
theorem put_rk (h : KV w N kvs) (hN : N ≤ 3000) (hv : Term w val) (hl : val.length ≤ 3000) (hk : kvs.length ≤ 500) (x0 x1 x2 x4 x5 : Sv) (z : Zs) : ∀ (rest done : List (Key × T)) (s : Int) (x8 x9 : Sv), kvs = done ++ rest →
    ∃ x8' x9', sTurns (gN 8) b__law_unify_1 (rest.map fun p => kyT p.1) [x0, x1, x2, .o (.dk (done.map (Law.rk n val) ++ rest)), x4, x5, .o (.dk [(.inl n, .tup val)]), .o (.im (.int s)), x8, x9] z = .nx [x0, x1, x2, .o (.dk (kvs.map (Law.rk n val))), x4, x5, .o (.dk [(.inl n, .tup val)]), .o (.im (.int ((szs (rest.map (Law.rk n val))).foldl max s))), x8', x9'] z
  | [], done, s, x8, x9, e => ⟨x8, x9, by simp at e; subst e; simp [szs]⟩
  | p :: rest, done, s, x8, x9, e => by
    obtain ⟨i, us, rfl, t, l⟩ := h.at_ p (by rw [e]; simp)
    have nd : ((done.map (Law.rk n val) ++ (Sum.inl i, T.tup us) :: rest).map (·.1)).Nodup := by
      rw [List.map_append, rk_keys, ← List.map_append, ← e]; exact h.nd
    have lk := look_mem nd (p := (Sum.inl i, T.tup us)) (by simp)
    have ea := lap1 (n := n) hv hl t.nodes (by omega)
    have ep : putT (done.map (Law.rk n val) ++ (Sum.inl i, T.tup us) :: rest) (.inl i) (.tup (rp n val us)) = (done ++ [(Sum.inl i, T.tup us)]).map (Law.rk n val) ++ rest := by
      rw [putT_upd (by simp)]
      rw [List.map_append, List.nodup_append, List.map_cons, List.nodup_cons] at nd
      obtain ⟨n1, ⟨n2, n3⟩, n4⟩ := nd
      have same : ∀ xs : List (Key × T), (Sum.inl i : Key) ∉ xs.map (·.1) → (xs.map fun kv => if kv.1 = Sum.inl i then (kv.1, T.tup (rp n val us)) else kv) = xs := fun xs hx => by
        conv => rhs; rw [← List.map_id xs]
        refine List.map_congr_left fun q hq => ?_
        rw [if_neg fun c => hx (by rw [← c]; exact List.mem_map_of_mem hq)]; rfl
      rw [List.map_append, List.map_cons, same _ (fun c => n4 _ c _ (by simp) rfl), same _ n2]
      simp [Law.rk, rpT]
    have hlen : (done.map (Law.rk n val) ++ (Sum.inl i, T.tup us) :: rest).length < 16777216 := by
      have := congrArg List.length e
      simp at this ⊢
      omega
    obtain ⟨x8', x9', e2⟩ := put_rk h hN hv hl hk x0 x1 x2 x4 x5 z rest (done ++ [(Sum.inl i, T.tup us)]) (max s ((rp n val us).length : Int)) (.o (.im (.int i))) (.o (.im (.tup (rp n val us)))) (by rw [e]; simp)
    refine ⟨x8', x9', ?_⟩
    have eg : gN 8 (kyT (Sum.inl i)) [x0, x1, x2, .o (.dk (done.map (Law.rk n val) ++ (Sum.inl i, T.tup us) :: rest)), x4, x5, .o (.dk [(.inl n, .tup val)]), .o (.im (.int s)), x8, x9] = some [x0, x1, x2, .o (.dk (done.map (Law.rk n val) ++ (Sum.inl i, T.tup us) :: rest)), x4, x5, .o (.dk [(.inl n, .tup val)]), .o (.im (.int s)), .o (.im (.int i)), x9] := rfl
    have e1 : b__law_unify_1 [x0, x1, x2, .o (.dk (done.map (Law.rk n val) ++ (Sum.inl i, T.tup us) :: rest)), x4, x5, .o (.dk [(.inl n, .tup val)]), .o (.im (.int s)), .o (.im (.int i)), x9] z = .nx [x0, x1, x2, .o (.dk ((done ++ [(Sum.inl i, T.tup us)]).map (Law.rk n val) ++ rest)), x4, x5, .o (.dk [(.inl n, .tup val)]), .o (.im (.int (max s ((rp n val us).length : Int)))), .o (.im (.int i)), .o (.im (.tup (rp n val us)))] z := by
      generalize hL : done.map (Law.rk n val) ++ (Sum.inl i, T.tup us) :: rest = L at *
      simp only [b__law_unify_1]
      simp [T.key?, lk, ea, ep, hlen]
      split <;> omega
    have em : szs (((Sum.inl i, T.tup us) :: rest).map (Law.rk n val)) = ((rp n val us).length : Int) :: szs (rest.map (Law.rk n val)) := rfl
    rw [em, List.foldl_cons]
    simp only [List.map_cons, sTurns, eg, e1, e2]
theorem sz_lc (h : KV w N kvs) (hk : kvs.length ≤ 500) (m : ME) (S0 : List Sv) (hS : 8 < S0.length) (z : Zs) (hm : ∀ i us, look kvs (.inl i) = some (.tup us) → m (S0.set 8 (.o (.im (.int i)))) z = .ok (.im (.int (us.length : Int))) z) : lcT 8 tYs m S0 (kvs.map fun p => kyT p.1) [] z = .ok (.il ((szs kvs).map .int)) z := by
  have := lc_mapF (j := 8) (m := m) (S0 := S0) hS (fun p : Key × T => kyT p.1) (fun p => .int (lenT p.2)) z (ts := kvs) (acc := []) (fun p hp => by
    obtain ⟨i, us, rfl, t, l⟩ := h.at_ p hp
    exact hm i us (look_mem h.nd hp)) (by simp; omega)
  rw [this]
  simp [szs]
end
theorem maxI_gt {ns : List Int} (h : ns ≠ []) (b : Int) : b < maxI ns ↔ ∃ n ∈ ns, b < n := by
  obtain ⟨a, c⟩ := maxI_mem h
  exact ⟨fun q => ⟨_, a, q⟩, fun ⟨n, hn, q⟩ => Int.lt_of_lt_of_le q (c n hn)⟩
end Law


namespace Law
open PySem PySem.Spec PyProof.Rows L2 MM
theorem ints_map : ∀ l : List Int, ints? (l.map .int) = some l
  | [] => rfl
  | i :: l => by simp [ints?, ints_map l]
/-- a term or a value is too large -/
def Big (bd : Nat) (l r : List T) (kvs : List (Key × T)) : Prop := bd < l.length ∨ bd < r.length ∨ ∃ x ∈ szs kvs, (bd : Int) < x
section
variable {w : Int} {bd : Nat} {l r : List T} {a : Nat} {kvs : List (Key × T)} {n : Int} {val : List T}
def kv2 (n : Int) (val : List T) (kvs : List (Key × T)) : List (Key × T) := putT (kvs.map (rk n val)) (.inl n) (.tup val)
theorem kv2_len : (kv2 n val kvs).length ≤ kvs.length + 1 := by
  have := len_put (kvs := kvs.map (rk n val)) (k := .inl n) (u := .tup val)
  simpa [kv2] using this
theorem kv2_ok (h : KV w bd kvs) (hv : Term w val) (hb : 1 ≤ bd) (hl : val.length ≤ bd) : KV w (bd * bd) (kv2 n val kvs) := (h.rk hv hb hl).put hv (Nat.le_trans hl (Nat.le_mul_of_pos_right bd hb))
theorem kOk_all (h : KV w bd kvs) : (kvs.all fun kv => kOk kv.1) = true := by
  rw [List.all_eq_true]
  intro p hp
  obtain ⟨i, us, rfl, _⟩ := h.at_ p hp
  rfl
set_option maxHeartbeats 4000000 in
theorem tailP_ok (tl : Term w l) (tr : Term w r) (hl : l.length ≤ bd) (hr : r.length ≤ bd) (h : KV w bd kvs) (hk : kvs.length ≤ 400) (hv : Term w val) (hvl : val.length ≤ bd) (hb : 1 ≤ bd ∧ bd ≤ 3000) (A B : Sv) (hA : A = .b (.im (.tup l)) ∨ A = .o (.im (.tup l))) (hB : B = .b (.im (.tup r)) ∨ B = .o (.im (.tup r))) (x6 x7 : Sv) (z : Zs) :
    ∃ S', S' = [.o (.im (.tup (rp n val l))), .o (.im (.tup (rp n val r))), .o (.im (.int bd)), .o (.dk (kv2 n val kvs)), .o (.im (.int (a : Int))), .o (.im (.tup [.int n, .tup val])), .o (.dk [(.inl n, .tup val)]), .o (.il (.int ((rp n val l).length : Int) :: .int ((rp n val r).length : Int) :: (szs (kv2 n val kvs)).map .int)), .un] ∧
      (Big bd (rp n val l) (rp n val r) (kv2 n val kvs) → tailP [A, B, .o (.im (.int bd)), .o (.dk kvs), .o (.im (.int (a : Int))), .o (.im (.tup [.int n, .tup val])), x6, x7, .un] z = .xc ⟨"TooLarge", none⟩ S' z) ∧
      (¬ Big bd (rp n val l) (rp n val r) (kv2 n val kvs) → tailP [A, B, .o (.im (.int bd)), .o (.dk kvs), .o (.im (.int (a : Int))), .o (.im (.tup [.int n, .tup val])), x6, x7, .un] z = .nx S' z) := by
  have e1 := pap1 (n := n) hv (by omega) tl.nodes (by omega)
  have e2 := pap1 (n := n) hv (by omega) tr.nodes (by omega)
  have e3 := dc_rk (n := n) h (by omega) hv (by omega) (by omega) (.o (.im (.tup (rp n val l)))) (.o (.im (.tup (rp n val r)))) (.o (.im (.int bd))) (.o (.im (.int (a : Int)))) (.o (.im (.tup [.int n, .tup val]))) x7 z
  have k2 := kv2_ok (n := n) h hv hb.1 hvl
  have kl : (kv2 n val kvs).length ≤ 401 := Nat.le_trans kv2_len (by omega)
  have e4 := sz_lc k2 (by omega) e_unify_2 [.o (.im (.tup (rp n val l))), .o (.im (.tup (rp n val r))), .o (.im (.int bd)), .lk (.dk (kv2 n val kvs)), .o (.im (.int (a : Int))), .o (.im (.tup [.int n, .tup val])), .o (.dk [(.inl n, .tup val)]), x7, .un] (by simp) z (fun i us lk => by simp [e_unify_2, T.key?, lk])
  have ko : keysV (.dk kvs) = some (kvs.map fun p => kyT p.1) := by simp [keysV, kOk_all h]
  have ko2 : keysV (.dk (kv2 n val kvs)) = some ((kv2 n val kvs).map fun p => kyT p.1) := by simp [keysV, kOk_all k2]
  have sl : ((szs (kv2 n val kvs)).map T.int).length ≤ 401 := by simpa [szs] using kl
  have hk' : (kvs.map (rk n val)).length < 16777216 := by simp; omega
  have ei : ints? (T.int ((rp n val l).length : Int) :: T.int ((rp n val r).length : Int) :: (szs (kv2 n val kvs)).map T.int) = some (((rp n val l).length : Int) :: ((rp n val r).length : Int) :: szs (kv2 n val kvs)) := by simp [ints?, ints_map]
  have ep : putT (kvs.map (rk n val)) (.inl n) (.tup val) = kv2 n val kvs := rfl
  have big : (bd : Int) < maxI (((rp n val l).length : Int) :: ((rp n val r).length : Int) :: szs (kv2 n val kvs)) ↔ Big bd (rp n val l) (rp n val r) (kv2 n val kvs) := by
    rw [maxI_gt (by simp)]
    simp [Big]
  refine ⟨_, rfl, fun hB' => ?_, fun hB' => ?_⟩
  · have b := big.mpr hB'
    clear big
    generalize hSz : szs (kv2 n val kvs) = Z at *
    generalize hK : kv2 n val kvs = K at *
    generalize hM : kvs.map (rk n val) = M at *
    generalize hL : rp n val l = l' at *
    generalize hR : rp n val r = r' at *
    have sl' : Z.length ≤ 401 := by simpa using sl
    rcases hA with rfl | rfl <;> rcases hB with rfl | rfl <;> simp [tailP, T.key?, e1, e2, e3, e4, ko, ko2, -keysV, wipS, ep, hk', ei, b, show Z.length ≤ 16777214 by omega, show Z.length + 2 ≤ 16777216 by omega, show 2 + Z.length ≤ 16777216 by omega]
  · have b : ¬ (bd : Int) < _ := fun q => hB' (big.mp q)
    clear big
    generalize hSz : szs (kv2 n val kvs) = Z at *
    generalize hK : kv2 n val kvs = K at *
    generalize hM : kvs.map (rk n val) = M at *
    generalize hL : rp n val l = l' at *
    generalize hR : rp n val r = r' at *
    have sl' : Z.length ≤ 401 := by simpa using sl
    rcases hA with rfl | rfl <;> rcases hB with rfl | rfl <;> simp [tailP, T.key?, e1, e2, e3, e4, ko, ko2, -keysV, wipS, ep, hk', ei, b, show Z.length ≤ 16777214 by omega, show Z.length + 2 ≤ 16777216 by omega, show 2 + Z.length ≤ 16777216 by omega]
end
end Law


namespace Law
open PySem PySem.Spec PyProof.Rows L2 MM
theorem lt_mx {b s x : Int} : b < max s x ↔ b < s ∨ b < x := by omega
theorem fold_gt (b : Int) : ∀ (l : List Int) (s : Int), b < l.foldl max s ↔ b < s ∨ ∃ x ∈ l, b < x
  | [], s => by simp
  | x :: l, s => by
    rw [List.foldl_cons, fold_gt b l, lt_mx]
    constructor
    · rintro ((h | h) | ⟨y, hy, h⟩)
      · exact .inl h
      · exact .inr ⟨x, by simp, h⟩
      · exact .inr ⟨y, by simp [hy], h⟩
    · rintro (h | ⟨y, hy, h⟩)
      · exact .inl (.inl h)
      · rcases List.mem_cons.mp hy with rfl | hy
        · exact .inl (.inr h)
        · exact .inr ⟨y, hy, h⟩
section
variable {w : Int} {bd : Nat} {l r : List T} {a : Nat} {kvs : List (Key × T)} {n : Int} {val : List T}
set_option maxHeartbeats 4000000 in
theorem tailL_ok (tl : Term w l) (tr : Term w r) (hl : l.length ≤ bd) (hr : r.length ≤ bd) (h : KV w bd kvs) (hk : kvs.length ≤ 400) (hn : Sum.inl n ∉ kvs.map (·.1)) (hv : Term w val) (hvl : val.length ≤ bd) (hb : 1 ≤ bd ∧ bd ≤ 3000) (A B : Sv) (hA : A = .b (.im (.tup l)) ∨ A = .o (.im (.tup l))) (hB : B = .b (.im (.tup r)) ∨ B = .o (.im (.tup r))) (x6 x7 x8 x9 : Sv) (z : Zs) :
    ∃ S' s x8' x9', S' = [.o (.im (.tup (rp n val l))), .o (.im (.tup (rp n val r))), .o (.im (.int bd)), .o (.dk (kv2 n val kvs)), .o (.im (.int (a : Int))), .o (.im (.tup [.int n, .tup val])), .o (.dk [(.inl n, .tup val)]), .o (.im (.int s)), x8', x9'] ∧
      (Big bd (rp n val l) (rp n val r) (kv2 n val kvs) → tailL [A, B, .o (.im (.int bd)), .o (.dk kvs), .o (.im (.int (a : Int))), .o (.im (.tup [.int n, .tup val])), x6, x7, x8, x9] z = .rt (.im (S "large")) z) ∧
      (¬ Big bd (rp n val l) (rp n val r) (kv2 n val kvs) → tailL [A, B, .o (.im (.int bd)), .o (.dk kvs), .o (.im (.int (a : Int))), .o (.im (.tup [.int n, .tup val])), x6, x7, x8, x9] z = .nx S' z) := by
  have e1 := lap1 (n := n) hv (by omega) tl.nodes (by omega)
  have e2 := lap1 (n := n) hv (by omega) tr.nodes (by omega)
  obtain ⟨x8', x9', e3⟩ := put_rk (n := n) h (by omega) hv (by omega) (by omega) (.o (.im (.tup (rp n val l)))) (.o (.im (.tup (rp n val r)))) (.o (.im (.int bd))) (.o (.im (.int (a : Int)))) (.o (.im (.tup [.int n, .tup val]))) z kvs [] (max ((rp n val l).length : Int) (max ((rp n val r).length : Int) (val.length : Int))) x8 x9 rfl
  rw [List.map_nil, List.nil_append] at e3
  have ko := kOk_all h
  have hk' : (kvs.map (rk n val)).length < 16777216 := by simp; omega
  have ep : putT (kvs.map (rk n val)) (.inl n) (.tup val) = kv2 n val kvs := rfl
  have ek : szs (kv2 n val kvs) = szs (kvs.map (rk n val)) ++ [(val.length : Int)] := by
    unfold kv2
    rw [putT_new (not_look (by rw [rk_keys]; exact hn))]
    simp [szs, lenT]
  have big : (bd : Int) < (szs (kvs.map (rk n val))).foldl max (max ((rp n val l).length : Int) (max ((rp n val r).length : Int) (val.length : Int))) ↔ Big bd (rp n val l) (rp n val r) (kv2 n val kvs) := by
    rw [fold_gt, lt_mx, lt_mx]
    simp only [Big, ek, List.mem_append, List.mem_cons, List.not_mem_nil, or_false]
    constructor
    · rintro ((q | q | q) | ⟨x, q, g⟩)
      · exact .inl (by omega)
      · exact .inr (.inl (by omega))
      · exact .inr (.inr ⟨_, .inr rfl, q⟩)
      · exact .inr (.inr ⟨x, .inl q, g⟩)
    · rintro (g | g | ⟨x, (q | rfl), g⟩)
      · exact .inl (.inl (by omega))
      · exact .inl (.inr (.inl (by omega)))
      · exact .inr ⟨x, q, g⟩
      · exact .inl (.inr (.inr g))
  refine ⟨_, (szs (kvs.map (rk n val))).foldl max (max ((rp n val l).length : Int) (max ((rp n val r).length : Int) (val.length : Int))), x8', x9', rfl, fun hB' => ?_, fun hB' => ?_⟩
  · have b := big.mpr hB'
    clear big ek
    generalize hK : kv2 n val kvs = K at *
    generalize hNs : (szs (kvs.map (rk n val))).foldl max (max ((rp n val l).length : Int) (max ((rp n val r).length : Int) (val.length : Int))) = Ns at *
    generalize hM : kvs.map (rk n val) = M at *
    generalize hL : rp n val l = l' at *
    generalize hR : rp n val r = r' at *
    rcases hA with rfl | rfl <;> rcases hB with rfl | rfl <;> simp [tailL, T.key?, e1, e2, e3, ko, -keysV, -sTurns, wipS, ep, hk', b]
  · have b : ¬ (bd : Int) < _ := fun q => hB' (big.mp q)
    clear big ek
    generalize hK : kv2 n val kvs = K at *
    generalize hNs : (szs (kvs.map (rk n val))).foldl max (max ((rp n val l).length : Int) (max ((rp n val r).length : Int) (val.length : Int))) = Ns at *
    generalize hM : kvs.map (rk n val) = M at *
    generalize hL : rp n val l = l' at *
    generalize hR : rp n val r = r' at *
    rcases hA with rfl | rfl <;> rcases hB with rfl | rfl <;> simp [tailL, T.key?, e1, e2, e3, ko, -keysV, -sTurns, wipS, ep, hk', b]
end
end Law

namespace Law
open PySem PySem.Spec PyProof.Rows L2 MM
inductive Out where
  | non | large | done (kvs : List (Key × T))
def OutP (w : Int) (bd : Nat) (o : Out) (q : Ro) (z : Zs) : Prop := match o with
  | .non => q = .rt (.im .non) z
  | .large => ∃ S', q = .xc ⟨"TooLarge", none⟩ S' z
  | .done k => KV w bd k ∧ k.length ≤ 400 ∧ ∃ A B c x5 x6 x7, q = .nx [A, B, .o (.im (.int bd)), .o (.dk k), c, x5, x6, x7, .un] z
def OutL (bd : Nat) (o : Out) (q : Ro) (z : Zs) : Prop := match o with
  | .non => q = .rt (.im .non) z
  | .large => q = .rt (.im (S "large")) z
  | .done k => ∃ A B c x5 x6 x7 x8 x9, q = .nx [A, B, .o (.im (.int bd)), .o (.dk k), c, x5, x6, x7, x8, x9] z
section
variable {l r : List T} {a : Nat}
theorem headP_no {A B : Sv} (hA : A = .b (.im (.tup l)) ∨ A = .o (.im (.tup l))) (hB : B = .b (.im (.tup r)) ∨ B = .o (.im (.tup r))) {x y : T} (ax : atI l (a : Int) = some x) (ay : atI r (a : Int) = some y) (ne : T.eqv x y = false) (d : min x.dep y.dep ≤ 64) (eb : m_binding [.im (.tup l), .im (.tup r), .im (.int (a : Int))] = .ok (.im .non) z0)
    (bd tab x5 x6 x7 x8 : Sv) (z : Zs) : b_unify_3 [A, B, bd, tab, .o (.im (.int (a : Int))), x5, x6, x7, x8] z = .rt (.im .non) z := by
  rw [bP_eq]
  rcases hA with rfl | rfl <;> rcases hB with rfl | rfl <;> simp [headP, ax, ay, ne, d, eb]
theorem headP_so {A B : Sv} (hA : A = .b (.im (.tup l)) ∨ A = .o (.im (.tup l))) (hB : B = .b (.im (.tup r)) ∨ B = .o (.im (.tup r))) {x y : T} (ax : atI l (a : Int) = some x) (ay : atI r (a : Int) = some y) (ne : T.eqv x y = false) (d : min x.dep y.dep ≤ 64) {n : Int} {val : List T} (eb : m_binding [.im (.tup l), .im (.tup r), .im (.int (a : Int))] = .ok (.im (.tup [.int n, .tup val])) z0)
    (bd tab x5 x6 x7 x8 : Sv) (z : Zs) : b_unify_3 [A, B, bd, tab, .o (.im (.int (a : Int))), x5, x6, x7, x8] z = tailP [A, B, bd, tab, .o (.im (.int (a : Int))), .o (.im (.tup [.int n, .tup val])), x6, x7, x8] z := by
  rw [bP_eq]
  rcases hA with rfl | rfl <;> rcases hB with rfl | rfl <;> simp [headP, ax, ay, ne, d, eb]
theorem eqP {A B : Sv} (hA : A = .b (.im (.tup l)) ∨ A = .o (.im (.tup l))) (hB : B = .b (.im (.tup r)) ∨ B = .o (.im (.tup r))) {x y : T} (ax : atI l (a : Int) = some x) (ay : atI r (a : Int) = some y) (ne : T.eqv x y = true) (d : min x.dep y.dep ≤ 64)
    (bd tab x5 x6 x7 x8 : Sv) (z : Zs) : b_unify_3 [A, B, bd, tab, .o (.im (.int (a : Int))), x5, x6, x7, x8] z = .ct [A, B, bd, tab, .o (.im (.int ((a + 1 : Nat) : Int))), x5, x6, x7, x8] z := by
  rw [bP_eq]
  rcases hA with rfl | rfl <;> rcases hB with rfl | rfl <;> simp [headP, ax, ay, ne, d]
theorem eqL {A B : Sv} (hA : A = .b (.im (.tup l)) ∨ A = .o (.im (.tup l))) (hB : B = .b (.im (.tup r)) ∨ B = .o (.im (.tup r))) {x y : T} (ax : atI l (a : Int) = some x) (ay : atI r (a : Int) = some y) (ne : T.eqv x y = true) (d : min x.dep y.dep ≤ 64)
    (bd tab x5 x6 x7 x8 x9 : Sv) (z : Zs) : b__law_unify_2 [A, B, bd, tab, .o (.im (.int (a : Int))), x5, x6, x7, x8, x9] z = .nx [A, B, bd, tab, .o (.im (.int ((a + 1 : Nat) : Int))), x5, x6, x7, x8, x9] z := by
  rw [bL_eq]
  rcases hA with rfl | rfl <;> rcases hB with rfl | rfl <;> simp [headL, ax, ay, ne, d]
theorem headL_no {A B : Sv} (hA : A = .b (.im (.tup l)) ∨ A = .o (.im (.tup l))) (hB : B = .b (.im (.tup r)) ∨ B = .o (.im (.tup r))) {x y : T} (ax : atI l (a : Int) = some x) (ay : atI r (a : Int) = some y) (ne : T.eqv x y = false) (d : min x.dep y.dep ≤ 64) (eb : m__law_bound [.im (.tup l), .im (.tup r), .im (.int (a : Int))] = .ok (.im .non) z0)
    (bd tab x5 x6 x7 x8 x9 : Sv) (z : Zs) : b__law_unify_2 [A, B, bd, tab, .o (.im (.int (a : Int))), x5, x6, x7, x8, x9] z = .rt (.im .non) z := by
  rw [bL_eq]
  rcases hA with rfl | rfl <;> rcases hB with rfl | rfl <;> simp [headL, ax, ay, ne, d, eb]
theorem headL_so {A B : Sv} (hA : A = .b (.im (.tup l)) ∨ A = .o (.im (.tup l))) (hB : B = .b (.im (.tup r)) ∨ B = .o (.im (.tup r))) {x y : T} (ax : atI l (a : Int) = some x) (ay : atI r (a : Int) = some y) (ne : T.eqv x y = false) (d : min x.dep y.dep ≤ 64) {n : Int} {val : List T} (eb : m__law_bound [.im (.tup l), .im (.tup r), .im (.int (a : Int))] = .ok (.im (.tup [.int n, .tup val])) z0)
    (bd tab x5 x6 x7 x8 x9 : Sv) (z : Zs) : b__law_unify_2 [A, B, bd, tab, .o (.im (.int (a : Int))), x5, x6, x7, x8, x9] z = tailL [A, B, bd, tab, .o (.im (.int (a : Int))), .o (.im (.tup [.int n, .tup val])), x6, x7, x8, x9] z := by
  rw [bL_eq]
  rcases hA with rfl | rfl <;> rcases hB with rfl | rfl <;> simp [headL, ax, ay, ne, d, eb]
theorem tP {A : Sv} (hA : A = .b (.im (.tup l)) ∨ A = .o (.im (.tup l))) (B bd tab x5 x6 x7 x8 : Sv) (z : Zs) : t_unify_4 [A, B, bd, tab, .o (.im (.int (a : Int))), x5, x6, x7, x8] z = .ok (decide (a < l.length)) z := by
  rcases hA with rfl | rfl <;> simp [t_unify_4]
theorem tL {A : Sv} (hA : A = .b (.im (.tup l)) ∨ A = .o (.im (.tup l))) (B bd tab x5 x6 x7 x8 x9 : Sv) (z : Zs) : t__law_unify_3 [A, B, bd, tab, .o (.im (.int (a : Int))), x5, x6, x7, x8, x9] z = .ok (decide (a < l.length)) z := by
  rcases hA with rfl | rfl <;> simp [t__law_unify_3]
end
noncomputable def aft (c : MT) (b : MS) : Ro → Ro
  | .nx S z => sWh c b S z
  | .ct S z => sWh c b S z
  | .bk S z => .nx S z
  | r => r
theorem wh_step {c : MT} {b : MS} {S : List Sv} {z : Zs} {q : Ro} (e : c S z = .ok true z) (e2 : b S z = q) : sWh c b S z = aft c b q := by
  rw [sWh_eq, e]
  simp only [Rs.go, e2]
  cases q <;> rfl
theorem wh_stop {c : MT} {b : MS} {S : List Sv} {z : Zs} (e : c S z = .ok false z) : sWh c b S z = .nx S z := by
  rw [sWh_eq, e]
  simp [Rs.go]
theorem both (w : Int) (U : List Int) (bd : Nat) (hb : 1 ≤ bd ∧ bd ≤ 3000) : ∀ (m : Nat) (l r : List T) (a : Nat) (kvs : List (Key × T)), Pair w l r a → l.length ≤ bd → r.length ≤ bd → KV w bd kvs → (∀ k : Int, Sum.inl k ∈ kvs.map (·.1) → V1 k ∉ l ∧ V1 k ∉ r) → (∀ k : Int, V1 k ∈ l ∨ V1 k ∈ r → k ∈ U) → kvs.length + vn U l r ≤ 400 → vn U l r * (bd + 2) + (l.length - a) ≤ m →
    ∀ (A B x5 x6 x7 y5 y6 y7 y8 y9 : Sv) (z : Zs), (A = .b (.im (.tup l)) ∨ A = .o (.im (.tup l))) → (B = .b (.im (.tup r)) ∨ B = .o (.im (.tup r))) →
      ∃ o, OutP w bd o (sWh t_unify_4 b_unify_3 [A, B, .o (.im (.int bd)), .o (.dk kvs), .o (.im (.int (a : Int))), x5, x6, x7, .un] z) z ∧ OutL bd o (sWh t__law_unify_3 b__law_unify_2 [A, B, .o (.im (.int bd)), .o (.dk kvs), .o (.im (.int (a : Int))), y5, y6, y7, y8, y9] z) z := by
  intro m
  induction m using Nat.strongRecOn with
  | _ m ih =>
    intro l r a kvs hp hl hr hk hgone hU hv hm A B x5 x6 x7 y5 y6 y7 y8 y9 z hA hB
    by_cases ha : a < l.length
    · have c1 := tP (a := a) hA B (.o (.im (.int bd))) (.o (.dk kvs)) x5 x6 x7 .un z
      have c2 := tL (a := a) hA B (.o (.im (.int bd))) (.o (.dk kvs)) y5 y6 y7 y8 y9 z
      rw [decide_eq_true ha] at c1 c2
      obtain ⟨j, x, xs, y, ys, ex, ey, nl, nr⟩ := hp.more ha
      obtain ⟨ax, _, hla⟩ := atI_drop ex
      obtain ⟨ay, _, hra⟩ := atI_drop ey
      have hx : Node w x := hp.lt.nodes x (List.mem_of_mem_drop (by rw [ex]; simp))
      have hy : Node w y := hp.rt.nodes y (List.mem_of_mem_drop (by rw [ey]; simp))
      have d : min x.dep y.dep ≤ 64 := by have := hx.dep; omega
      cases ne : T.eqv x y with
      | true =>
        have := eqv_node hx hy ne
        subst this
        rw [wh_step c1 (eqP hA hB ax ay ne d _ _ _ _ _ _ z), wh_step c2 (eqL hA hB ax ay ne d _ _ _ _ _ _ _ z)]
        exact ih (vn U l r * (bd + 2) + (l.length - (a + 1))) (by omega) l r (a + 1) kvs (hp.next ex ey) hl hr hk hgone hU hv (Nat.le_refl _) A B x5 x6 x7 y5 y6 y7 y8 y9 z hA hB
      | false =>
        obtain ⟨o, hbo, eb, el⟩ := bind_ok hp ex ey nl nr ne
        cases o with
        | none =>
          have e1 := headP_no hA hB ax ay ne d eb (.o (.im (.int bd))) (.o (.dk kvs)) x5 x6 x7 .un z
          have e2 := headL_no hA hB ax ay ne d el (.o (.im (.int bd))) (.o (.dk kvs)) y5 y6 y7 y8 y9 z
          refine ⟨.non, ?_, ?_⟩
          · show _ = _
            rw [wh_step c1 e1]; rfl
          · show _ = _
            rw [wh_step c2 e2]; rfl
        | some p =>
          obtain ⟨n, val⟩ := p
          have e1 := headP_so hA hB ax ay ne d eb (.o (.im (.int bd))) (.o (.dk kvs)) x5 x6 x7 .un z
          have e2 := headL_so hA hB ax ay ne d el (.o (.im (.int bd))) (.o (.dk kvs)) y5 y6 y7 y8 y9 z
          have ok := hbo n val rfl
          have vle : val.length ≤ bd := Nat.le_trans ok.le (by omega)
          have hnk : Sum.inl n ∉ kvs.map (·.1) := fun c => by
            have := hgone n c
            exact ok.oc.elim this.1 this.2
          obtain ⟨SP, eSP, p1, p2⟩ := tailP_ok (a := a) (n := n) hp.lt hp.rt hl hr hk (by omega) ok.tm vle hb A B hA hB x6 x7 z
          obtain ⟨SL, s', x8', x9', eSL, q1, q2⟩ := tailL_ok (a := a) (n := n) hp.lt hp.rt hl hr hk (by omega) hnk ok.tm vle hb A B hA hB y6 y7 y8 y9 z
          by_cases big : Big bd (rp n val l) (rp n val r) (kv2 n val kvs)
          · refine ⟨.large, ⟨SP, ?_⟩, ?_⟩
            · rw [wh_step c1 (e1.trans (p1 big))]; rfl
            · show _ = _
              rw [wh_step c2 (e2.trans (q1 big))]; rfl
          · rw [wh_step c1 (e1.trans (p2 big)), wh_step c2 (e2.trans (q2 big))]
            subst eSP eSL
            unfold Big at big
            have b1 : (rp n val l).length ≤ bd := by omega
            have b2 : (rp n val r).length ≤ bd := by omega
            have k2 := kv2_ok (n := n) hk ok.tm hb.1 vle
            have k3 : KV w bd (kv2 n val kvs) := ⟨fun p hp' => by
              obtain ⟨i, us, e, t, _⟩ := k2.at_ p hp'
              refine ⟨i, us, e, t, ?_⟩
              have : ¬ ((bd : Int) < (us.length : Int)) := fun q => big (.inr (.inr ⟨_, List.mem_map.mpr ⟨p, hp', by rw [e]; rfl⟩, q⟩))
              omega, k2.nd⟩
            have hold : ∀ k : Int, V1 k ∈ rp n val l ∨ V1 k ∈ rp n val r → V1 k ∈ l ∨ V1 k ∈ r := fun k hk' => by
              rcases hk' with q | q
              · rcases rp_mem hp.lt.nodes q with q | q
                · exact ok.sb _ q
                · exact .inl q.1
              · rcases rp_mem hp.rt.nodes q with q | q
                · exact ok.sb _ q
                · exact .inr q.1
            have gn := (⟨rp_gone ok.no hp.lt.nodes, rp_gone ok.no hp.rt.nodes⟩ : V1 n ∉ rp n val l ∧ V1 n ∉ rp n val r)
            have vlt : vn U (rp n val l) (rp n val r) < vn U l r := vn_lt (hU n ok.oc) ok.oc gn hold
            have hgone2 : ∀ k : Int, Sum.inl k ∈ (kv2 n val kvs).map (·.1) → V1 k ∉ rp n val l ∧ V1 k ∉ rp n val r := fun k hk' => by
              obtain ⟨p, hp1, hp2⟩ := List.mem_map.mp hk'
              rcases mem_put hp1 with q | q
              · have : Sum.inl k ∈ kvs.map (·.1) := by rw [← rk_keys n val, ← hp2]; exact List.mem_map_of_mem q
                have g := hgone k this
                exact ⟨fun c => (hold k (.inl c)).elim g.1 g.2, fun c => (hold k (.inr c)).elim g.1 g.2⟩
              · subst q
                cases hp2
                exact gn
            have kl := kv2_len (n := n) (val := val) (kvs := kvs)
            have mul : (vn U (rp n val l) (rp n val r) + 1) * (bd + 2) ≤ vn U l r * (bd + 2) := Nat.mul_le_mul_right _ vlt
            rw [Nat.add_mul, Nat.one_mul] at mul
            exact ih (vn U (rp n val l) (rp n val r) * (bd + 2) + ((rp n val l).length - a)) (by omega) _ _ a _ (hp.rp ok.tm) b1 b2 k3 hgone2 (fun k hk' => hU k (hold k hk')) (by omega) (Nat.le_refl _) _ _ _ _ _ _ _ _ _ _ z (.inr rfl) (.inr rfl)
    · have c1 := tP (a := a) hA B (.o (.im (.int bd))) (.o (.dk kvs)) x5 x6 x7 .un z
      have c2 := tL (a := a) hA B (.o (.im (.int bd))) (.o (.dk kvs)) y5 y6 y7 y8 y9 z
      rw [decide_eq_false ha] at c1 c2
      exact ⟨.done kvs, ⟨hk, by omega, _, _, _, _, _, _, wh_stop c1⟩, _, _, _, _, _, _, _, _, wh_stop c2⟩
def outV : Out → Val
  | .non => .im .non
  | .large => .im (S "large")
  | .done k => .dk k
def outR : Out → Rs Val
  | .non => .ok (.im .non) z0
  | .large => .ex ⟨"TooLarge", none⟩ z0
  | .done k => .ok (.dk k) z0
def OutOk (w : Int) (bd : Nat) : Out → Prop
  | .done k => KV w bd k ∧ k.length ≤ 400
  | _ => True
def vnum : T → Option Int
  | .tup [_, .int n] => some n
  | _ => none
/-- unify, the program's and the law's -/
theorem unify_ok {w : Int} {l r : List T} (hl : Term w l) (hr : Term w r) (ll : l.length + r.length ≤ 400) : ∃ o, OutOk w 400 o ∧ m_unify [.im (.tup l), .im (.tup r)] = outR o ∧ m__law_unify [.im (.tup l), .im (.tup r)] = .ok (outV o) z0 := by
  obtain ⟨bd, hbd⟩ : ∃ bd, bd = max (max 200 l.length) r.length := ⟨_, rfl⟩
  have e0 : max (200 : Int) (max (l.length : Int) (r.length : Int)) = (bd : Int) := by omega
  have hv : vn ((l ++ r).filterMap vnum) l r ≤ 400 := by
    unfold vn
    refine Nat.le_trans List.countP_le_length (Nat.le_trans (List.length_filterMap_le _ _) ?_)
    simpa using ll
  obtain ⟨o, h1, h2⟩ := both w ((l ++ r).filterMap vnum) bd (by omega) _ l r 0 [] ⟨hl, hr, Nat.zero_le _, rfl⟩ (by omega) (by omega) ⟨by simp, by simp⟩ (by simp) (fun k hk => List.mem_filterMap.mpr ⟨V1 k, List.mem_append.mpr hk, rfl⟩) (by rw [List.length_nil]; omega) (Nat.le_refl _)
    (.b (.im (.tup l))) (.b (.im (.tup r))) .un .un .un .un .un .un .un .un z0 (.inl rfl) (.inl rfl)
  simp only [Int.natCast_zero] at h1 h2
  refine ⟨o, ?_, ?_, ?_⟩
  · cases o with
    | done k => exact ⟨⟨fun p hp => by obtain ⟨i, us, a, b, c⟩ := h1.1.at_ p hp; exact ⟨i, us, a, b, by omega⟩, h1.1.nd⟩, h1.2.1⟩
    | _ => trivial
  · cases o with
    | non =>
      have h1' : _ = _ := h1
      simp [m_unify, runP, c_unify, k_MOST_NODES, e0, h1', outR]
    | large =>
      obtain ⟨S', h1'⟩ := h1
      simp [m_unify, runP, c_unify, k_MOST_NODES, e0, h1', outR]
    | done k =>
      obtain ⟨_, _, A, B, c, x5, x6, x7, h1'⟩ := h1
      simp [m_unify, runP, c_unify, k_MOST_NODES, e0, h1', outR]
  · cases o with
    | non =>
      have h2' : _ = _ := h2
      simp [m__law_unify, runP, c__law_unify, e0, h2', outV]
    | large =>
      have h2' : _ = _ := h2
      simp [m__law_unify, runP, c__law_unify, e0, h2', outV]
    | done k =>
      obtain ⟨A, B, c, x5, x6, x7, x8, x9, h2'⟩ := h2
      simp [m__law_unify, runP, c__law_unify, e0, h2', outV]
end Law

namespace Law
open PySem PySem.Spec PyProof.Rows L2 MM
/-! ### variables by where they first stand -/
def num : T → Option Int
  | .tup [.str _, .int n] => some n
  | _ => none
def dn (acc : List Int) (n : Int) : List Int := if n ∈ acc then acc else acc ++ [n]
def dstep (acc : List Int) (t : T) : List Int := match num t with
  | some n => dn acc n
  | none => acc
def D (ts : List T) : List Int := ts.foldl dstep []
def rn (f : Int) (A : List Int) (t : T) : T := match num t with
  | some n => .tup [S "v", .int (f + (A.idxOf n : Nat))]
  | none => t
theorem dn_pre (acc : List Int) (n : Int) : acc <+: dn acc n := by
  unfold dn
  split
  · exact List.prefix_refl _
  · exact List.prefix_append _ _
theorem dn_mem (acc : List Int) (n : Int) : n ∈ dn acc n := by
  unfold dn
  split
  · assumption
  · simp
theorem dstep_pre (acc : List Int) (t : T) : acc <+: dstep acc t := by
  unfold dstep
  split
  · exact dn_pre _ _
  · exact List.prefix_refl _
theorem fold_pre : ∀ (ts : List T) (acc : List Int), acc <+: ts.foldl dstep acc
  | [], acc => List.prefix_refl _
  | t :: ts, acc => (dstep_pre acc t).trans (fold_pre ts _)
theorem idx_pre {a b : List Int} (h : a <+: b) {n : Int} (m : n ∈ a) : b.idxOf n = a.idxOf n := by
  obtain ⟨c, rfl⟩ := h
  rw [List.idxOf_append, if_pos m]
theorem dn_nd {acc : List Int} (h : acc.Nodup) (n : Int) : (dn acc n).Nodup := by
  unfold dn
  split
  · exact h
  · rename_i c
    exact List.nodup_append.mpr ⟨h, by simp, fun a ha b hb e => by simp at hb; subst hb; subst e; exact c ha⟩
theorem fold_nd : ∀ (ts : List T) {acc : List Int}, acc.Nodup → (ts.foldl dstep acc).Nodup
  | [], acc, h => h
  | t :: ts, acc, h => by
    refine fold_nd ts ?_
    unfold dstep
    split
    · exact dn_nd h _
    · exact h
theorem dn_len (acc : List Int) (n : Int) : (dn acc n).length ≤ acc.length + 1 := by unfold dn; split <;> simp
theorem dstep_len (acc : List Int) (t : T) : (dstep acc t).length ≤ acc.length + 1 := by
  unfold dstep
  split
  · exact dn_len _ _
  · simp
theorem fold_len : ∀ (ts : List T) (acc : List Int), (ts.foldl dstep acc).length ≤ acc.length + ts.length
  | [], acc => by simp
  | t :: ts, acc => by
    have h1 := fold_len ts (dstep acc t)
    have h2 := dstep_len acc t
    simp only [List.foldl_cons, List.length_cons]; omega
/-- the dict that numbers -/
def rdict : Int → List Int → List (Key × T)
  | _, [] => []
  | i, n :: l => (.inl n, .int i) :: rdict (i + 1) l
theorem look_consI {n m : Int} {t : T} {kvs : List (Key × T)} : look ((.inl m, t) :: kvs) (.inl n) = if m = n then some t else look kvs (.inl n) := by
  by_cases c : m = n <;> simp [look, List.find?_cons, c]
theorem look_rdict : ∀ (l : List Int) (i n : Int), look (rdict i l) (.inl n) = if n ∈ l then some (.int (i + (l.idxOf n : Nat))) else none
  | [], i, n => by simp [rdict, look]
  | m :: l, i, n => by
    rw [rdict, look_consI, look_rdict l, List.idxOf_cons]
    by_cases c : m = n
    · subst c; simp
    · have c' : ¬ n = m := fun e => c e.symm
      rw [if_neg c]
      have hb : (m == n) = false := by simpa using c
      by_cases d : n ∈ l
      · rw [if_pos d, if_pos (by simp [d]), hb]
        simp; omega
      · rw [if_neg d, if_neg (by simp [d, c'])]
theorem rdict_len : ∀ (l : List Int) (i : Int), (rdict i l).length = l.length
  | [], i => rfl
  | m :: l, i => by simp [rdict, rdict_len l]
theorem rdict_app : ∀ (l : List Int) (i n : Int), rdict i (l ++ [n]) = rdict i l ++ [(.inl n, .int (i + (l.length : Nat)))]
  | [], i, n => by simp [rdict]
  | m :: l, i, n => by
    simp only [List.cons_append, rdict, rdict_app l, List.length_cons]
    rw [show i + 1 + ((l.length : Nat) : Int) = i + ((l.length + 1 : Nat) : Int) by omega]
theorem rdict_put {l : List Int} {i n : Int} (h : n ∉ l) : putT (rdict i l) (.inl n) (.int (i + (l.length : Nat))) = rdict i (l ++ [n]) := by
  unfold putT
  rw [look_any, look_rdict, if_neg h, rdict_app]; rfl

def dctP (ds : List Int) : List (Key × T) := ds.map fun i => (Sum.inl i, .bl true)
theorem put_dctP (ds : List Int) (k : Int) : putT (dctP ds) (Sum.inl k) (.bl true) = dctP (dn ds k) := by
  have ea : ((dctP ds).any fun kv => decide (kv.1 = Sum.inl k)) = decide (k ∈ ds) := by
    unfold dctP
    rw [List.any_map]
    simp only [Function.comp_def, Sum.inl.injEq]
    induction ds with
    | nil => rfl
    | cons d ds ih =>
      rw [List.any_cons, ih]
      by_cases e : d = k
      · subst e; simp
      · simp [e, Ne.symm e]
  unfold putT dn
  rw [ea]
  by_cases h : k ∈ ds
  · simp only [h, decide_true, if_true]
    unfold dctP
    rw [List.map_map]
    apply List.map_congr_left
    intro i _
    simp
  · simp only [h, decide_false, if_false]
    simp [dctP]
theorem var_loop {w : Int} (A : Sv) (z : Zs) : ∀ (ts : List T) (acc : List Int) (x : Sv), (∀ t ∈ ts, Node w t) → acc.length + ts.length ≤ 16000000 → ∃ x', sTurns (gN 2) b_variables_1 ts [A, .o (.dk (dctP acc)), x] z = .nx [A, .o (.dk (dctP (ts.foldl dstep acc))), x'] z
  | [], acc, x, _, _ => ⟨x, by simp⟩
  | t :: ts, acc, x, h, hl => by
    simp only [List.length_cons] at hl
    have ev := var_eq (h t (by simp))
    have hd : (dctP acc).length < 16777216 := by simp [dctP]; omega
    have e1 : b_variables_1 [A, .o (.dk (dctP acc)), .o (.im t)] z = .nx [A, .o (.dk (dctP (dstep acc t))), .o (.im t)] z := by
      cases h t (by simp) with
      | @v n => simp at ev; simp [b_variables_1, ev, dstep, num, T.key?, put_dctP, hd]
      | i => simp at ev; simp [b_variables_1, ev, dstep, num]
      | f => simp at ev; simp [b_variables_1, ev, dstep, num]
    have := dstep_len acc t
    obtain ⟨x', e2⟩ := var_loop A z ts (dstep acc t) (.o (.im t)) (fun u hu => h u (by simp [hu])) (by omega)
    have eg : gN 2 t [A, .o (.dk (dctP acc)), x] = some [A, .o (.dk (dctP acc)), .o (.im t)] := rfl
    exact ⟨x', by simp only [sTurns, eg, e1, List.foldl_cons]; exact e2⟩
theorem variables_ok {w : Int} {ts : List T} (h : ∀ t ∈ ts, Node w t) (hl : ts.length ≤ 10000000) : m_variables [.im (.tup ts)] = .ok (.il ((D ts).map .int)) z0 := by
  obtain ⟨x, e⟩ := var_loop (.b (.im (.tup ts))) z0 ts [] .un h (by simp; omega)
  have e0 : dctP [] = [] := rfl
  rw [e0] at e
  have ek : ((dctP (D ts)).all fun kv => kOk kv.1) = true := List.all_eq_true.mpr fun p hp => by
    obtain ⟨n, _, rfl⟩ := List.mem_map.mp hp; rfl
  have em : ((dctP (D ts)).map fun kv => kyT kv.1) = (D ts).map .int := by
    unfold dctP; rw [List.map_map]; rfl
  have e' : sTurns (gN 2) b_variables_1 ts [.b (.im (.tup ts)), .o (.dk []), .un] z0 = .nx [.b (.im (.tup ts)), .o (.dk (dctP (D ts))), x] z0 := e
  generalize dctP (D ts) = Q at *
  simp [m_variables, runP, c_variables, e', ek, em, -List.all_eq_true]
/-! ### renumber, mapped -/
theorem ren_loop {w : Int} (A : Sv) (f : Int) (z : Zs) : ∀ (ts : List T) (acc : List Int) (out : List T) (x : Sv), (∀ t ∈ ts, Node w t) → acc.length + ts.length ≤ 16000000 → out.length + ts.length ≤ 16000000 → ∃ x', sTurns (gN 4) b_renumber_1 ts [A, .b (.im (.int f)), .o (.dk (rdict f acc)), .o (.il out), x] z = .nx [A, .b (.im (.int f)), .o (.dk (rdict f (ts.foldl dstep acc))), .o (.il (out ++ ts.map (rn f (ts.foldl dstep acc)))), x'] z
  | [], acc, out, x, _, _, _ => ⟨x, by simp⟩
  | t :: ts, acc, out, x, h, hl, ho => by
    simp only [List.length_cons] at hl ho
    have ev := var_eq (h t (by simp))
    have hd : (rdict f acc).length < 16777216 := by rw [rdict_len]; omega
    have hdl := rdict_len acc f
    have hp := fold_pre ts (dstep acc t)
    have e1 : b_renumber_1 [A, .b (.im (.int f)), .o (.dk (rdict f acc)), .o (.il out), .o (.im t)] z = .nx [A, .b (.im (.int f)), .o (.dk (rdict f (dstep acc t))), .o (.il (out ++ [rn f (ts.foldl dstep (dstep acc t)) t])), .o (.im t)] z := by
      cases h t (by simp) with
      | @v n =>
        simp at ev
        have hi : (ts.foldl dstep (dstep acc (.tup [S "v", .int n]))).idxOf n = (dn acc n).idxOf n := idx_pre hp (dn_mem acc n)
        simp only [rn, num, hi]
        by_cases c : n ∈ acc
        · have el := look_rdict acc f n
          rw [if_pos c] at el
          have ed : dn acc n = acc := by simp [dn, c]
          simp [b_renumber_1, ev, dstep, num, ed, T.key?, el, show out.length < 16777216 by omega]
        · have el := look_rdict acc f n
          rw [if_neg c] at el
          have ed : dn acc n = acc ++ [n] := by simp [dn, c]
          have ep := rdict_put (i := f) c
          have el2 := look_rdict (acc ++ [n]) f n
          rw [if_pos (by simp)] at el2
          rw [ed]
          simp [b_renumber_1, ev, dstep, num, ed, T.key?, el, hd, hdl, ep, el2, show out.length < 16777216 by omega, show acc.length < 16777216 by omega]
      | i => simp at ev; simp [b_renumber_1, ev, dstep, num, rn, show out.length < 16777216 by omega]
      | f => simp at ev; simp [b_renumber_1, ev, dstep, num, rn, show out.length < 16777216 by omega]
    have := dstep_len acc t
    obtain ⟨x', e2⟩ := ren_loop A f z ts (dstep acc t) (out ++ [rn f (ts.foldl dstep (dstep acc t)) t]) (.o (.im t)) (fun u hu => h u (by simp [hu])) (by omega) (by simp; omega)
    have eg : gN 4 t [A, .b (.im (.int f)), .o (.dk (rdict f acc)), .o (.il out), x] = some [A, .b (.im (.int f)), .o (.dk (rdict f acc)), .o (.il out), .o (.im t)] := rfl
    rw [List.append_assoc] at e2
    exact ⟨x', by simp only [sTurns, eg, e1, List.foldl_cons, List.map_cons]; exact e2⟩
theorem renumber_ok {w : Int} {ts : List T} (f : Int) (h : ∀ t ∈ ts, Node w t) (hl : ts.length ≤ 10000000) : m_renumber [.im (.tup ts), .im (.int f)] = .ok (.im (.tup (ts.map (rn f (D ts))))) z0 := by
  obtain ⟨x, e⟩ := ren_loop (.b (.im (.tup ts))) f z0 ts [] [] .un h (by simp; omega) (by simp; omega)
  have e0 : rdict f [] = [] := rfl
  rw [e0, List.nil_append] at e
  have e' : sTurns (gN 4) b_renumber_1 ts [.b (.im (.tup ts)), .b (.im (.int f)), .o (.dk []), .o (.il []), .un] z0 = .nx [.b (.im (.tup ts)), .b (.im (.int f)), .o (.dk (rdict f (D ts))), .o (.il (ts.map (rn f (D ts)))), x] z0 := e
  generalize ts.map (rn f (D ts)) = R at *
  simp [m_renumber, runP, c_renumber, e']
theorem D_mem : ∀ {ts : List T} {acc : List Int} {n : Int}, (n ∈ acc ∨ ∃ t ∈ ts, num t = some n) → n ∈ ts.foldl dstep acc
  | [], acc, n, h => by
    rcases h with h | ⟨t, ht, _⟩
    · exact h
    · cases ht
  | t :: ts, acc, n, h => by
    refine D_mem (ts := ts) ?_
    rcases h with h | ⟨u, hu, e⟩
    · exact .inl ((dstep_pre acc t).subset h)
    · rcases List.mem_cons.mp hu with rfl | hu
      · left
        simp only [dstep, e]
        exact dn_mem acc n
      · exact .inr ⟨u, hu, e⟩
end Law

namespace Law
open PySem PySem.Spec PyProof.Rows L2 MM
/-! ### lists of terms as one term -/
theorem skip_app : ∀ {ts r : List T} {m : Nat}, need m ts = some 0 → skip m (ts ++ r) = r
  | [], r, m, h => by
    cases h
    cases r <;> rfl
  | t :: ts, r, 0, h => by cases h
  | t :: ts, r, m + 1, h => by
    show skip (m + arT t) (ts ++ r) = r
    exact skip_app h
abbrev dot : T := .tup [S "f", S ".", .int 2]
abbrev nilT : T := .tup [S "f", S "[]", .int 0]
def flat : List (List T) → List T
  | [] => []
  | r :: rs => dot :: (r ++ flat rs)
def lst (X : List (List T)) : List T := flat X ++ [nilT]
theorem fl_len : ∀ X : List (List T), (flat X).length = X.flatten.length + X.length
  | [] => rfl
  | x :: X => by have := fl_len X; simp [flat] at *; omega
theorem lt_loop (G Tl : Val) (z : Zs) : ∀ (rows : List (List T)) (acc : List T) (x : Sv), acc.length + (flat rows).length ≤ 10000000 → ∃ x', sTurns (gN 3) b_list_term_1 (rows.map T.tup) [.b G, .b Tl, .o (.il acc), x] z = .nx [.b G, .b Tl, .o (.il (acc ++ flat rows)), x'] z
  | [], acc, x, _ => ⟨x, by simp [flat]⟩
  | r :: rs, acc, x, h => by
    simp only [flat, List.length_cons, List.length_append] at h
    obtain ⟨x', e⟩ := lt_loop G Tl z rs (acc ++ dot :: r) (.o (.im (.tup r))) (by simp; omega)
    refine ⟨x', ?_⟩
    have e1 : b_list_term_1 [.b G, .b Tl, .o (.il acc), .o (.im (.tup r))] z = .nx [.b G, .b Tl, .o (.il (acc ++ dot :: r)), .o (.im (.tup r))] z := by
      simp [b_list_term_1, show acc.length < 16777216 by omega, show acc.length + 1 + r.length ≤ 16777216 by omega]
    simp at e
    simp [e1, e, flat]
theorem lterm_non (rows : List (List T)) (h : (flat rows).length ≤ 9000000) : m_list_term [.il (rows.map T.tup), .im .non] = .ok (.im (.tup (lst rows))) z0 := by
  obtain ⟨x', e⟩ := lt_loop (.il (rows.map T.tup)) (.im .non) z0 rows [] .un (by simp; omega)
  simp at e
  simp [m_list_term, runP, c_list_term, e, lst, show (flat rows).length < 16777216 by omega]
theorem node_dot {w : Int} : Node w dot := .f (by decide +kernel) (by decide) (by decide)
theorem node_nil {w : Int} : Node w nilT := .f (by decide +kernel) (by decide) (by decide)
theorem flat_nodes {w : Int} : ∀ {X : List (List T)}, (∀ x ∈ X, Term w x) → ∀ t ∈ flat X, Node w t
  | [], _, t, ht => by cases ht
  | x :: X, h, t, ht => by
    rcases List.mem_cons.mp ht with rfl | ht
    · exact node_dot
    · rcases List.mem_append.mp ht with q | q
      · exact (h x (by simp)).nodes t q
      · exact flat_nodes (fun y hy => h y (by simp [hy])) t q
theorem lst_nodes {w : Int} {X : List (List T)} (h : ∀ x ∈ X, Term w x) : ∀ t ∈ lst X, Node w t := fun t ht => by
  rcases List.mem_append.mp ht with q | q
  · exact flat_nodes h t q
  · simp at q; subst q; exact node_nil
theorem lst_need {w : Int} : ∀ {X : List (List T)}, (∀ x ∈ X, Term w x) → need 1 (lst X) = some 0
  | [], _ => rfl
  | x :: X, h => by
    show need 2 (x ++ flat X ++ [nilT]) = some 0
    rw [List.append_assoc]
    have := need_more (j := 1) (h x (by simp)).whole
    rw [need_app (k := 1) (by simpa using this)]
    exact lst_need fun y hy => h y (by simp [hy])
theorem flat_app : ∀ A B : List (List T), flat (A ++ B) = flat A ++ flat B
  | [], B => rfl
  | a :: A, B => by simp [flat, flat_app A B]
theorem lst_cons (x : List T) (X : List (List T)) : lst (x :: X) = dot :: (x ++ lst X) := by simp [lst, flat]
theorem litems_ok {w : Int} {X : List (List T)} (h : ∀ x ∈ X, Term w x) (hl : (flat X).length ≤ 9000000) : m_list_items [.im (.tup (lst X))] = .ok (.il (X.map .tup)) z0 := by
  have hN := lst_nodes h
  have lX : X.length ≤ 9000000 := by rw [fl_len] at hl; omega
  have sp : ∀ A B : List (List T), X = A ++ B → (lst X).drop (flat A).length = lst B := fun A B e => by
    rw [e]; unfold lst; rw [flat_app, List.append_assoc, List.drop_left]
  obtain ⟨S', z', e, x3, rfl, rfl⟩ := wh_ind (c := t_list_items_2) (b := b_list_items_1)
    (fun n S z => ∃ (A B : List (List T)) (x3 : Sv), X = A ++ B ∧ S = [.b (.im (.tup (lst X))), .o (.il (A.map .tup)), .o (.im (.int ((flat A).length : Nat))), x3] ∧ n = B.length ∧ z = z0)
    (fun S z => ∃ (x3 : Sv), S = [.b (.im (.tup (lst X))), .o (.il (X.map .tup)), .o (.im (.int ((flat X).length : Nat))), x3] ∧ z = z0)
    (fun n S z ⟨A, B, x3, eX, eS, en, ez⟩ => by
      subst eS
      cases B with
      | nil =>
        left
        rw [List.append_nil] at eX
        subst eX
        have d := sp X [] (by simp)
        obtain ⟨a1, _, a3⟩ := atI_drop (L := lst X) (k := (flat X).length) (a := nilT) (l := []) d
        refine ⟨z, ?_, x3, rfl, ez⟩
        simp [t_list_items_2, a1]
      | cons x B =>
        right
        have d := sp A (x :: B) eX
        rw [lst_cons] at d
        obtain ⟨a1, a2, a3⟩ := atI_drop d
        have hx := h x (by rw [eX]; simp)
        have hB : ∀ y ∈ B, Term w y := fun y hy => h y (by rw [eX]; simp [hy])
        have ef := eof_ok (L := lst X) (a := (flat A).length + 1) hN (by omega) 1 (by
          rw [a2]
          have := need_more (j := 1) hx.whole
          rw [need_app (k := 1) (by simpa using this)]
          exact lst_need hB)
        rw [a2, skip_app hx.whole] at ef
        have lens : (lst X).length = (flat A).length + 1 + x.length + (lst B).length := by
          have := congrArg List.length d
          simp at this
          omega
        rw [show (lst X).length - (lst B).length = (flat A).length + 1 + x.length by omega] at ef
        have ec : cut (lst X) (some (((flat A).length + 1 : Nat) : Int)) (some (((flat A).length + 1 + x.length : Nat) : Int)) = x := by
          rw [cut_two (by omega) (by omega)]
          simp only [Int.toNat_natCast]
          rw [a2, show (flat A).length + 1 + x.length - ((flat A).length + 1) = x.length by omega, List.take_left]
        have la : (A.map T.tup).length < 16777216 := by
          have := congrArg List.length eX
          simp at this ⊢; omega
        have el : (flat (A ++ [x])).length = (flat A).length + 1 + x.length := by rw [flat_app]; simp [flat]; omega
        refine ⟨z, ?_, [.b (.im (.tup (lst X))), .o (.il ((A ++ [x]).map .tup)), .o (.im (.int ((flat (A ++ [x])).length : Nat))), .o (.im (.int (((flat A).length + 1 + x.length : Nat) : Int)))], z, .inl ?_, n - 1, by simp at en; omega, A ++ [x], B, _, by simp [eX], rfl, by simp at en; omega, ez⟩
        · simp [t_list_items_2, a1]
        · rw [el]
          generalize hA : A.map T.tup = A' at *
          have em : (A ++ [x]).map T.tup = A' ++ [.tup x] := by simp [hA]
          rw [em]
          generalize lst X = L at *
          generalize (flat A).length = p at *
          have c1 : ((p + 1 : Nat) : Int) = (p : Int) + 1 := by omega
          rw [c1] at ef ec
          have la' : A'.length < 16777216 := by simpa using la
          generalize ((p + 1 + x.length : Nat) : Int) = q at *
          simp [b_list_items_1, ef, ec, la'])
    X.length [.b (.im (.tup (lst X))), .o (.il []), .o (.im (.int (0 : Nat))), .un] z0 ⟨[], X, .un, rfl, rfl, rfl, rfl⟩
  have d := sp X [] (by simp)
  obtain ⟨a1, _, a3⟩ := atI_drop (L := lst X) (k := (flat X).length) (a := nilT) (l := []) d
  simp only [Int.natCast_zero] at e
  generalize lst X = L at *
  generalize X.map T.tup = X' at *
  simp [m_list_items, runP, c_list_items, e, a1]
end Law

namespace Law
open PySem PySem.Spec PyProof.Rows L2 MM
/-! ### terms numbered anew, by the program -/
theorem D_flat : ∀ (X : List (List T)) (acc : List Int), (flat X).foldl dstep acc = X.flatten.foldl dstep acc
  | [], acc => rfl
  | x :: X, acc => by
    show (x ++ flat X).foldl dstep (dstep acc dot) = _
    have : dstep acc dot = acc := by simp [dstep, num]
    rw [this, List.foldl_append, D_flat X, List.flatten_cons, List.foldl_append]
theorem D_lst (X : List (List T)) : D (lst X) = D X.flatten := by
  unfold D lst
  rw [List.foldl_append, D_flat]
  simp [dstep, num]
theorem map_flat (g : T → T) (hd : g dot = dot) : ∀ X : List (List T), (flat X).map g = flat (X.map (List.map g))
  | [] => rfl
  | x :: X => by simp [flat, map_flat g hd X, hd]
def numb (f : Int) (X : List (List T)) : List (List T) := X.map (List.map (rn f (D X.flatten)))
theorem map_lst (f : Int) (A : List Int) (X : List (List T)) : (lst X).map (rn f A) = lst (X.map (List.map (rn f A))) := by
  unfold lst
  rw [List.map_append, map_flat _ (by simp [rn, num])]
  simp [rn, num]
theorem node_rn {w w' f : Int} {A : List Int} {t : T} (h : Node w t) (hf : 0 ≤ f) (hA : ∀ n, num t = some n → n ∈ A) (hw : f + (A.length : Nat) ≤ w') : Node w' (rn f A t) := by
  cases h with
  | @v n h1 h2 =>
    have : A.idxOf n < A.length := List.idxOf_lt_length_of_mem (hA n rfl)
    show Node w' (.tup [S "v", .int (f + (A.idxOf n : Nat))])
    exact .v (by omega) (by omega)
  | i h1 h2 => exact .i h1 h2
  | f h1 h2 h3 => exact .f h1 h2 h3
theorem ar_rn {w f : Int} {A : List Int} {t : T} (h : Node w t) : arT (rn f A t) = arT t := by
  cases h <;> simp [rn, num, arT]
theorem need_rn {w f : Int} {A : List Int} : ∀ {ts : List T} {m : Nat}, (∀ t ∈ ts, Node w t) → need m (ts.map (rn f A)) = need m ts
  | [], m, _ => rfl
  | t :: ts, 0, _ => rfl
  | t :: ts, m + 1, h => by
    show need (m + arT (rn f A t)) (ts.map (rn f A)) = need (m + arT t) ts
    rw [ar_rn (h t (by simp)), need_rn fun u hu => h u (by simp [hu])]
theorem term_rn {w w' f : Int} {A : List Int} {x : List T} (h : Term w x) (hf : 0 ≤ f) (hA : ∀ t ∈ x, ∀ n, num t = some n → n ∈ A) (hw : f + (A.length : Nat) ≤ w') : Term w' (x.map (rn f A)) :=
  ⟨fun u hu => by obtain ⟨t, ht, rfl⟩ := List.mem_map.mp hu; exact node_rn (h.nodes t ht) hf (hA t ht) hw, by rw [need_rn h.nodes]; exact h.whole⟩
theorem D_len (ts : List T) : (D ts).length ≤ ts.length := by
  have := fold_len ts []
  rw [List.length_nil, Nat.zero_add] at this
  exact this
theorem numb_terms {w : Int} {f : Int} {X : List (List T)} (h : ∀ x ∈ X, Term w x) (hf : 0 ≤ f) {w' : Int} (hw : f + (X.flatten.length : Nat) ≤ w') : ∀ y ∈ numb f X, Term w' y := fun y hy => by
  obtain ⟨x, hx, rfl⟩ := List.mem_map.mp hy
  have := D_len X.flatten
  exact term_rn (h x hx) hf (fun t ht n e => D_mem (acc := []) (.inr ⟨t, List.mem_flatten.mpr ⟨x, hx, ht⟩, e⟩)) (by omega)
theorem numb_len (f : Int) (X : List (List T)) : (numb f X).length = X.length := by simp [numb]
theorem fl_map (g : T → T) : ∀ X : List (List T), (flat (X.map (List.map g))).length = (flat X).length
  | [] => rfl
  | x :: X => by have := fl_map g X; simp [flat] at *; omega
theorem node_mono {w w' : Int} (h : w ≤ w') {t : T} (ht : Node w t) : Node w' t := by
  cases ht with
  | v a b => exact .v a (by omega)
  | i a b => exact .i a b
  | f a b c => exact .f a b c
theorem term_mono {w w' : Int} (h : w ≤ w') {x : List T} (hx : Term w x) : Term w' x := ⟨fun t ht => node_mono h (hx.nodes t ht), hx.whole⟩
theorem numbered_ok {w : Int} {X : List (List T)} (f : Int) (hf : 0 ≤ f) (h : ∀ x ∈ X, Term w x) (hl : (flat X).length ≤ 9000000) : m_numbered [.il (X.map .tup), .im (.int f)] = .ok (.il ((numb f X).map .tup)) z0 := by
  have e1 := lterm_non X hl
  have ll : (lst X).length ≤ 10000000 := by simp [lst]; omega
  have e2 := renumber_ok f (lst_nodes h) ll
  rw [D_lst, map_lst] at e2
  have e3 := litems_ok (X := numb f X) (w := f + (X.flatten.length : Nat)) (numb_terms h hf (Int.le_refl _)) (by unfold numb; rw [fl_map]; exact hl)
  have en : X.map (List.map (rn f (D X.flatten))) = numb f X := rfl
  rw [en] at e2
  generalize X.map T.tup = X' at *
  generalize (numb f X).map T.tup = Y' at *
  simp [m_numbered, runP, c_numbered, e1, e2, e3]
/-! ### a number that is free -/
def frsh (a : Int) (ds : List Int) : Int := ds.foldl (fun a n => max a (n + 1)) a
def fstep (a : Int) (t : T) : Int := match num t with
  | some n => max a (n + 1)
  | none => a
theorem frsh_ge : ∀ (ds : List Int) (a : Int), a ≤ frsh a ds ∧ ∀ n ∈ ds, n + 1 ≤ frsh a ds
  | [], a => ⟨Int.le_refl _, by simp⟩
  | d :: ds, a => by
    obtain ⟨h1, h2⟩ := frsh_ge ds (max a (d + 1))
    have e : frsh a (d :: ds) = frsh (max a (d + 1)) ds := rfl
    rw [e]
    refine ⟨by omega, fun n hn => ?_⟩
    rcases List.mem_cons.mp hn with rfl | hn
    · omega
    · exact h2 n hn
theorem frsh_fold : ∀ (ts : List T) (ds : List Int), frsh 0 (ts.foldl dstep ds) = ts.foldl fstep (frsh 0 ds)
  | [], ds => rfl
  | t :: ts, ds => by
    rw [List.foldl_cons, List.foldl_cons, frsh_fold ts]
    congr 1
    unfold dstep fstep
    split
    · rename_i n e
      try simp only [e]
      unfold dn
      split
      · rename_i c
        have := (frsh_ge ds 0).2 n c
        omega
      · unfold frsh; rw [List.foldl_append]; rfl
    · rename_i e
      try simp only [e]
def fresh (X : List (List T)) : Int := X.flatten.foldl fstep 0
theorem fresh_D (X : List (List T)) : fresh X = frsh 0 (D X.flatten) := by
  unfold fresh D
  rw [frsh_fold]; rfl
theorem fresh_ge {w : Int} {X : List (List T)} : 0 ≤ fresh X := by rw [fresh_D]; exact (frsh_ge _ 0).1
theorem fold_le {w : Int} (hw : 0 ≤ w) : ∀ (ts : List T) (a : Int), a ≤ w → (∀ t ∈ ts, Node w t) → ts.foldl fstep a ≤ w
  | [], a, ha, _ => ha
  | t :: ts, a, ha, h => by
    refine fold_le hw ts _ ?_ fun u hu => h u (by simp [hu])
    cases h t (by simp) with
    | @v n h1 h2 => simp only [fstep, num]; omega
    | i h1 h2 => exact ha
    | f h1 h2 h3 => exact ha
theorem fresh_le {w : Int} (hw : 0 ≤ w) {X : List (List T)} (h : ∀ x ∈ X, Term w x) : fresh X ≤ w := fold_le hw _ 0 hw fun t ht => by
  obtain ⟨x, hx, ht⟩ := List.mem_flatten.mp ht
  exact (h x hx).nodes t ht
theorem nn_loop (A : Sv) (z : Zs) : ∀ (ds : List Int) (a : Int) (x : Sv), ∃ x', sTurns (gN 2) b_next_number_1 (ds.map .int) [A, .o (.im (.int a)), x] z = .nx [A, .o (.im (.int (frsh a ds))), x'] z
  | [], a, x => ⟨x, by simp [frsh]⟩
  | d :: ds, a, x => by
    obtain ⟨x', e2⟩ := nn_loop A z ds (max a (d + 1)) (.o (.im (.int d)))
    have e1 : b_next_number_1 [A, .o (.im (.int a)), .o (.im (.int d))] z = .nx [A, .o (.im (.int (max a (d + 1)))), .o (.im (.int d))] z := by
      simp [b_next_number_1]
      split <;> omega
    have eg : gN 2 (.int d) [A, .o (.im (.int a)), x] = some [A, .o (.im (.int a)), .o (.im (.int d))] := rfl
    have ef : frsh a (d :: ds) = frsh (max a (d + 1)) ds := rfl
    exact ⟨x', by rw [ef]; simp only [List.map_cons, sTurns, eg, e1, e2]⟩
theorem next_ok {w : Int} {X : List (List T)} (h : ∀ x ∈ X, Term w x) (hl : (flat X).length ≤ 9000000) : m_next_number [.il (X.map .tup)] = .ok (.im (.int (fresh X))) z0 := by
  have e1 := lterm_non X hl
  have ll : (lst X).length ≤ 10000000 := by simp [lst]; omega
  have e2 := variables_ok (lst_nodes h) ll
  rw [D_lst] at e2
  obtain ⟨x', e3⟩ := nn_loop (.b (.il (X.map .tup))) z0 (D X.flatten) 0 .un
  rw [← fresh_D] at e3
  generalize X.map T.tup = X' at *
  generalize (D X.flatten).map T.int = Y' at *
  simp [m_next_number, runP, c_next_number, e1, e2, e3, -sTurns]
/-! ### .. by the law -/
def ltab : Int → List Int → List (Key × T)
  | _, [] => []
  | i, n :: l => (.inl n, .tup [V1 i]) :: ltab (i + 1) l
theorem look_ltab : ∀ (l : List Int) (i n : Int), look (ltab i l) (.inl n) = if n ∈ l then some (.tup [V1 (i + (l.idxOf n : Nat))]) else none
  | [], i, n => by simp [ltab, look]
  | m :: l, i, n => by
    rw [ltab, look_consI, look_ltab l, List.idxOf_cons]
    by_cases c : m = n
    · subst c; simp
    · have c' : ¬ n = m := fun e => c e.symm
      rw [if_neg c]
      have hb : (m == n) = false := by simpa using c
      by_cases d : n ∈ l
      · rw [if_pos d, if_pos (by simp [d]), hb]
        simp; omega
      · rw [if_neg d, if_neg (by simp [d, c'])]
theorem ltab_len : ∀ (l : List Int) (i : Int), (ltab i l).length = l.length
  | [], i => rfl
  | m :: l, i => by simp [ltab, ltab_len l]
theorem ltab_app : ∀ (l : List Int) (i n : Int), ltab i (l ++ [n]) = ltab i l ++ [(.inl n, .tup [V1 (i + (l.length : Nat))])]
  | [], i, n => by simp [ltab]
  | m :: l, i, n => by
    simp only [List.cons_append, ltab, ltab_app l, List.length_cons]
    rw [show i + 1 + ((l.length : Nat) : Int) = i + ((l.length + 1 : Nat) : Int) by omega]
theorem ltab_put {l : List Int} {i n : Int} (h : n ∉ l) : putT (ltab i l) (.inl n) (.tup [V1 (i + (l.length : Nat))]) = ltab i (l ++ [n]) := by
  unfold putT
  rw [look_any, look_ltab, if_neg h, ltab_app]; rfl
theorem ltab_tb {w : Int} : ∀ {l : List Int} {i : Int}, 0 ≤ i → i + (l.length : Nat) ≤ w → TB w 1 (ltab i l)
  | [], i, _, _ => by simp [TB, ltab]
  | m :: l, i, h0, h => fun p hp => by
    simp only [List.length_cons] at h
    rcases List.mem_cons.mp hp with rfl | hp
    · exact ⟨[V1 i], rfl, ⟨fun t ht => by simp at ht; subst ht; exact .v h0 (by omega), rfl⟩, by simp⟩
    · exact ltab_tb (l := l) (i := i + 1) (by omega) (by omega) p hp
theorem ap_ltab {w f : Int} {A : List Int} : ∀ {ts : List T}, (∀ t ∈ ts, Node w t) → (∀ t ∈ ts, ∀ n, num t = some n → n ∈ A) → ts.flatMap (ap (ltab f A)) = ts.map (rn f A)
  | [], _, _ => rfl
  | t :: ts, h, hA => by
    rw [List.flatMap_cons, ap_ltab (fun u hu => h u (by simp [hu])) (fun u hu => hA u (by simp [hu])), List.map_cons]
    have : ap (ltab f A) t = [rn f A t] := by
      cases h t (by simp) with
      | @v n h1 h2 =>
        have e := look_ltab A f n
        rw [if_pos (hA (V1 n) (by simp) n rfl)] at e
        simp [ap, e, rn, num]
      | i h1 h2 => simp [ap, rn, num]
      | f h1 h2 h3 => simp [ap, rn, num]
    rw [this]; rfl
theorem ln_in {w : Int} (A B C E : Sv) (f : Int) (z : Zs) (hB : B = .b (.im (.int f))) : ∀ (ts : List T) (acc : List Int) (x : Sv), (∀ t ∈ ts, Node w t) → acc.length + ts.length ≤ 1000000 → ∃ x', sTurns (gN 5) b__law_numbered_1 ts [A, B, .o (.dk (ltab f acc)), C, E, x] z = .nx [A, B, .o (.dk (ltab f (ts.foldl dstep acc))), C, E, x'] z
  | [], acc, x, _, _ => ⟨x, by simp⟩
  | t :: ts, acc, x, h, hl => by
    subst hB
    simp only [List.length_cons] at hl
    have ev := lvar_eq (h t (by simp))
    have hd : (ltab f acc).length < 16777216 := by rw [ltab_len]; omega
    have hdl := ltab_len acc f
    have e1 : b__law_numbered_1 [A, .b (.im (.int f)), .o (.dk (ltab f acc)), C, E, .o (.im t)] z = .nx [A, .b (.im (.int f)), .o (.dk (ltab f (dstep acc t))), C, E, .o (.im t)] z := by
      cases h t (by simp) with
      | @v n =>
        simp at ev
        by_cases c : n ∈ acc
        · have el := look_ltab acc f n
          rw [if_pos c] at el
          have ed : dn acc n = acc := by simp [dn, c]
          simp [b__law_numbered_1, ev, dstep, num, ed, T.key?, el]
        · have el := look_ltab acc f n
          rw [if_neg c] at el
          have ed : dn acc n = acc ++ [n] := by simp [dn, c]
          have ep := ltab_put (i := f) c
          simp [b__law_numbered_1, ev, dstep, num, ed, T.key?, el, hd, hdl, ep, show acc.length < 16777216 by omega]
      | i => simp at ev; simp [b__law_numbered_1, ev, dstep, num]
      | f => simp at ev; simp [b__law_numbered_1, ev, dstep, num]
    have := dstep_len acc t
    obtain ⟨x', e2⟩ := ln_in A (.b (.im (.int f))) C E f z rfl ts (dstep acc t) (.o (.im t)) (fun u hu => h u (by simp [hu])) (by omega)
    have eg : gN 5 t [A, .b (.im (.int f)), .o (.dk (ltab f acc)), C, E, x] = some [A, .b (.im (.int f)), .o (.dk (ltab f acc)), C, E, .o (.im t)] := rfl
    exact ⟨x', by simp only [sTurns, eg, e1, List.foldl_cons]; exact e2⟩
theorem ln_out {w : Int} (A : Sv) (f : Int) (hf : 0 ≤ f) (z : Zs) : ∀ (X : List (List T)) (acc : List Int) (out : List T) (x4 x5 : Sv), (∀ x ∈ X, Term w x) → acc.length + X.flatten.length ≤ 100000 → out.length + X.length ≤ 100000 →
    ∃ x4' x5', sTurns (gN 4) b__law_numbered_2 (X.map .tup) [A, .b (.im (.int f)), .o (.dk (ltab f acc)), .o (.il out), x4, x5] z = .nx [A, .b (.im (.int f)), .o (.dk (ltab f (X.flatten.foldl dstep acc))), .o (.il (out ++ (X.map (List.map (rn f (X.flatten.foldl dstep acc)))).map .tup)), x4', x5'] z
  | [], acc, out, x4, x5, _, _, _ => ⟨x4, x5, by simp⟩
  | x :: X, acc, out, x4, x5, h, hl, ho => by
    simp only [List.flatten_cons, List.length_append, List.length_cons] at hl ho
    have hx := h x (by simp)
    obtain ⟨x5a, e1⟩ := ln_in A (.b (.im (.int f))) (.o (.il out)) (.o (.im (.tup x))) f z rfl x acc x5 hx.nodes (by omega)
    have hlen := fold_len x acc
    have hA : ∀ t ∈ x, ∀ n, num t = some n → n ∈ x.foldl dstep acc := fun t ht n e => D_mem (.inr ⟨t, ht, e⟩)
    have e2 := lput_ok (ltab_tb (l := x.foldl dstep acc) (i := f) (w := max w (f + (x.foldl dstep acc).length)) hf (by omega)) ⟨by decide, by decide⟩ (fun t ht => node_mono (Int.le_max_left _ _) (hx.nodes t ht)) (ts := x) (by omega)
    rw [ap_ltab hx.nodes hA] at e2
    have pre := fold_pre X.flatten (x.foldl dstep acc)
    have em : x.map (rn f (x.foldl dstep acc)) = x.map (rn f (X.flatten.foldl dstep (x.foldl dstep acc))) := List.map_congr_left fun t ht => by
      unfold rn
      split
      · rename_i n e
        rw [idx_pre pre (hA t ht n e)]
      · rfl
    rw [em] at e2
    obtain ⟨x4', x5', e3⟩ := ln_out A f hf z X (x.foldl dstep acc) (out ++ [.tup (x.map (rn f (X.flatten.foldl dstep (x.foldl dstep acc))))]) (.o (.im (.tup x))) x5a (fun y hy => h y (by simp [hy])) (by omega) (by simp; omega)
    rw [List.append_assoc] at e3
    refine ⟨x4', x5', ?_⟩
    have eg : gN 4 (.tup x) [A, .b (.im (.int f)), .o (.dk (ltab f acc)), .o (.il out), x4, x5] = some [A, .b (.im (.int f)), .o (.dk (ltab f acc)), .o (.il out), .o (.im (.tup x)), x5] := rfl
    rw [List.flatten_cons, List.foldl_append]
    generalize X.flatten.foldl dstep (x.foldl dstep acc) = R at *
    generalize ltab f (x.foldl dstep acc) = L at *
    generalize ltab f acc = L0 at *
    have eb : b__law_numbered_2 [A, .b (.im (.int f)), .o (.dk L0), .o (.il out), .o (.im (.tup x)), x5] z = .nx [A, .b (.im (.int f)), .o (.dk L), .o (.il (out ++ [.tup (x.map (rn f R))])), .o (.im (.tup x)), x5a] z := by
      generalize x.map (rn f R) = y at *
      simp [b__law_numbered_2, e1, e2, -sTurns, show out.length < 16777216 by omega]
    simp only [List.map_cons, sTurns, eg, eb, e3]
    rfl
theorem lnumbered_ok {w : Int} {X : List (List T)} (f : Int) (hf : 0 ≤ f) (h : ∀ x ∈ X, Term w x) (hl : (flat X).length ≤ 90000) : m__law_numbered [.il (X.map .tup), .im (.int f)] = .ok (.il ((numb f X).map .tup)) z0 := by
  rw [fl_len] at hl
  obtain ⟨x4, x5, e⟩ := ln_out (.b (.il (X.map .tup))) f hf z0 X [] [] .un .un h (by rw [List.length_nil]; omega) (by rw [List.length_nil]; omega)
  rw [List.nil_append] at e
  have e0 : ltab f [] = [] := rfl
  rw [e0] at e
  have en : X.map (List.map (rn f (X.flatten.foldl dstep []))) = numb f X := rfl
  rw [en] at e
  generalize X.map T.tup = X' at *
  generalize (numb f X).map T.tup = Y' at *
  simp [m__law_numbered, runP, c__law_numbered, e, -sTurns]
theorem lf_in {w : Int} (A C : Sv) (z : Zs) : ∀ (ts : List T) (a : Int) (x : Sv), (∀ t ∈ ts, Node w t) → ∃ x', sTurns (gN 3) b__law_fresh_1 ts [A, .o (.im (.int a)), C, x] z = .nx [A, .o (.im (.int (ts.foldl fstep a))), C, x'] z
  | [], a, x, _ => ⟨x, by simp⟩
  | t :: ts, a, x, h => by
    have ev := lvar_eq (h t (by simp))
    obtain ⟨x', e2⟩ := lf_in A C z ts (fstep a t) (.o (.im t)) fun u hu => h u (by simp [hu])
    have e1 : b__law_fresh_1 [A, .o (.im (.int a)), C, .o (.im t)] z = .nx [A, .o (.im (.int (fstep a t))), C, .o (.im t)] z := by
      cases h t (by simp) with
      | @v n => simp at ev; simp [b__law_fresh_1, ev, fstep, num]; split <;> omega
      | i => simp at ev; simp [b__law_fresh_1, ev, fstep, num]
      | f => simp at ev; simp [b__law_fresh_1, ev, fstep, num]
    have eg : gN 3 t [A, .o (.im (.int a)), C, x] = some [A, .o (.im (.int a)), C, .o (.im t)] := rfl
    exact ⟨x', by simp only [sTurns, eg, e1, List.foldl_cons]; exact e2⟩
theorem lf_out {w : Int} (A : Sv) (z : Zs) : ∀ (X : List (List T)) (a : Int) (x2 x3 : Sv), (∀ x ∈ X, Term w x) → ∃ x2' x3', sTurns (gN 2) b__law_fresh_2 (X.map .tup) [A, .o (.im (.int a)), x2, x3] z = .nx [A, .o (.im (.int (X.flatten.foldl fstep a))), x2', x3'] z
  | [], a, x2, x3, _ => ⟨x2, x3, by simp⟩
  | x :: X, a, x2, x3, h => by
    obtain ⟨x3a, e1⟩ := lf_in A (.o (.im (.tup x))) z x a x3 (h x (by simp)).nodes
    obtain ⟨x2', x3', e2⟩ := lf_out A z X (x.foldl fstep a) (.o (.im (.tup x))) x3a fun y hy => h y (by simp [hy])
    have eg : gN 2 (.tup x) [A, .o (.im (.int a)), x2, x3] = some [A, .o (.im (.int a)), .o (.im (.tup x)), x3] := rfl
    have eb : b__law_fresh_2 [A, .o (.im (.int a)), .o (.im (.tup x)), x3] z = .nx [A, .o (.im (.int (x.foldl fstep a))), .o (.im (.tup x)), x3a] z := by
      simp [b__law_fresh_2, e1, -sTurns]
    refine ⟨x2', x3', ?_⟩
    rw [List.flatten_cons, List.foldl_append]
    simp only [List.map_cons, sTurns, eg, eb, e2]
theorem lfresh_ok {w : Int} {X : List (List T)} (h : ∀ x ∈ X, Term w x) : m__law_fresh [.il (X.map .tup)] = .ok (.im (.int (fresh X))) z0 := by
  obtain ⟨x2, x3, e⟩ := lf_out (.b (.il (X.map .tup))) z0 X 0 .un .un h
  have en : X.flatten.foldl fstep 0 = fresh X := rfl
  rw [en] at e
  generalize X.map T.tup = X' at *
  simp [m__law_fresh, runP, c__law_fresh, e, -sTurns]
end Law

namespace Law
open PySem PySem.Spec PyProof.Rows L2 MM
section
variable {w : Int}
abbrev conj : T := .tup [S "f", S ",", .int 2]
abbrev rule : T := .tup [S "f", S ":-", .int 2]
/-- the two parts of a compound term -/
theorem parts_two {s : String} (hs : nameB (Str.ofString s) = true) {a b : List T} (ha : Term w a) (hb : Term w b) (hl : a.length + b.length ≤ 100000) : m_parts [.im (.tup (.tup [S "f", S s, .int 2] :: (a ++ b)))] = .ok (.il [.tup a, .tup b]) z0 := by
  have hh : Node w (.tup [S "f", S s, .int 2]) := .f hs (by decide) (by decide)
  have nodes : ∀ t ∈ (.tup [S "f", S s, .int 2] :: (a ++ b) : List T), Node w t := fun t ht => by
    rcases List.mem_cons.mp ht with rfl | ht
    · exact hh
    · rcases List.mem_append.mp ht with q | q
      · exact ha.nodes t q
      · exact hb.nodes t q
  have hsym := sym_eq hh
  simp at hsym
  have e1 := eof_ok (L := .tup [S "f", S s, .int 2] :: (a ++ b)) (a := 1) nodes (by simp) 1 (by
    show need 2 (a ++ b) = some 0
    have := need_more (j := 1) ha.whole
    rw [need_app (k := 1) (by simpa using this)]
    exact hb.whole)
  have d1 : (.tup [S "f", S s, .int 2] :: (a ++ b) : List T).drop 1 = a ++ b := rfl
  rw [d1, skip_app ha.whole] at e1
  have e2 := eof_ok (L := .tup [S "f", S s, .int 2] :: (a ++ b)) (a := 1 + a.length) nodes (by simp; omega) 0 (by
    rw [show 1 + a.length = a.length + 1 by omega, List.drop_succ_cons, List.drop_left]
    exact hb.whole)
  have d2 : (.tup [S "f", S s, .int 2] :: (a ++ b) : List T).drop (1 + a.length) = b := by
    rw [show 1 + a.length = a.length + 1 by omega, List.drop_succ_cons, List.drop_left]
  have sb : skip 1 b = [] := by
    have := skip_app (r := []) hb.whole
    simpa using this
  rw [d2, sb] at e2
  have n1 : (.tup [S "f", S s, .int 2] :: (a ++ b) : List T).length - b.length = 1 + a.length := by simp; omega
  have n2 : (.tup [S "f", S s, .int 2] :: (a ++ b) : List T).length - ([] : List T).length = 1 + a.length + b.length := by simp; omega
  rw [n1] at e1
  rw [n2] at e2
  have c1 : cut (.tup [S "f", S s, .int 2] :: (a ++ b) : List T) (some 1) (some ((1 + a.length : Nat) : Int)) = a := by
    rw [cut_two (by omega) (by omega)]
    rw [show ((1 : Int)).toNat = 1 from rfl, d1, show ((1 + a.length : Nat) : Int).toNat - 1 = a.length by omega, List.take_left]
  have c2 : cut (.tup [S "f", S s, .int 2] :: (a ++ b) : List T) (some ((1 + a.length : Nat) : Int)) (some ((1 + a.length + b.length : Nat) : Int)) = b := by
    rw [cut_two (by omega) (by omega)]
    simp only [Int.toNat_natCast]
    rw [d2, show 1 + a.length + b.length - (1 + a.length) = b.length by omega, List.take_length]
  generalize hL : (.tup [S "f", S s, .int 2] :: (a ++ b) : List T) = L at *
  have h0 : atI L 0 = some (.tup [S "f", S s, .int 2]) := by rw [← hL]; simp
  have r2 : rngI 0 2 = [.int 0, .int 1] := rfl
  have i1 : ((1 : Nat) : Int) = 1 := rfl
  rw [i1] at e1
  clear n1 n2 d1 d2 nodes hL
  generalize hQ : ((1 + a.length + b.length : Nat) : Int) = Q at *
  generalize hP : ((1 + a.length : Nat) : Int) = P at *
  simp [m_parts, runP, c_parts, h0, hsym, MM.inR_of (i := 2) (by decide) (by decide), r2]
  simp [b_parts_1, e1, e2, c1, c2]
/-- the two parts of a compound term -/
theorem lparts_two {s : String} (hs : nameB (Str.ofString s) = true) {a b : List T} (ha : Term w a) (hb : Term w b) (hl : a.length + b.length ≤ 100000) : m__law_parts [.im (.tup (.tup [S "f", S s, .int 2] :: (a ++ b)))] = .ok (.il [.tup a, .tup b]) z0 := by
  have hh : Node w (.tup [S "f", S s, .int 2]) := .f hs (by decide) (by decide)
  have nodes : ∀ t ∈ (.tup [S "f", S s, .int 2] :: (a ++ b) : List T), Node w t := fun t ht => by
    rcases List.mem_cons.mp ht with rfl | ht
    · exact hh
    · rcases List.mem_append.mp ht with q | q
      · exact ha.nodes t q
      · exact hb.nodes t q
  have e1 := lend_ok (L := .tup [S "f", S s, .int 2] :: (a ++ b)) (a := 1) nodes (by simp) 1 (by
    show need 2 (a ++ b) = some 0
    have := need_more (j := 1) ha.whole
    rw [need_app (k := 1) (by simpa using this)]
    exact hb.whole)
  have d1 : (.tup [S "f", S s, .int 2] :: (a ++ b) : List T).drop 1 = a ++ b := rfl
  rw [d1, skip_app ha.whole] at e1
  have e2 := lend_ok (L := .tup [S "f", S s, .int 2] :: (a ++ b)) (a := 1 + a.length) nodes (by simp; omega) 0 (by
    rw [show 1 + a.length = a.length + 1 by omega, List.drop_succ_cons, List.drop_left]
    exact hb.whole)
  have d2 : (.tup [S "f", S s, .int 2] :: (a ++ b) : List T).drop (1 + a.length) = b := by
    rw [show 1 + a.length = a.length + 1 by omega, List.drop_succ_cons, List.drop_left]
  have sb : skip 1 b = [] := by
    have := skip_app (r := []) hb.whole
    simpa using this
  rw [d2, sb] at e2
  have n1 : (.tup [S "f", S s, .int 2] :: (a ++ b) : List T).length - b.length = 1 + a.length := by simp; omega
  have n2 : (.tup [S "f", S s, .int 2] :: (a ++ b) : List T).length - ([] : List T).length = 1 + a.length + b.length := by simp; omega
  rw [n1] at e1
  rw [n2] at e2
  have c1 : cut (.tup [S "f", S s, .int 2] :: (a ++ b) : List T) (some 1) (some ((1 + a.length : Nat) : Int)) = a := by
    rw [cut_two (by omega) (by omega)]
    rw [show ((1 : Int)).toNat = 1 from rfl, d1, show ((1 + a.length : Nat) : Int).toNat - 1 = a.length by omega, List.take_left]
  have c2 : cut (.tup [S "f", S s, .int 2] :: (a ++ b) : List T) (some ((1 + a.length : Nat) : Int)) (some ((1 + a.length + b.length : Nat) : Int)) = b := by
    rw [cut_two (by omega) (by omega)]
    simp only [Int.toNat_natCast]
    rw [d2, show 1 + a.length + b.length - (1 + a.length) = b.length by omega, List.take_length]
  have nn : (.tup [S "f", S s, .int 2] :: (a ++ b) : List T).length = 1 + a.length + b.length := by simp; omega
  have pa : 0 < a.length := List.length_pos_iff.mpr ha.ne
  have pb : 0 < b.length := List.length_pos_iff.mpr hb.ne
  generalize hL : (.tup [S "f", S s, .int 2] :: (a ++ b) : List T) = L at *
  have i1 : ((1 : Nat) : Int) = 1 := rfl
  rw [i1] at e1
  clear n1 n2 d1 d2 nodes hL hh
  have q1 : (1 : Int) < (L.length : Int) := by omega
  have q2 : ((1 + a.length : Nat) : Int) < (L.length : Int) := by omega
  have q3 : ¬ ((1 + a.length + b.length : Nat) : Int) < (L.length : Int) := by omega
  generalize hQ : ((1 + a.length + b.length : Nat) : Int) = Q at *
  generalize hP : ((1 + a.length : Nat) : Int) = P at *
  have w1 : sWh t__law_parts_2 b__law_parts_1 [.b (.im (.tup L)), .o (.il []), .o (.im (.int 1)), .un] z0 = .nx [.b (.im (.tup L)), .o (.il [.tup a, .tup b]), .o (.im (.int Q)), .o (.im (.int Q))] z0 := by
    rw [wh_step (q := .nx [.b (.im (.tup L)), .o (.il [.tup a]), .o (.im (.int P)), .o (.im (.int P))] z0) (by simp [t__law_parts_2]; omega) (by simp [b__law_parts_1, e1, c1])]
    show sWh t__law_parts_2 b__law_parts_1 [.b (.im (.tup L)), .o (.il [.tup a]), .o (.im (.int P)), .o (.im (.int P))] z0 = _
    rw [wh_step (q := .nx [.b (.im (.tup L)), .o (.il [.tup a, .tup b]), .o (.im (.int Q)), .o (.im (.int Q))] z0) (by simp [t__law_parts_2, q2]) (by simp [b__law_parts_1, e2, c2])]
    show sWh t__law_parts_2 b__law_parts_1 [.b (.im (.tup L)), .o (.il [.tup a, .tup b]), .o (.im (.int Q)), .o (.im (.int Q))] z0 = _
    rw [wh_stop (by simp [t__law_parts_2, q3])]
  simp [m__law_parts, runP, c__law_parts, w1]
abbrev tru : List T := [.tup [S "f", S "true", .int 0]]
theorem node_eqv {t u : T} (h1 : Node w t) (h2 : Node w u) (e : T.eqv t u = true) : t = u := by
  cases h1 <;> cases h2 <;> simp at e <;> simp_all
inductive Cj (w : Int) : List (List T) → List T → Prop
  | leaf {t : List T} : Term w t → t.head? ≠ some conj → Cj w [t] t
  | node {A B : List (List T)} {a b : List T} : Cj w A a → Cj w B b → Cj w (A ++ B) (conj :: (a ++ b))
theorem tr_conj {s : String} (hs : nameB (Str.ofString s) = true) {a b : List T} (ha : Term w a) (hb : Term w b) : Term w (.tup [S "f", S s, .int 2] :: (a ++ b)) := by
  refine ⟨fun t ht => ?_, ?_⟩
  · rcases List.mem_cons.mp ht with rfl | ht
    · exact .f hs (by decide) (by decide)
    · rcases List.mem_append.mp ht with q | q
      · exact ha.nodes t q
      · exact hb.nodes t q
  · show need 2 (a ++ b) = some 0
    have := need_more (j := 1) ha.whole
    rw [need_app (k := 1) (by simpa using this)]
    exact hb.whole
theorem Cj.tr {A : List (List T)} {a : List T} (h : Cj w A a) : Term w a := by
  induction h with
  | leaf h _ => exact h
  | node _ _ i j => exact tr_conj (by decide +kernel) i j
def isTru (t : List T) : Bool := eqvs t tru
def ft (A : List (List T)) : List (List T) := A.filter fun t => !isTru t
theorem ft_app (A B : List (List T)) : ft (A ++ B) = ft A ++ ft B := List.filter_append ..
def lens (W : List (List (List T) × List T)) : Nat := (W.map fun q => q.2.length).sum
theorem lens_app (V W : List (List (List T) × List T)) : lens (V ++ W) = lens V + lens W := by simp [lens]
theorem tr_cons {a : List T} (h : Term w a) : ∃ x xs, a = x :: xs ∧ Node w x := by
  cases a with
  | nil => exact absurd rfl h.ne
  | cons x xs => exact ⟨x, xs, rfl, h.nodes x (by simp)⟩
theorem lens_len {W : List (List (List T) × List T)} (h : ∀ q ∈ W, Cj w q.1 q.2) : W.length ≤ lens W := by
  induction W with
  | nil => simp
  | cons q W ih =>
    obtain ⟨x, xs, e, _⟩ := tr_cons (h q (by simp)).tr
    have := ih fun q hq => h q (by simp [hq])
    simp only [lens, List.map_cons, List.sum_cons, List.length_cons] at this ⊢
    rw [e, List.length_cons]; omega
def outs (W : List (List (List T) × List T)) : List (List T) := W.reverse.flatMap fun q => ft q.1
theorem node_conj : Node w conj := .f (by decide +kernel) (by decide) (by decide)
theorem conj_ok {A : List (List T)} {a : List T} (h : Cj w A a) (hl : a.length ≤ 50000) (hA : (ft A).length ≤ 50000) : m_conjuncts [.im (.tup a)] = .ok (.il ((ft A).map .tup)) z0 := by
  obtain ⟨S', z', e, x3, x4, x5, rfl, rfl⟩ := wh_ind (c := t_conjuncts_2) (b := b_conjuncts_1)
    (fun n S z => ∃ (F : List (List T)) (W : List (List (List T) × List T)) (x3 x4 x5 : Sv), S = [.b (.im (.tup a)), .o (.il (F.map .tup)), .o (.il (W.map fun q => .tup q.2)), x3, x4, x5] ∧ (∀ q ∈ W, Cj w q.1 q.2) ∧ F ++ outs W = ft A ∧ lens W ≤ n ∧ n ≤ 60000 ∧ z = z0)
    (fun S z => ∃ (x3 x4 x5 : Sv), S = [.b (.im (.tup a)), .o (.il ((ft A).map .tup)), .o (.il []), x3, x4, x5] ∧ z = z0)
    (fun n S z ⟨F, W, x3, x4, x5, eS, hW, ho, hn, hn2, ez⟩ => by
      subst eS ez
      rcases List.eq_nil_or_concat W with rfl | ⟨W, q, rfl⟩
      · left
        refine ⟨z0, by simp [t_conjuncts_2], x3, x4, x5, ?_, rfl⟩
        simp [outs] at ho
        rw [ho]; rfl
      · right
        rw [List.concat_eq_append] at *
        refine ⟨z0, by simp [t_conjuncts_2], ?_⟩
        have hW' : ∀ q ∈ W, Cj w q.1 q.2 := fun q hq => hW q (by simp [hq])
        have wl := lens_len hW'
        rw [lens_app] at hn
        have hF : F.length ≤ 50000 := by
          have := congrArg List.length ho
          rw [List.length_append] at this
          omega
        obtain ⟨A', a'⟩ := q
        have hq : Cj w A' a' := hW (A', a') (by simp)
        have o1 : outs (W ++ [(A', a')]) = ft A' ++ outs W := by simp [outs]
        rw [o1] at ho
        have l1 : lens [(A', a')] = a'.length := by simp [lens]
        rw [l1] at hn
        cases hq with
        | leaf ht hh =>
          obtain ⟨x, xs, rfl, hx⟩ := tr_cons ht
          have ne : T.eqv x conj = false := by
            cases c : T.eqv x conj with
            | false => rfl
            | true => exact absurd (by rw [node_eqv hx node_conj c]; rfl) hh
          have d1 : min x.dep 1 ≤ 64 := by omega
          have d2 : depS xs ≤ 1 := depS_le fun t h => (ht.nodes t (by simp [h])).dep
          have dx := hx.dep
          cases c : isTru (x :: xs) with
          | true =>
            have c' : eqvs (x :: xs) tru = true := c
            refine ⟨[.b (.im (.tup a)), .o (.il (F.map .tup)), .o (.il (W.map fun q => .tup q.2)), .o (.im (.tup (x :: xs))), x4, x5], z0, .inl ?_, n - 1, by simp at hn; omega, F, W, _, _, _, rfl, hW', ?_, by simp at hn; omega, by omega, rfl⟩
            · simp only [eqvs_cons] at c'
              simp [b_conjuncts_1, ne, d1, k_TRUE, c', show min (max x.dep (depS xs) + 1) 2 ≤ 64 by omega]
            · rw [← ho]; simp [ft, c]
          | false =>
            have c' : eqvs (x :: xs) tru = false := c
            refine ⟨[.b (.im (.tup a)), .o (.il ((F ++ [x :: xs]).map .tup)), .o (.il (W.map fun q => .tup q.2)), .o (.im (.tup (x :: xs))), x4, x5], z0, .inl ?_, n - 1, by simp at hn; omega, F ++ [x :: xs], W, _, _, _, rfl, hW', ?_, by simp at hn; omega, by omega, rfl⟩
            · simp only [eqvs_cons] at c'
              simp [b_conjuncts_1, ne, d1, k_TRUE, c', show min (max x.dep (depS xs) + 1) 2 ≤ 64 by omega, show F.length < 16777216 by omega]
            · rw [← ho]; simp [ft, c]
        | @node A1 B1 a1 b1 h1 h2 =>
          have ep := parts_two (s := ",") (by decide +kernel) h1.tr h2.tr (by simp at hn; omega)
          refine ⟨[.b (.im (.tup a)), .o (.il (F.map .tup)), .o (.il ((W ++ [(B1, b1), (A1, a1)]).map fun q => .tup q.2)), .o (.im (.tup (conj :: (a1 ++ b1)))), .o (.im (.tup a1)), .o (.im (.tup b1))], z0, .inl ?_, n - 1, by simp at hn; omega, F, W ++ [(B1, b1), (A1, a1)], _, _, _, rfl, fun q hq => ?_, ?_, ?_, by omega, rfl⟩
          · simp [b_conjuncts_1, ep, show W.length + 2 ≤ 16777216 by omega, show W.length ≤ 16777214 by omega]
          · rcases List.mem_append.mp hq with q' | q'
            · exact hW' q q'
            · simp at q'
              rcases q' with rfl | rfl
              · exact h2
              · exact h1
          · rw [← ho]
            simp [outs, ft_app]
          · rw [lens_app]
            simp at hn
            simp [lens]
            simp [lens] at hn
            omega) a.length [.b (.im (.tup a)), .o (.il []), .o (.il [.tup a]), .un, .un, .un] z0
    ⟨[], [(A, a)], .un, .un, .un, rfl, by simpa using h, by simp [outs], by simp [lens], by omega, rfl⟩
  simp [m_conjuncts, runP, c_conjuncts, e]
theorem lconj_ok {A : List (List T)} {a : List T} (h : Cj w A a) (hl : a.length ≤ 50000) (hA : (ft A).length ≤ 50000) : m__law_conjuncts [.im (.tup a)] = .ok (.il ((ft A).map .tup)) z0 := by
  obtain ⟨S', z', e, x3, x4, rfl, rfl⟩ := wh_ind (c := t__law_conjuncts_2) (b := b__law_conjuncts_1)
    (fun n S z => ∃ (F : List (List T)) (W : List (List (List T) × List T)) (x3 x4 : Sv), S = [.b (.im (.tup a)), .o (.il (F.map .tup)), .o (.il (W.map fun q => .tup q.2)), x3, x4] ∧ (∀ q ∈ W, Cj w q.1 q.2) ∧ F ++ outs W = ft A ∧ lens W ≤ n ∧ n ≤ 60000 ∧ z = z0)
    (fun S z => ∃ (x3 x4 : Sv), S = [.b (.im (.tup a)), .o (.il ((ft A).map .tup)), .o (.il []), x3, x4] ∧ z = z0)
    (fun n S z ⟨F, W, x3, x4, eS, hW, ho, hn, hn2, ez⟩ => by
      subst eS ez
      rcases List.eq_nil_or_concat W with rfl | ⟨W, q, rfl⟩
      · left
        refine ⟨z0, by simp [t__law_conjuncts_2], x3, x4, ?_, rfl⟩
        simp [outs] at ho
        rw [ho]; rfl
      · right
        rw [List.concat_eq_append] at *
        refine ⟨z0, by simp [t__law_conjuncts_2], ?_⟩
        have hW' : ∀ q ∈ W, Cj w q.1 q.2 := fun q hq => hW q (by simp [hq])
        have wl := lens_len hW'
        rw [lens_app] at hn
        have hF : F.length ≤ 50000 := by
          have := congrArg List.length ho
          rw [List.length_append] at this
          omega
        obtain ⟨A', a'⟩ := q
        have hq : Cj w A' a' := hW (A', a') (by simp)
        have o1 : outs (W ++ [(A', a')]) = ft A' ++ outs W := by simp [outs]
        rw [o1] at ho
        have l1 : lens [(A', a')] = a'.length := by simp [lens]
        rw [l1] at hn
        cases hq with
        | leaf ht hh =>
          obtain ⟨x, xs, rfl, hx⟩ := tr_cons ht
          have ne : T.eqv x conj = false := by
            cases c : T.eqv x conj with
            | false => rfl
            | true => exact absurd (by rw [node_eqv hx node_conj c]; rfl) hh
          have d1 : min x.dep 1 ≤ 64 := by omega
          have d2 : depS xs ≤ 1 := depS_le fun t h => (ht.nodes t (by simp [h])).dep
          have dx := hx.dep
          cases c : isTru (x :: xs) with
          | true =>
            have c' : eqvs (x :: xs) tru = true := c
            refine ⟨[.b (.im (.tup a)), .o (.il (F.map .tup)), .o (.il (W.map fun q => .tup q.2)), .o (.im (.tup (x :: xs))), x4], z0, .inl ?_, n - 1, by simp at hn; omega, F, W, _, _, rfl, hW', ?_, by simp at hn; omega, by omega, rfl⟩
            · simp only [eqvs_cons] at c'
              simp [b__law_conjuncts_1, ne, d1, c', show min (max x.dep (depS xs) + 1) 2 ≤ 64 by omega]
            · rw [← ho]; simp [ft, c]
          | false =>
            have c' : eqvs (x :: xs) tru = false := c
            refine ⟨[.b (.im (.tup a)), .o (.il ((F ++ [x :: xs]).map .tup)), .o (.il (W.map fun q => .tup q.2)), .o (.im (.tup (x :: xs))), x4], z0, .inl ?_, n - 1, by simp at hn; omega, F ++ [x :: xs], W, _, _, rfl, hW', ?_, by simp at hn; omega, by omega, rfl⟩
            · simp only [eqvs_cons] at c'
              simp [b__law_conjuncts_1, ne, d1, c', show min (max x.dep (depS xs) + 1) 2 ≤ 64 by omega, show F.length < 16777216 by omega]
            · rw [← ho]; simp [ft, c]
        | @node A1 B1 a1 b1 h1 h2 =>
          have ep := lparts_two (s := ",") (by decide +kernel) h1.tr h2.tr (by simp at hn; omega)
          refine ⟨[.b (.im (.tup a)), .o (.il (F.map .tup)), .o (.il ((W ++ [(B1, b1), (A1, a1)]).map fun q => .tup q.2)), .o (.im (.tup (conj :: (a1 ++ b1)))), .o (.il [.tup a1, .tup b1])], z0, .inl ?_, n - 1, by simp at hn; omega, F, W ++ [(B1, b1), (A1, a1)], _, _, rfl, fun q hq => ?_, ?_, ?_, by omega, rfl⟩
          · simp [b__law_conjuncts_1, ep, show W.length < 16777216 by omega, show W.length < 16777215 by omega, show W.length + 1 < 16777216 by omega, show W.length + 2 ≤ 16777216 by omega, show W.length ≤ 16777214 by omega]
          · rcases List.mem_append.mp hq with q' | q'
            · exact hW' q q'
            · simp at q'
              rcases q' with rfl | rfl
              · exact h2
              · exact h1
          · rw [← ho]
            simp [outs, ft_app]
          · rw [lens_app]
            simp at hn
            simp [lens]
            simp [lens] at hn
            omega) a.length [.b (.im (.tup a)), .o (.il []), .o (.il [.tup a]), .un, .un] z0
    ⟨[], [(A, a)], .un, .un, rfl, by simpa using h, by simp [outs], by simp [lens], by omega, rfl⟩
  simp [m__law_conjuncts, runP, c__law_conjuncts, e]
end
end Law

namespace Law
open PySem PySem.Spec PyProof.Rows L2 MM
def els : T → List T
  | .tup ts => ts
  | _ => []
def inL (L : List T) (s : Str) (a : Int) : Bool := L.any fun z => T.eqv z (.tup [.str s, .int a])
def igB (s : Str) (a : Int) : Bool := !inL (els k_CONTROL) s a && !inL (els k_BUILT_IN) s a
theorem ctl_eq (s : Str) (a : Int) : m_is_control [.im (.str s), .im (.int a)] = .ok (.im (.bl (inL (els k_CONTROL) s a))) z0 := by
  have e : k_CONTROL = .tup (els k_CONTROL) := rfl
  unfold m_is_control c_is_control
  rw [e]
  generalize els k_CONTROL = L
  simp [runP, inL, els, show min (depS L) 1 ≤ 64 by omega]
theorem blt_eq (s : Str) (a : Int) : m_is_built_in [.im (.str s), .im (.int a)] = .ok (.im (.bl (inL (els k_BUILT_IN) s a))) z0 := by
  have e : k_BUILT_IN = .tup (els k_BUILT_IN) := rfl
  unfold m_is_built_in c_is_built_in
  rw [e]
  generalize els k_BUILT_IN = L
  simp [runP, inL, els, show min (depS L) 1 ≤ 64 by omega]
def ig : T → Bool
  | .tup [.str _, .str s, .int a] => igB s a
  | _ => false
theorem ig_eq {w : Int} {h : T} (hn : Node w h) (r : List T) : m_is_goal [.im (.tup (h :: r))] = .ok (.im (.bl (ig h))) z0 := by
  have hs := sym_eq hn
  cases hn with
  | v a b => simp at hs; simp [m_is_goal, runP, c_is_goal, hs, ig]
  | i a b => simp at hs; simp [m_is_goal, runP, c_is_goal, hs, ig]
  | @f s a h1 h2 h3 =>
    simp at hs
    have e1 := ctl_eq s a
    have e2 := blt_eq s a
    simp only [ig, igB]
    generalize inL (els k_CONTROL) s a = b1 at *
    generalize inL (els k_BUILT_IN) s a = b2 at *
    cases b1 <;> cases b2 <;> simp [m_is_goal, runP, c_is_goal, hs, e1, e2]
def igt : List T → Bool
  | x :: _ => ig x
  | [] => false
theorem igt_eq {w : Int} {t : List T} (h : Term w t) : m_is_goal [.im (.tup t)] = .ok (.im (.bl (igt t))) z0 := by
  obtain ⟨x, xs, rfl, hx⟩ := tr_cons h
  exact ig_eq hx xs
theorem imS_map : ∀ ts : List T, imS (ts.map Val.im) = some ts
  | [] => rfl
  | t :: ts => by simp [imS_map ts]
theorem goal_loop {w : Int} (A B C D : Sv) (z : Zs) : ∀ (L : List (List T)) (x : Sv), (∀ t ∈ L, Term w t ∧ igt t = true) → ∃ x', sTurns (gN 4) b_head_and_goals_1 (L.map .tup) [A, B, C, D, x] z = .nx [A, B, C, D, x'] z
  | [], x, _ => ⟨x, rfl⟩
  | t :: L, x, h => by
    have eg : gN 4 (.tup t) [A, B, C, D, x] = some [A, B, C, D, .o (.im (.tup t))] := rfl
    have e := igt_eq (h t (by simp)).1
    rw [(h t (by simp)).2] at e
    obtain ⟨x', e2⟩ := goal_loop A B C D z L (.o (.im (.tup t))) fun u hu => h u (by simp [hu])
    have e1 : b_head_and_goals_1 [A, B, C, D, .o (.im (.tup t))] z = .nx [A, B, C, D, .o (.im (.tup t))] z := by simp [b_head_and_goals_1, e]
    exact ⟨x', by simp only [List.map_cons, sTurns, eg, e1, e2]⟩
/-- a good goal -/
def Gd (w : Int) (t : List T) : Prop := Term w t ∧ igt t = true
/-- a definite clause, its head and its goals -/
inductive Cl (w : Int) : List T → List T → List (List T) → Prop
  | fact {h : List T} : Gd w h → h.head? ≠ some rule → Cl w h h []
  | rule {h b : List T} {A : List (List T)} : Gd w h → Cj w A b → (∀ g ∈ ft A, igt g = true) → Cl w (Law.rule :: (h ++ b)) h (ft A)
theorem Cj.all {w : Int} {A : List (List T)} {b : List T} (h : Cj w A b) : ∀ t ∈ A, Term w t := by
  induction h with
  | leaf h _ => intro t ht; simp at ht; subst ht; exact h
  | node _ _ i j => intro t ht; exact (List.mem_append.mp ht).elim (i t) (j t)
theorem Cj.len {w : Int} {A : List (List T)} {b : List T} (h : Cj w A b) : A.length ≤ b.length := by
  induction h with
  | leaf h _ => exact List.length_pos_iff.mpr h.ne
  | node _ _ i j => simp; omega
theorem ft_sub {A : List (List T)} {g : List T} (h : g ∈ ft A) : g ∈ A := (List.mem_filter.mp h).1
theorem ft_len (A : List (List T)) : (ft A).length ≤ A.length := List.length_filter_le _ _
theorem Cl.gd {w : Int} {c h : List T} {gs : List (List T)} (hc : Cl w c h gs) : Gd w h ∧ ∀ g ∈ gs, Gd w g := by
  cases hc with
  | fact h _ => exact ⟨h, by simp⟩
  | rule h hb hg => exact ⟨h, fun g q => ⟨hb.all g (ft_sub q), hg g q⟩⟩
theorem tr_tru {w : Int} : Term w tru := ⟨fun t ht => by simp at ht; subst ht; exact .f (by decide +kernel) (by decide) (by decide), rfl⟩
theorem conj_tru : m_conjuncts [.im (.tup tru)] = .ok (.il []) z0 := by
  have e : ft [tru] = [] := by simp [ft, isTru, eqvs_self]
  have := conj_ok (w := 1) (.leaf tr_tru (by simp)) (by simp) (by rw [e]; simp)
  rw [e] at this
  exact this
theorem node_rule {w : Int} : Node w rule := .f (by decide +kernel) (by decide) (by decide)
theorem not_rule {w : Int} {x : T} {xs : List T} (hx : Node w x) (h : (x :: xs).head? ≠ some rule) : T.eqv x rule = false := by
  cases c : T.eqv x rule with
  | false => rfl
  | true => exact absurd (by rw [eqv_node hx (node_rule (w := w)) c]; rfl) h
theorem hg_ok {w : Int} {c h : List T} {gs : List (List T)} (hc : Cl w c h gs) (hl : c.length ≤ 50000) : m_head_and_goals [.im (.tup c)] = .ok (.tup [.im (.tup h), .il (gs.map .tup)]) z0 := by
  have all := hc.gd
  cases hc with
  | fact hh hr =>
    obtain ⟨x, xs, rfl, hx⟩ := tr_cons hh.1
    have ne := not_rule hx hr
    have dx := hx.dep
    obtain ⟨x', lp⟩ := goal_loop (w := w) (.b (.im (.tup (x :: xs)))) (.o (.im (.tup (x :: xs)))) (.o (.im (.tup tru))) (.o (.il [])) z0 [x :: xs] .un (fun t ht => by simp at ht; subst ht; exact hh)
    rw [List.map_cons, List.map_nil] at lp
    have ct := conj_tru
    simp [m_head_and_goals, runP, c_head_and_goals, k_TRUE, ne, ct, lp, -sTurns, show min x.dep 1 ≤ 64 by omega]
  | @rule h b A hh hb hg =>
    have lb := hb.len
    have lA := ft_len A
    have e1 := parts_two (s := ":-") (by decide +kernel) hh.1 hb.tr (by simp at hl; omega)
    have e2 := conj_ok hb (by simp at hl; omega) (by simp at hl; omega)
    obtain ⟨x', lp⟩ := goal_loop (w := w) (.b (.im (.tup (rule :: (h ++ b))))) (.o (.im (.tup h))) (.o (.im (.tup b))) (.o (.il ((ft A).map .tup))) z0 (h :: ft A) .un (fun t ht => by
      rcases List.mem_cons.mp ht with rfl | ht
      · exact hh
      · exact all.2 t ht)
    rw [List.map_cons] at lp
    have im := imS_map ((ft A).map T.tup)
    have lG : ((ft A).map T.tup).length ≤ 50000 := by simp at hl ⊢; omega
    generalize (ft A).map T.tup = G at *
    simp [m_head_and_goals, runP, c_head_and_goals, k_TRUE, e1, e2, lp, im, -sTurns, show G.length < 16777216 by omega, show G.length + 1 ≤ 16777216 by omega, show G.length ≤ 16777215 by omega]
theorem lrow_ok {w : Int} {c h : List T} {gs : List (List T)} (hc : Cl w c h gs) (hl : c.length ≤ 50000) : m__law_row [.im (.tup c)] = .ok (.il ((h :: gs).map .tup)) z0 := by
  cases hc with
  | fact hh hr =>
    obtain ⟨x, xs, rfl, hx⟩ := tr_cons hh.1
    have ne := not_rule hx hr
    have dx := hx.dep
    simp [m__law_row, runP, c__law_row, ne, show min x.dep 1 ≤ 64 by omega]
  | @rule h b A hh hb hg =>
    have lb := hb.len
    have lA := ft_len A
    have e1 := lparts_two (s := ":-") (by decide +kernel) hh.1 hb.tr (by simp at hl; omega)
    have e2 := lconj_ok hb (by simp at hl; omega) (by simp at hl; omega)
    have lG : ((ft A).map T.tup).length ≤ 50000 := by simp at hl ⊢; omega
    rw [List.map_cons]
    generalize (ft A).map T.tup = G at *
    simp [m__law_row, runP, c__law_row, e1, e2, show G.length < 16777216 by omega, show 1 + G.length ≤ 16777216 by omega, show G.length + 1 ≤ 16777216 by omega, show G.length ≤ 16777215 by omega]
end Law

namespace Law
open PySem PySem.Spec PyProof.Rows L2 MM
/-! ### one step of resolution -/
def putS (k : List (Key × T)) (x : List T) : List T := x.flatMap (ap k)
theorem KV.tb {w : Int} {N : Nat} {k : List (Key × T)} (h : KV w N k) : TB w N k := fun p hp => by
  obtain ⟨i, us, rfl, t, l⟩ := h.at_ p hp
  exact ⟨us, rfl, t, l⟩
theorem putS_ok {w : Int} {k : List (Key × T)} (h : KV w 400 k) {x : List T} (hx : Term w x) (hl : x.length ≤ 200) : m_apply [.dk k, .im (.tup x)] = .ok (.im (.tup (putS k x))) z0 ∧ m__law_put [.dk k, .im (.tup x)] = .ok (.im (.tup (putS k x))) z0 ∧ Term w (putS k x) ∧ (putS k x).length ≤ 80000 :=
  ⟨pap_ok h.tb ⟨by decide, by decide⟩ hx.nodes (by omega), lput_ok h.tb ⟨by decide, by decide⟩ hx.nodes (by omega), ap_term h.tb (by decide) hx, Nat.le_trans (ap_len h.tb (by decide) hx.nodes) (by omega)⟩
/-- a term of no great length -/
def Sm (w : Int) (x : List T) : Prop := Term w x ∧ x.length ≤ 200
theorem flen_le {n : Nat} : ∀ {X : List (List T)}, (∀ x ∈ X, x.length ≤ n) → X.flatten.length ≤ X.length * n
  | [], _ => by simp
  | x :: X, h => by
    have := flen_le (X := X) fun y hy => h y (by simp [hy])
    have := h x (by simp)
    rw [List.flatten_cons, List.length_append, List.length_cons, Nat.add_mul]; omega
def big (Y : List (List T)) : Bool := Y.any fun y => decide (200 < y.length)
theorem big_numb (f : Int) (Y : List (List T)) : big (numb f Y) = big Y := by
  unfold big numb
  rw [List.any_map]
  congr 1
  funext y
  simp
theorem small_map {S0 : List Sv} (h5 : 5 < S0.length) (z : Zs) : ∀ (Y : List (List T)) (acc : List T), acc.length + Y.length ≤ 1000 →
    lcX 5 tYs e_resolve_row_1 S0 (Y.map .tup) acc z = if big Y = true then .ex ⟨"TooLarge", none⟩ z else .ok (.il (acc ++ Y.map .tup)) z
  | [], acc, _ => by simp [lcX, big]
  | y :: Y, acc, hl => by
    simp only [List.length_cons] at hl
    rw [List.map_cons]
    simp only [lcX, tYs]
    rw [if_pos h5]
    by_cases c : 200 < y.length
    · have e1 : m_small [.im (.tup y)] = .ex ⟨"TooLarge", none⟩ z0 := by simp [m_small, runP, c_small, k_MOST_NODES, show (200 : Int) < (y.length : Int) by omega]
      have eb : big (y :: Y) = true := by simp [big, c]
      simp [e_resolve_row_1, e1, h5, eb]
    · have e1 : m_small [.im (.tup y)] = .ok (.im (.tup y)) z0 := by simp [m_small, runP, c_small, k_MOST_NODES, show ¬ (200 : Int) < (y.length : Int) by omega]
      have eb : big (y :: Y) = big Y := by simp [big, c]
      have ih := small_map h5 z Y (acc ++ [.tup y]) (by simp; omega)
      have e2 : e_resolve_row_1 (S0.set 5 (.o (.im (.tup y)))) z = .ok (.im (.tup y)) z := by simp [e_resolve_row_1, e1, h5]
      rw [e2, eb]
      simp only [line_eq]
      rw [if_pos (by omega), ih, List.append_assoc]
      rfl
theorem large_loop (A B C D E G : Sv) (z : Zs) : ∀ (Y : List (List T)) (x : Sv), if big Y = true then sTurns (gN 5) b__law_resolve_2 (Y.map .tup) [A, B, C, D, E, x, G] z = .rt (.im (S "large")) z else ∃ x', sTurns (gN 5) b__law_resolve_2 (Y.map .tup) [A, B, C, D, E, x, G] z = .nx [A, B, C, D, E, x', G] z
  | [], x => ⟨x, rfl⟩
  | y :: Y, x => by
    have eg : gN 5 (.tup y) [A, B, C, D, E, x, G] = some [A, B, C, D, E, .o (.im (.tup y)), G] := rfl
    by_cases c : 200 < y.length
    · have eb : big (y :: Y) = true := by simp [big, c]
      have e1 : b__law_resolve_2 [A, B, C, D, E, .o (.im (.tup y)), G] z = .rt (.im (S "large")) z := by simp [b__law_resolve_2, show (200 : Int) < (y.length : Int) by omega]
      rw [if_pos eb]
      simp only [List.map_cons, sTurns, eg, e1]
    · have eb : big (y :: Y) = big Y := by simp [big, c]
      have e1 : b__law_resolve_2 [A, B, C, D, E, .o (.im (.tup y)), G] z = .nx [A, B, C, D, E, .o (.im (.tup y)), G] z := by simp [b__law_resolve_2, show ¬ (200 : Int) < (y.length : Int) by omega]
      have ih := large_loop A B C D E G z Y (.o (.im (.tup y)))
      rw [eb]
      simp only [List.map_cons, sTurns, eg, e1]
      exact ih
end Law

namespace Law
open PySem PySem.Spec PyProof.Rows L2 MM
theorem imS_star : ∀ (ts : List T) (t : T), imS (ts.map Val.im ++ [.im t]) = some (ts ++ [t])
  | [], t => rfl
  | u :: ts, t => by simp [imS_star ts t]
theorem apL_ok {w : Int} {k : List (Key × T)} (h : KV w 400 k) {m : ME} {j : Nat} {S0 : List Sv} (hj : j < S0.length) (z : Zs) : ∀ {Y : List (List T)} {acc : List T}, (∀ y ∈ Y, m (S0.set j (.o (.im (.tup y)))) z = .ok (.im (.tup (putS k y))) z) → acc.length + Y.length ≤ 1000 →
    lcT j tYs m S0 (Y.map .tup) acc z = .ok (.il (acc ++ (Y.map (putS k)).map .tup)) z
  | [], acc, _, _ => by simp [lcT]
  | y :: Y, acc, hm, hl => by
    simp only [List.length_cons] at hl
    have ih := apL_ok h (m := m) hj z (Y := Y) (acc := acc ++ [.tup (putS k y)]) (fun x hx => hm x (by simp [hx])) (by simp; omega)
    rw [List.map_cons]
    simp only [lcT, tYs]
    rw [if_pos hj, hm y (by simp)]
    simp only [line_eq]
    rw [if_pos (by omega), ih, List.append_assoc]
    rfl
/-- what one step gives -/
inductive Res where
  | large | non | row (Y : List (List T))
def resP : Res → Rs Val
  | .large => .ex ⟨"TooLarge", none⟩ z0
  | .non => .ok (.im .non) z0
  | .row Y => .ok (.il (Y.map .tup)) z0
def resL : Res → Val
  | .large => .im (S "large")
  | .non => .im .non
  | .row Y => .il (Y.map .tup)
set_option maxHeartbeats 4000000 in
theorem rrow_ok {w : Int} (hw : 0 ≤ w) {X gs : List (List T)} {g h : List T} (hX : ∀ x ∈ X, Sm w x) (hg : Sm w g) (hh : Sm w h) (hgs : ∀ x ∈ gs, Sm w x) (lX : X.length ≤ 10) (lg : gs.length ≤ 20) :
    ∃ R, (∀ Y, R = .row Y → Y.length = X.length + gs.length ∧ ∀ y ∈ Y, Sm 100000 y) ∧
      m_resolve_row [.il (X.map .tup), .im (.tup g), .tup [.im (.tup h), .il (gs.map .tup)]] = resP R ∧
      m__law_resolve [.il (X.map .tup), .im (.tup g), .il ((h :: gs).map .tup)] = .ok (resL R) z0 := by
  have fl : ∀ {n : Nat} {Y : List (List T)}, (∀ y ∈ Y, y.length ≤ n) → (flat Y).length ≤ Y.length * n + Y.length := fun hY => by
    have := flen_le hY
    rw [fl_len]; omega
  -- the clause numbered apart
  have hXg : ∀ x ∈ X ++ [g], Term w x := fun x hx => by
    rcases List.mem_append.mp hx with q | q
    · exact (hX x q).1
    · simp at q; subst q; exact hg.1
  have hhg : ∀ x ∈ h :: gs, Term w x := fun x hx => by
    rcases List.mem_cons.mp hx with rfl | q
    · exact hh.1
    · exact (hgs x q).1
  have sXg : ∀ x ∈ X ++ [g], x.length ≤ 200 := fun x hx => by
    rcases List.mem_append.mp hx with q | q
    · exact (hX x q).2
    · simp at q; subst q; exact hg.2
  have shg : ∀ x ∈ h :: gs, x.length ≤ 200 := fun x hx => by
    rcases List.mem_cons.mp hx with rfl | q
    · exact hh.2
    · exact (hgs x q).2
  have f1 := fl sXg
  have f2 := fl shg
  simp only [List.length_append, List.length_cons, List.length_nil] at f1 f2
  have e1 := next_ok hXg (by omega)
  have e1' := lfresh_ok hXg
  have f0 := fresh_ge (w := w) (X := X ++ [g])
  have f9 := fresh_le hw hXg
  have e2 := numbered_ok (fresh (X ++ [g])) f0 hhg (by omega)
  have e2' := lnumbered_ok (fresh (X ++ [g])) f0 hhg (by omega)
  have fln := flen_le shg
  simp only [List.length_cons] at fln
  obtain ⟨w2, hw2⟩ : ∃ w2 : Int, w2 = w + 5000 := ⟨_, rfl⟩
  have nt := numb_terms (f := fresh (X ++ [g])) hhg f0 (w' := w2) (by omega)
  have ns : ∀ y ∈ numb (fresh (X ++ [g])) (h :: gs), y.length ≤ 200 := fun y hy => by
    obtain ⟨x, hx, rfl⟩ := List.mem_map.mp hy
    rw [List.length_map]; exact shg x hx
  obtain ⟨h', gs', en, lgs'⟩ : ∃ h' gs', numb (fresh (X ++ [g])) (h :: gs) = h' :: gs' ∧ gs'.length = gs.length := ⟨_, _, rfl, by simp⟩
  rw [en] at e2 e2' nt ns
  clear en
  obtain ⟨o, ook, u1, u2⟩ := unify_ok (l := g) (r := h') (term_mono (by omega) hg.1) (nt h' (by simp)) (by have := hg.2; have := ns h' (by simp); omega)
  -- the two sides, up to the unifier
  have i1 := imS_star (X.map .tup) (.tup g)
  have i2 := imS_map (gs.map T.tup)
  have eXg : (X ++ [g]).map T.tup = X.map .tup ++ [.tup g] := by simp
  rw [eXg] at e1 e1'
  rw [List.map_cons] at e2 e2' 
  rw [List.map_cons] at e2 e2'
  have lX' : (X.map T.tup).length ≤ 10 := by simpa using lX
  have lgt : (gs.map T.tup).length ≤ 20 := by simpa using lg
  have lgt' : (gs'.map T.tup).length ≤ 20 := by simp; omega
  generalize hF : fresh (X ++ [g]) = F at *
  have un : m_unified [.il (X.map .tup), .im (.tup g), .tup [.im (.tup h), .il (gs.map .tup)]] = match o with
      | .non => .ok (.tup [.im .non, .il (gs'.map .tup)]) z0
      | .large => .ex ⟨"TooLarge", none⟩ z0
      | .done k => .ok (.tup [.dk k, .il (gs'.map .tup)]) z0 := by
    generalize X.map T.tup = A at *
    generalize gs.map T.tup = Bq at *
    generalize gs'.map T.tup = C at *
    cases o <;> (simp only [outR] at u1; simp [m_unified, runP, c_unified, i1, i2, e1, e2, u1, cut_from, show A.length < 16777216 by omega, show A.length ≤ 16777215 by omega, show Bq.length ≤ 16777215 by omega, show Bq.length < 16777216 by omega])
  cases o with
  | non =>
    refine ⟨.non, by simp, ?_, ?_⟩
    · simp only at un
      simp [m_resolve_row, runP, c_resolve_row, un, resP]
    · simp only [outV] at u2
      rw [List.map_cons]
      generalize X.map T.tup = A at *
      generalize gs.map T.tup = Bq at *
      generalize gs'.map T.tup = C at *
      simp [m__law_resolve, runP, c__law_resolve, e1', e2', u2, resL, show A.length + 1 ≤ 16777216 by omega, show A.length ≤ 16777215 by omega]
  | large =>
    refine ⟨.large, by simp, ?_, ?_⟩
    · simp only at un
      simp [m_resolve_row, runP, c_resolve_row, un, resP]
    · simp only [outV] at u2
      rw [List.map_cons]
      generalize X.map T.tup = A at *
      generalize gs.map T.tup = Bq at *
      generalize gs'.map T.tup = C at *
      simp [m__law_resolve, runP, c__law_resolve, e1', e2', u2, resL, show A.length + 1 ≤ 16777216 by omega, show A.length ≤ 16777215 by omega]
  | done k =>
    obtain ⟨kv, kl⟩ : KV w2 400 k ∧ k.length ≤ 400 := ook
    have hY : ∀ y ∈ X ++ gs', Term w2 y ∧ y.length ≤ 200 := fun y hy => by
      rcases List.mem_append.mp hy with q | q
      · exact ⟨term_mono (by omega) (hX y q).1, (hX y q).2⟩
      · exact ⟨nt y (by simp [q]), ns y (by simp [q])⟩
    have pY : ∀ y ∈ (X ++ gs').map (putS k), Term w2 y ∧ y.length ≤ 80000 := fun y hy => by
      obtain ⟨x, hx, rfl⟩ := List.mem_map.mp hy
      obtain ⟨_, _, a, b⟩ := putS_ok kv (hY x hx).1 (hY x hx).2
      exact ⟨a, b⟩
    have lY : ((X ++ gs').map (putS k)).length ≤ 30 := by simp; omega
    have lY0 : (X ++ gs').length ≤ 30 := by simp; omega
    have fY := fl fun y hy => (pY y hy).2
    have n1 := numbered_ok (X := (X ++ gs').map (putS k)) 0 (by decide) (fun y hy => (pY y hy).1) (by omega)
    -- the program
    have a1 := apL_ok kv (m := e_replaced_1) (j := 2) (S0 := wipS 2 [.b (.dk k), .b (.il ((X ++ gs').map .tup)), .un]) (by simp [wipS]) z0 (Y := X ++ gs') (acc := []) (fun y hy => by
      obtain ⟨a, _, _, _⟩ := putS_ok kv (hY y hy).1 (hY y hy).2
      simp [wipS, e_replaced_1, a]) (by simp; omega)
    rw [List.nil_append] at a1
    have rp : m_replaced [.dk k, .il ((X ++ gs').map .tup)] = .ok (.il ((numb 0 ((X ++ gs').map (putS k))).map .tup)) z0 := by
      generalize (X ++ gs').map T.tup = A at *
      generalize ((X ++ gs').map (putS k)).map T.tup = Bq at *
      generalize (numb 0 ((X ++ gs').map (putS k))).map T.tup = C at *
      simp [m_replaced, runP, c_replaced, a1, n1]
    have sm := small_map (S0 := wipS 5 [.b (.il (X.map .tup)), .b (.im (.tup g)), .b (.tup [.im (.tup h), .il (gs.map .tup)]), .o (.dk k), .o (.il (gs'.map .tup)), .un]) (by simp [wipS]) z0 (numb 0 ((X ++ gs').map (putS k))) [] (by rw [List.length_nil, numb_len]; omega)
    rw [big_numb, List.nil_append] at sm
    -- the law
    have a2 := apL_ok kv (m := e__law_resolve_1) (j := 5) (S0 := wipS 5 [.b (.il (X.map .tup)), .b (.im (.tup g)), .b (.il (.tup h :: gs.map .tup)), .o (.il (.tup h' :: gs'.map .tup)), .o (.dk k), .un, .un]) (by simp [wipS]) z0 (Y := X ++ gs') (acc := []) (fun y hy => by
      obtain ⟨_, b, _, _⟩ := putS_ok kv (hY y hy).1 (hY y hy).2
      simp [wipS, e__law_resolve_1, b]) (by simp; omega)
    rw [List.nil_append] at a2
    have lp := large_loop (.b (.il (X.map .tup))) (.b (.im (.tup g))) (.b (.il (.tup h :: gs.map .tup))) (.o (.il (.tup h' :: gs'.map .tup))) (.o (.dk k)) (.lk (.il (((X ++ gs').map (putS k)).map .tup))) z0 ((X ++ gs').map (putS k)) .un
    have eA : (X ++ gs').map T.tup = X.map .tup ++ gs'.map .tup := by simp
    rw [eA] at rp a2
    simp only at un
    simp only [outV] at u2
    by_cases cb : big ((X ++ gs').map (putS k)) = true
    · rw [if_pos cb] at sm lp
      refine ⟨.large, by simp, ?_, ?_⟩
      · generalize X.map T.tup = A at *
        generalize gs.map T.tup = Bq at *
        generalize gs'.map T.tup = C at *
        generalize (numb 0 ((X ++ gs').map (putS k))).map T.tup = D at *
        simp [m_resolve_row, runP, c_resolve_row, un, rp, sm, resP, show A.length + C.length ≤ 16777216 by omega]
      · rw [List.map_cons]
        generalize X.map T.tup = A at *
        generalize gs.map T.tup = Bq at *
        generalize gs'.map T.tup = C at *
        generalize ((X ++ gs').map (putS k)).map T.tup = D at *
        simp [m__law_resolve, runP, c__law_resolve, e1', e2', u2, resL, a2, lp, cut_from, Ro.map, unlk, -sTurns, show A.length + 1 ≤ 16777216 by omega, show A.length ≤ 16777215 by omega, show A.length + C.length ≤ 16777216 by omega]
    · have cb' : big ((X ++ gs').map (putS k)) = false := by simpa using cb
      rw [if_neg cb] at sm lp
      obtain ⟨x', lp⟩ := lp
      have s2 : ∀ y ∈ (X ++ gs').map (putS k), y.length ≤ 200 := fun y hy => by
        have : ¬ big ((X ++ gs').map (putS k)) = true := cb
        unfold big at this
        rw [List.any_eq_true] at this
        have := fun q => this ⟨y, hy, q⟩
        simpa using this
      have f3 := fl s2
      have l3 := flen_le s2
      have n2 := lnumbered_ok (X := (X ++ gs').map (putS k)) 0 (by decide) (fun y hy => (pY y hy).1) (by omega)
      refine ⟨.row (numb 0 ((X ++ gs').map (putS k))), fun Y e => ?_, ?_, ?_⟩
      · cases e
        refine ⟨by simp [numb, lgs'], fun y hy => ⟨numb_terms (fun y hy => (pY y hy).1) (by decide) (by omega) y hy, ?_⟩⟩
        obtain ⟨x, hx, rfl⟩ := List.mem_map.mp hy
        rw [List.length_map]; exact s2 x hx
      · generalize X.map T.tup = A at *
        generalize gs.map T.tup = Bq at *
        generalize gs'.map T.tup = C at *
        simp only [resP]
        generalize (numb 0 ((X ++ gs').map (putS k))).map T.tup = D at *
        simp [m_resolve_row, runP, c_resolve_row, un, rp, sm, show A.length + C.length ≤ 16777216 by omega]
      · rw [List.map_cons]
        simp only [resL]
        generalize X.map T.tup = A at *
        generalize gs.map T.tup = Bq at *
        generalize gs'.map T.tup = C at *
        generalize (numb 0 ((X ++ gs').map (putS k))).map T.tup = Dq at *
        generalize ((X ++ gs').map (putS k)).map T.tup = D at *
        simp [m__law_resolve, runP, c__law_resolve, e1', e2', u2, a2, lp, n2, cut_from, Ro.map, unlk, -sTurns, show A.length + 1 ≤ 16777216 by omega, show A.length ≤ 16777215 by omega, show A.length + C.length ≤ 16777216 by omega]
end Law

namespace Law
open PySem PySem.Spec PyProof.Rows L2 MM
/-! ### the goals behind a step, in their order -/
def shuf (p e : Nat) (Y : List (List T)) : List (List T) := (Y.take 1 ++ (Y.drop 1).take p ++ Y.drop e) ++ (Y.drop (p + 1)).take (e - (p + 1))
theorem shuf_mem {p e : Nat} {Y : List (List T)} {y : List T} (h : y ∈ shuf p e Y) : y ∈ Y := by
  unfold shuf at h
  simp only [List.mem_append] at h
  rcases h with ((h | h) | h) | h
  · exact List.mem_of_mem_take h
  · exact List.mem_of_mem_drop (List.mem_of_mem_take h)
  · exact List.mem_of_mem_drop h
  · exact List.mem_of_mem_drop (List.mem_of_mem_take h)
theorem shuf_len {p e : Nat} {Y : List (List T)} : (shuf p e Y).length ≤ 4 * Y.length := by
  unfold shuf
  simp only [List.length_append, List.length_take, List.length_drop]
  omega
theorem atI_app {A B : List T} {g : T} : atI (A ++ g :: B) (A.length : Int) = some g := atI_nat (by simp)
theorem Sm.mono {w w' : Int} (h : w ≤ w') {x : List T} (hx : Sm w x) : Sm w' x := ⟨term_mono h hx.1, hx.2⟩
/-- the law's and the program's answers -/
inductive Ans where
  | large | non | pair (x : List T) (xs : List (List T))
def ansP : Ans → Rs Val
  | .large => .ex ⟨"TooLarge", none⟩ z0
  | .non => .ok (.im .non) z0
  | .pair x xs => .ok (.tup [.im (.tup x), .il (xs.map .tup)]) z0
def ansL : Ans → Val
  | .large => .im (S "large")
  | .non => .im .non
  | .pair x xs => .il (.tup x :: xs.map .tup)
structure Case (w : Int) (q c h : List T) (gs A : List (List T)) (g : List T) (B : List (List T)) : Prop where
  hw : 0 ≤ w
  hq : Sm w q
  hA : ∀ x ∈ A, Sm w x
  hg : Sm w g
  hB : ∀ x ∈ B, Sm w x
  cl : Cl w c h gs
  hh : Sm w h
  hgs : ∀ x ∈ gs, Sm w x
  lc : c.length ≤ 1000
  lg : gs.length ≤ 20
  l3 : A.length + B.length ≤ 8
set_option maxHeartbeats 4000000 in
theorem both_ok {w : Int} {q c h : List T} {gs A B : List (List T)} {g : List T} (k : Case w q c h gs A g B) :
    ∃ R, (∀ x xs, R = .pair x xs → (∀ t ∈ x, Node (200000 : Int) t) ∧ (∀ y ∈ xs, ∀ t ∈ y, Node (200000 : Int) t) ∧ xs.length ≤ 200) ∧
      m_resolve [.im (.tup q), .il (A.map .tup ++ .tup g :: B.map .tup), .im (.int (A.length : Int)), .im (.tup c)] = ansP R ∧
      ∀ (x0 x2 x4 x8 x9 x10 x11 x12 x13 x14 x15 x16 x17 x18 : Sv) (z : Zs), ∃ y15,
        r_law_10 [x0, .s, x2, .o (.im (.tup q)), x4, .o (.il (A.map .tup ++ .tup g :: B.map .tup)), .o (.im (.tup c)), .o (.im (.int (A.length : Int))), x8, x9, x10, x11, x12, x13, x14, x15, x16, x17, x18] z =
        r_law_9 [x0, .s, x2, .o (.im (.tup q)), x4, .o (.il (A.map .tup ++ .tup g :: B.map .tup)), .o (.im (.tup c)), .o (.im (.int (A.length : Int))), x8, x9, x10, x11, x12, .o (.il ((h :: gs).map .tup)), .o (ansL R), y15, x16, x17, x18] z := by
  have hX : ∀ x ∈ q :: (A ++ B), Sm w x := fun x hx => by
    rcases List.mem_cons.mp hx with rfl | hx
    · exact k.hq
    · exact (List.mem_append.mp hx).elim (k.hA x) (k.hB x)
  have l3 := k.l3
  have lg := k.lg
  have lc := k.lc
  obtain ⟨R, hR, r1, r2⟩ := rrow_ok k.hw hX k.hg k.hh k.hgs (by simp; omega) k.lg
  have e1 := hg_ok k.cl (by omega)
  have e2 := lrow_ok k.cl (by omega)
  have eX : (q :: (A ++ B)).map T.tup = .tup q :: (A.map .tup ++ B.map .tup) := by simp
  rw [eX] at r1 r2
  have lA' : (A.map T.tup).length = A.length := by simp
  have lB' : (B.map T.tup).length = B.length := by simp
  have lgs' : (gs.map T.tup).length = gs.length := by simp
  have at0 := atI_app (A := A.map T.tup) (B := B.map T.tup) (g := .tup g)
  have ct1 : cut (A.map T.tup ++ .tup g :: B.map T.tup) none (some (A.length : Int)) = A.map T.tup := by
    rw [cut_to (by omega), Int.toNat_natCast, ← lA', List.take_left]
  have ct2 : cut (A.map T.tup ++ .tup g :: B.map T.tup) (some ((A.length : Int) + 1)) none = B.map T.tup := by
    rw [cut_from (by omega), show ((A.length : Int) + 1).toNat = (A.map T.tup).length + 1 by rw [lA']; omega, ← List.drop_drop, List.drop_left]; rfl
  rw [lA'] at at0
  rw [List.map_cons] at r2 e2
  cases R with
  | non =>
    refine ⟨.non, by simp, ?_, fun x0 x2 x4 x8 x9 x10 x11 x12 x13 x14 x15 x16 x17 x18 z => ⟨x15, ?_⟩⟩
    · simp only [resP] at r1
      generalize A.map T.tup = A' at *
      generalize B.map T.tup = B' at *
      generalize gs.map T.tup = gs' at *
      simp [m_resolve, runP, c_resolve, e1, at0, ct1, ct2, r1, ansP, show 1 + A'.length ≤ 16777216 by omega, show A'.length ≤ 16777215 by omega, show A'.length + 1 + B'.length ≤ 16777216 by omega, show A'.length + B'.length ≤ 16777215 by omega]
    · simp only [resL] at r2
      rw [List.map_cons]
      generalize A.map T.tup = A' at *
      generalize B.map T.tup = B' at *
      generalize gs.map T.tup = gs' at *
      simp [e2, at0, ct1, ct2, r2, ansL, -r_law_9, show 1 + A'.length ≤ 16777216 by omega, show A'.length ≤ 16777215 by omega, show A'.length + 1 + B'.length ≤ 16777216 by omega, show A'.length + B'.length ≤ 16777215 by omega]
  | large =>
    refine ⟨.large, by simp, ?_, fun x0 x2 x4 x8 x9 x10 x11 x12 x13 x14 x15 x16 x17 x18 z => ⟨x15, ?_⟩⟩
    · simp only [resP] at r1
      generalize A.map T.tup = A' at *
      generalize B.map T.tup = B' at *
      generalize gs.map T.tup = gs' at *
      simp [m_resolve, runP, c_resolve, e1, at0, ct1, ct2, r1, ansP, show 1 + A'.length ≤ 16777216 by omega, show A'.length ≤ 16777215 by omega, show A'.length + 1 + B'.length ≤ 16777216 by omega, show A'.length + B'.length ≤ 16777215 by omega]
    · simp only [resL] at r2
      rw [List.map_cons]
      generalize A.map T.tup = A' at *
      generalize B.map T.tup = B' at *
      generalize gs.map T.tup = gs' at *
      simp [e2, at0, ct1, ct2, r2, ansL, -r_law_9, show 1 + A'.length ≤ 16777216 by omega, show A'.length ≤ 16777215 by omega, show A'.length + 1 + B'.length ≤ 16777216 by omega, show A'.length + B'.length ≤ 16777215 by omega]
  | row Y =>
    obtain ⟨lY, sY⟩ := hR Y rfl
    simp only [List.length_cons, List.length_append] at lY
    obtain ⟨e, he0⟩ : ∃ e, e = 1 + A.length + B.length := ⟨_, rfl⟩
    have hZ : ∀ z ∈ shuf A.length e Y, Term (100000 : Int) z := fun z hz => (sY z (shuf_mem hz)).1
    have hZ2 : ∀ z ∈ shuf A.length e Y, z.length ≤ 200 := fun z hz => (sY z (shuf_mem hz)).2
    have lZ : (shuf A.length e Y).length ≤ 200 := Nat.le_trans shuf_len (by omega)
    have f1 := flen_le hZ2
    have fZ : (flat (shuf A.length e Y)).length ≤ 50000 := by rw [fl_len]; omega
    have n1 := numbered_ok 0 (by decide) hZ (by omega)
    have n2 := lnumbered_ok 0 (by decide) hZ (by omega)
    have nt := numb_terms (f := 0) hZ (by decide) (w' := 200000) (by omega)
    have nl := numb_len 0 (shuf A.length e Y)
    obtain ⟨y0, Y', rfl⟩ : ∃ y0 Y', Y = y0 :: Y' := by
      cases Y with
      | nil => simp at lY; omega
      | cons a b => exact ⟨a, b, rfl⟩
    have ez : shuf A.length e (y0 :: Y') = y0 :: (Y'.take A.length ++ ((y0 :: Y').drop e ++ (Y'.drop A.length).take (e - (A.length + 1)))) := by simp [shuf]
    obtain ⟨w0, ws, ew⟩ : ∃ w0 ws, numb 0 (shuf A.length e (y0 :: Y')) = w0 :: ws := ⟨_, _, by rw [ez]; rfl⟩
    rw [ew] at n1 n2 nt nl
    have lw : ws.length ≤ 200 := by simp at nl; omega
    rw [ez] at n1 n2
    simp only [List.map_cons, List.map_append] at n1 n2
    have c1 : cut (T.tup y0 :: Y'.map T.tup) (some 1) (some ((A.length : Int) + 1)) = (Y'.take A.length).map T.tup := by
      rw [cut_two (by omega) (by omega), show ((1 : Int)).toNat = 1 from rfl, show ((A.length : Int) + 1).toNat - 1 = A.length by omega]
      simp [List.map_take]
    have c2 : cut (T.tup y0 :: Y'.map T.tup) (some (e : Int)) none = ((y0 :: Y').drop e).map T.tup := by
      rw [cut_from (by omega), Int.toNat_natCast, List.map_drop]; rfl
    have c3 : cut (T.tup y0 :: Y'.map T.tup) (some ((A.length : Int) + 1)) (some (e : Int)) = ((Y'.drop A.length).take (e - (A.length + 1))).map T.tup := by
      rw [cut_two (by omega) (by omega), show ((A.length : Int) + 1).toNat = A.length + 1 by omega, Int.toNat_natCast, List.map_take, List.map_drop]; rfl
    have l1 : ((Y'.take A.length).map T.tup).length ≤ 100 := by simp; omega
    have l2 : (((y0 :: Y').drop e).map T.tup).length ≤ 100 := by simp only [List.length_map, List.length_drop]; omega
    have l3 : (((Y'.drop A.length).take (e - (A.length + 1))).map T.tup).length ≤ 100 := by simp only [List.length_map, List.length_take, List.length_drop]; omega
    have lY' : ((Y'.map T.tup).length : Int) + 1 - (gs.length : Int) = (e : Int) := by simp at lY ⊢; omega
    have lY2 : ((Y'.map T.tup).length : Int) + 1 - ((gs.length : Int) + 1) + 1 = (e : Int) := by omega
    rw [← lgs'] at lY' lY2
    refine ⟨.pair w0 ws, fun x xs ex => ?_, ?_, fun x0 x2 x4 x8 x9 x10 x11 x12 x13 x14 x15 x16 x17 x18 z => ⟨.o (.im (.int (e : Int))), ?_⟩⟩
    · cases ex
      exact ⟨(nt w0 (by simp)).nodes, fun y hy => (nt y (by simp [hy])).nodes, lw⟩
    · simp only [resP, List.map_cons] at r1
      generalize A.map T.tup = A' at *
      generalize B.map T.tup = B' at *
      generalize gs.map T.tup = gs' at *
      simp only [ansP]
      generalize ws.map T.tup = ws' at *
      generalize (Y'.take A.length).map T.tup = P1 at *
      generalize ((y0 :: Y').drop e).map T.tup = P2 at *
      generalize ((Y'.drop A.length).take (e - (A.length + 1))).map T.tup = P3 at *
      generalize Y'.map T.tup = D at *
      have pp : m_pair_of [.il (.tup y0 :: (P1 ++ (P2 ++ P3)))] = .ok (.tup [.im (.tup w0), .il ws']) z0 := by simp [m_pair_of, runP, c_pair_of, n1, cut_from]
      simp [m_resolve, runP, c_resolve, e1, at0, ct1, ct2, r1, lY', c1, c2, c3, pp, show 1 + A'.length ≤ 16777216 by omega, show A'.length ≤ 16777215 by omega, show A'.length + 1 + B'.length ≤ 16777216 by omega, show A'.length + B'.length ≤ 16777215 by omega, show 1 + P1.length ≤ 16777216 by omega, show P1.length ≤ 16777215 by omega, show P1.length + 1 + P2.length ≤ 16777216 by omega, show P1.length + P2.length ≤ 16777215 by omega, show P1.length + P2.length + 1 + P3.length ≤ 16777216 by omega, show P1.length + P2.length + P3.length ≤ 16777215 by omega]
    · simp only [resL, List.map_cons] at r2
      rw [List.map_cons]
      generalize A.map T.tup = A' at *
      generalize B.map T.tup = B' at *
      generalize gs.map T.tup = gs' at *
      simp only [ansL]
      generalize ws.map T.tup = ws' at *
      generalize (Y'.take A.length).map T.tup = P1 at *
      generalize ((y0 :: Y').drop e).map T.tup = P2 at *
      generalize ((Y'.drop A.length).take (e - (A.length + 1))).map T.tup = P3 at *
      generalize Y'.map T.tup = D at *
      simp [e2, at0, ct1, ct2, r2, lY2, c1, c2, c3, n2, -r_law_9, show 1 + A'.length ≤ 16777216 by omega, show A'.length ≤ 16777215 by omega, show A'.length + 1 + B'.length ≤ 16777216 by omega, show A'.length + B'.length ≤ 16777215 by omega, show 1 + P1.length ≤ 16777216 by omega, show P1.length ≤ 16777215 by omega, show P1.length + 1 + P2.length ≤ 16777216 by omega, show P1.length + P2.length ≤ 16777215 by omega, show P1.length + P2.length + 1 + P3.length ≤ 16777216 by omega, show P1.length + P2.length + P3.length ≤ 16777215 by omega]
end Law

namespace Law
open PySem PySem.Spec PyProof.Rows L2 MM
theorem dep_map {w : Int} {Y : List (List T)} (h : ∀ y ∈ Y, ∀ t ∈ y, Node w t) : depS (Y.map T.tup) ≤ 2 := depS_le fun t ht => by
  obtain ⟨y, hy, rfl⟩ := List.mem_map.mp ht
  have := depS_nodes (h y hy)
  simp; omega
set_option maxHeartbeats 4000000 in
theorem law9_ok {w : Int} {q c h : List T} {gs A B : List (List T)} {g : List T} (k : Case w q c h gs A g B) (x0 x2 x4 x8 x9 x10 x11 x12 x13 x14 x15 x16 x17 x18 : Sv) (z : Zs) :
    r_law_10 [x0, .s, x2, .o (.im (.tup q)), x4, .o (.il (A.map .tup ++ .tup g :: B.map .tup)), .o (.im (.tup c)), .o (.im (.int (A.length : Int))), x8, x9, x10, x11, x12, x13, x14, x15, x16, x17, x18] z = .rt (.im (.bl true)) z := by
  obtain ⟨R, hR, e1, e2⟩ := both_ok k
  obtain ⟨y15, e2⟩ := e2 x0 x2 x4 x8 x9 x10 x11 x12 x13 x14 x15 x16 x17 x18 z
  rw [e2]
  have dG : depS (A.map T.tup ++ .tup g :: B.map T.tup) ≤ 2 := by
    have := dep_map (w := w) (Y := A ++ g :: B) fun y hy => by
      rcases List.mem_append.mp hy with hy | hy
      · exact (k.hA y hy).1.nodes
      · rcases List.mem_cons.mp hy with rfl | hy
        · exact k.hg.1.nodes
        · exact (k.hB y hy).1.nodes
    simpa using this
  have lG : (A.map T.tup ++ .tup g :: B.map T.tup).length ≤ 20 := by have := k.l3; simp; omega
  generalize A.map T.tup ++ .tup g :: B.map T.tup = G at *
  have eG := eqvs_self G
  have l1 : List.lookup (Str.ofString "TooLarge") [(Str.ofString "HornbookError", false), (Str.ofString "TooLarge", true), (Str.ofString "NotDefinite", false)] = some true := by decide +kernel
  cases R with
  | large =>
    simp only [ansP] at e1
    simp [b_law_4, b_law_5, e1, ansL, eG, l1, dG, show depS G ≤ 63 by omega, show depS G ≤ 64 by omega, show min (depS G) (depS G) ≤ 64 by omega]
  | non =>
    simp only [ansP] at e1
    simp [b_law_4, e1, ansL, eG, show depS G ≤ 63 by omega, show depS G ≤ 64 by omega, show min (depS G) (depS G) ≤ 64 by omega]
  | pair x xs =>
    obtain ⟨nx, nxs, lxs⟩ := hR x xs rfl
    have dx := depS_nodes nx
    have dxs := dep_map nxs
    have ex := eqvs_self x
    have exs := eqvs_self (xs.map T.tup)
    have lx' : (xs.map T.tup).length ≤ 200 := by simpa using lxs
    simp only [ansP] at e1
    simp only [ansL]
    generalize xs.map T.tup = Q at *
    simp [b_law_4, e1, eG, ex, exs, cut_from, show depS G ≤ 63 by omega, show depS G ≤ 64 by omega, show min (depS G) (depS G) ≤ 64 by omega, show depS x ≤ 63 by omega, show depS Q ≤ 63 by omega, show depS Q ≤ 64 by omega]
end Law

namespace Law
open PySem PySem.Spec PyProof.Rows L2 MM
/-! ### drawn terms -/
abbrev fs (s : String) (n : Nat) : T := .tup [S "f", S s, .int (n : Int)]
theorem node_fs {w : Int} {s : String} {n : Nat} (h : nameB (Str.ofString s) = true) (hn : n ≤ 8) : Node w (fs s n) := .f h (by omega) (by omega)
theorem term_fs {w : Int} {s : String} {n : Nat} (h : nameB (Str.ofString s) = true) (hn : n ≤ 8) {as : List T} (ha : ∀ t ∈ as, Node w t) (hd : need n as = some 0) : Term w (fs s n :: as) := by
  refine ⟨fun t ht => ?_, ?_⟩
  · rcases List.mem_cons.mp ht with rfl | ht
    · exact node_fs h hn
    · exact ha t ht
  · show need (0 + arT (fs s n)) as = some 0
    simp [arT]; exact hd
def mnu : List (String × Nat) := [("r", 0), ("p", 1), ("pp", 1), ("q_p", 4), ("q", 2), ("e", 2)]
theorem mnu_ok : ∀ p ∈ mnu, nameB (Str.ofString p.1) = true ∧ p.2 ≤ 8 ∧ igB (Str.ofString p.1) (p.2 : Int) = true ∧ ¬ (p.1 = ":-" ∧ p.2 = 2) := by decide +kernel
theorem gd_fs {w : Int} {s : String} {n : Nat} (h : (s, n) ∈ mnu) {as : List T} (ha : ∀ t ∈ as, Node w t) (hd : need n as = some 0) : Gd w (fs s n :: as) ∧ (fs s n :: as).head? ≠ some rule := by
  obtain ⟨m1, m2, m3, m4⟩ := mnu_ok _ h
  refine ⟨⟨term_fs m1 m2 ha hd, m3⟩, fun e => ?_⟩
  simp at e
  exact m4 ⟨e.1, by omega⟩
theorem leaf_ok {w : Int} (h1 : 1 ≤ w) (h3 : w ≤ 3) (z : Zs) : ∃ t z', m__law_leaf [.im (.int w)] z = .ok (.im (.tup [t])) z' ∧ Node (3 : Int) t ∧ need 1 [t] = some 0 := by
  obtain ⟨p, z1, e1, p0, p1⟩ := draw_sm z 4 (by decide) (by decide)
  by_cases c : p < 2
  · obtain ⟨v, z2, e2, v0, v1⟩ := draw_sm z1 w (by omega) (by omega)
    exact ⟨.tup [S "v", .int v], z2, by simp [m__law_leaf, runZ, c__law_leaf, e1, e2, c], .v v0 (by omega), rfl⟩
  by_cases c2 : p = 2
  · obtain ⟨i, z2, e2, i0, i1⟩ := draw_sm z1 3 (by decide) (by decide)
    obtain ⟨w', ew, s, rfl, hs⟩ := pick_ok (ts := [S "a", S "b", S "c"]) (fun t => ∃ s, t = S s ∧ nameB (Str.ofString s) = true) i0 i1 (by
      intro t ht
      simp only [List.mem_cons, List.not_mem_nil, or_false] at ht
      rcases ht with rfl | rfl | rfl <;> exact ⟨_, rfl, by decide +kernel⟩)
    exact ⟨fs s 0, z2, by simp [m__law_leaf, runZ, c__law_leaf, e1, e2, ew, c2], node_fs hs (by omega), rfl⟩
  · obtain ⟨q, z2, e2, q0, q1⟩ := draw_sm z1 8 (by decide) (by decide)
    have e30 : ((10 : Int) ^ 30) = 1000000000000000000000000000000 := by decide
    have e39 : ((10 : Int) ^ 39) = 1000000000000000000000000000000000000000 := by decide
    by_cases c3 : q = 0
    · obtain ⟨i, z3, e3, i0, i1⟩ := draw_sm z2 4 (by decide) (by decide)
      obtain ⟨w', ew, n, rfl, n0, n1⟩ := pick_ok (ts := [.int (-1), .int (10 ^ 30), .int (10 ^ 30 + 1), .int (-10 ^ 39)]) (fun t => ∃ n : Int, t = .int n ∧ -(10 ^ 40) < n ∧ n < 10 ^ 40) i0 i1 (by
        intro t ht
        simp only [List.mem_cons, List.not_mem_nil, or_false] at ht
        rcases ht with rfl | rfl | rfl | rfl <;> exact ⟨_, rfl, by decide, by decide⟩)
      rw [e30, e39] at ew
      simp at ew
      exact ⟨.int n, z3, by simp [m__law_leaf, runZ, c__law_leaf, e1, e2, e3, c, c2, c3, ew, show cPow 10 30 = true by decide, show cPow 10 39 = true by decide], .i n0 n1, rfl⟩
    · obtain ⟨n, z3, e3, n0, n1⟩ := draw_sm z2 3 (by decide) (by decide)
      exact ⟨.int n, z3, by simp [m__law_leaf, runZ, c__law_leaf, e1, e2, e3, c, c2, c3], .i (by omega) (by omega), rfl⟩
theorem arg_ok (z : Zs) : ∃ ts z', m__law_argument [.im (.int 3)] z = .ok (.im (.tup ts)) z' ∧ Term (3 : Int) ts ∧ ts.length ≤ 3 := by
  obtain ⟨p, z1, e1, p0, p1⟩ := draw_sm z 6 (by decide) (by decide)
  obtain ⟨a, z2, e2, ha, na⟩ := leaf_ok (w := 3) (by decide) (by decide) z1
  by_cases c : p = 0
  · exact ⟨[fs "s" 1, a], z2, by simp [m__law_argument, runZ, c__law_argument, e1, e2, c], term_fs (by decide +kernel) (by omega) (by simpa using ha) na, by simp⟩
  by_cases c2 : p = 1
  · obtain ⟨b, z3, e3, hb, nb⟩ := leaf_ok (w := 3) (by decide) (by decide) z2
    refine ⟨[fs "." 2, a, b], z3, by simp [m__law_argument, runZ, c__law_argument, e1, e2, e3, c2], term_fs (by decide +kernel) (by omega) (by simpa using ⟨ha, hb⟩) ?_, by simp⟩
    have := need_more (j := 1) na
    show need 2 ([a] ++ [b]) = some 0
    rw [need_app (k := 1) (by simpa using this)]; exact nb
  · exact ⟨[a], z2, by simp [m__law_argument, runZ, c__law_argument, e1, e2, c, c2], ⟨by simpa using ha, na⟩, by simp⟩
theorem need_two {a b : List T} (ha : need 1 a = some 0) (hb : need 1 b = some 0) : need 2 (a ++ b) = some 0 := by
  have := need_more (j := 1) ha
  rw [need_app (k := 1) (by simpa using this)]; exact hb
theorem need_four {a b c d : List T} (ha : need 1 a = some 0) (hb : need 1 b = some 0) (hc : need 1 c = some 0) (hd : need 1 d = some 0) : need 4 (a ++ b ++ (c ++ d)) = some 0 := by
  have := need_more (j := 2) (need_two ha hb)
  rw [need_app (k := 2) (by simpa using this)]; exact need_two hc hd
/-- a drawn goal -/
structure Gl (t : List T) : Prop where
  gd : Gd (3 : Int) t
  nr : t.head? ≠ some rule
  le : t.length ≤ 20
theorem gl_fs {s : String} {n : Nat} (h : (s, n) ∈ mnu) {as : List T} (ha : ∀ t ∈ as, Node (3 : Int) t) (hd : need n as = some 0) (hl : as.length ≤ 19) : Gl (fs s n :: as) := ⟨(gd_fs h ha hd).1, (gd_fs h ha hd).2, by simp; omega⟩
theorem atom_ok (z : Zs) : ∃ ts z', m__law_atom_of [.im (.int 3)] z = .ok (.im (.tup ts)) z' ∧ Gl ts := by
  obtain ⟨p, z1, e1, p0, p1⟩ := draw_sm z 12 (by decide) (by decide)
  by_cases c : p < 2
  · exact ⟨[fs "r" 0], z1, by simp [m__law_atom_of, runZ, c__law_atom_of, e1, c], gl_fs (by decide +kernel) (by simp) rfl (by simp)⟩
  by_cases c2 : p < 6
  · obtain ⟨i, z2, e2, i0, i1⟩ := draw_sm z1 3 (by decide) (by decide)
    obtain ⟨w, ew, s, rfl, hs⟩ := pick_ok (ts := [S "p", S "p", S "pp"]) (fun t => ∃ s, t = S s ∧ (s, 1) ∈ mnu) i0 i1 (by
      intro t ht
      simp only [List.mem_cons, List.not_mem_nil, or_false] at ht
      rcases ht with rfl | rfl | rfl <;> exact ⟨_, rfl, by decide +kernel⟩)
    obtain ⟨a, z3, e3, ha, la⟩ := arg_ok z2
    exact ⟨fs s 1 :: a, z3, by simp [m__law_atom_of, runZ, c__law_atom_of, e1, e2, e3, ew, c, c2, show 1 + a.length ≤ 16777216 by omega, show a.length ≤ 16777215 by omega], gl_fs hs ha.nodes ha.whole (by omega)⟩
  by_cases c3 : p = 6
  · obtain ⟨a, z2, e2, ha, na⟩ := leaf_ok (w := 3) (by decide) (by decide) z1
    obtain ⟨b, z3, e3, hb, nb⟩ := leaf_ok (w := 3) (by decide) (by decide) z2
    obtain ⟨x, z4, e4, hx, nx⟩ := leaf_ok (w := 3) (by decide) (by decide) z3
    obtain ⟨y, z5, e5, hy, ny⟩ := leaf_ok (w := 3) (by decide) (by decide) z4
    exact ⟨[fs "q_p" 4, a, b, x, y], z5, by simp [m__law_atom_of, runZ, c__law_atom_of, e1, e2, e3, e4, e5, c3], gl_fs (by decide +kernel) (by simpa using ⟨ha, hb, hx, hy⟩) (need_four na nb nx ny) (by simp)⟩
  · obtain ⟨a, z2, e2, ha, la⟩ := arg_ok z1
    obtain ⟨b, z3, e3, hb, lb⟩ := arg_ok z2
    refine ⟨fs "q" 2 :: (a ++ b), z3, by simp [m__law_atom_of, runZ, c__law_atom_of, e1, e2, e3, c, c2, c3, show 1 + a.length ≤ 16777216 by omega, show a.length ≤ 16777215 by omega, show 1 + a.length + b.length ≤ 16777216 by omega, show a.length + 1 + b.length ≤ 16777216 by omega, show a.length + b.length ≤ 16777215 by omega], gl_fs (by decide +kernel) (fun t ht => ?_) (need_two ha.whole hb.whole) (by simp; omega)⟩
    exact (List.mem_append.mp ht).elim (ha.nodes t) (hb.nodes t)
end Law

namespace Law
open PySem PySem.Spec PyProof.Rows L2 MM
/-- a goal of a body -/
structure Bg (t : List T) : Prop where
  tr : Term (3 : Int) t
  nc : t.head? ≠ some conj
  go : t = tru ∨ igt t = true
  le : t.length ≤ 20
theorem Gl.bg {t : List T} (h : Gl t) : Bg t := by
  refine ⟨h.gd.1, fun e => ?_, .inr h.gd.2, h.le⟩
  have h2 := h.gd.2
  cases t with
  | nil => cases e
  | cons x xs =>
    simp at e
    subst e
    have : igt (conj :: xs) = false := (by decide +kernel : igB (Str.ofString ",") 2 = false)
    rw [this] at h2; cases h2
theorem bg_tru : Bg tru := ⟨tr_tru, by simp, .inl rfl, by simp⟩
theorem drop_get {α : Type} {gs : List α} {k : Nat} {q : α} (h : gs[k]? = some q) : gs.drop k = q :: gs.drop (k + 1) := by
  obtain ⟨hlt, e⟩ := List.getElem?_eq_some_iff.mp h
  rw [List.drop_eq_getElem_cons hlt, e]
theorem joined_ok {gs : List (List T)} (h : ∀ g ∈ gs, Bg g) (h0 : gs ≠ []) (hl : gs.length ≤ 10) : ∃ b, m__law_joined [.il (gs.map .tup)] = .ok (.im (.tup b)) z0 ∧ Cj (3 : Int) gs b ∧ b.length ≤ 21 * gs.length := by
  obtain ⟨n, hn⟩ : ∃ n, gs.length = n + 1 := ⟨gs.length - 1, by have := List.length_pos_iff.mpr h0; omega⟩
  obtain ⟨l, hlq⟩ : ∃ l, gs[n]? = some l := ⟨_, List.getElem?_eq_getElem (by omega)⟩
  have hlast : gs.drop n = [l] := by rw [drop_get hlq, List.drop_eq_nil_of_le (by omega)]
  have hbl := h l (List.mem_of_getElem? hlq)
  have lm : (gs.map T.tup).length = gs.length := by simp
  obtain ⟨S', z', e1, ez, body, x, eS, hc, hb⟩ := turns_ind (g := gN 2) (body := b__law_joined_1) (fun i S z => z = z0 ∧ ∃ (body : List T) (x : Sv), S = [.b (.il (gs.map .tup)), .o (.im (.tup body)), x] ∧ Cj (3 : Int) (gs.drop (n - i)) body ∧ body.length ≤ 21 * (i + 1))
    (ts := rngI 0 n) (n := 0) (S := [.b (.il (gs.map .tup)), .o (.im (.tup l)), .un]) (z := z0)
    (fun i t S z e ⟨ez, body, x, eS, hc, hb⟩ => by
      subst eS ez
      rw [Nat.zero_add] at hc hb ⊢
      obtain ⟨hi, rfl⟩ := rngI_get e
      obtain ⟨q, hq⟩ : ∃ q, gs[n - i - 1]? = some q := ⟨_, List.getElem?_eq_getElem (by omega)⟩
      have hbg := h q (List.mem_of_getElem? hq)
      have ea : atI (gs.map T.tup) (((gs.map T.tup).length : Int) - 2 - i) = some (.tup q) := by
        rw [show (((gs.map T.tup).length : Int) - 2 - i) = ((n - i - 1 : Nat) : Int) by rw [lm]; omega]
        exact atI_nat (by rw [List.getElem?_map, hq]; rfl)
      have hle := hbg.le
      have e0 : ((0 : Int) + i) = (i : Int) := by omega
      refine ⟨[.b (.il (gs.map .tup)), .o (.im (.tup body)), .o (.im (.int (0 + (i : Int))))], by simp, [.b (.il (gs.map .tup)), .o (.im (.tup (conj :: (q ++ body)))), .o (.im (.int (i : Int)))], z0, .inl ?_, rfl, _, _, rfl, ?_, ?_⟩
      · generalize gs.map T.tup = G at *
        simp [b__law_joined_1, ea, show 1 + q.length ≤ 16777216 by omega, show q.length ≤ 16777215 by omega, show q.length + 1 + body.length ≤ 16777216 by omega, show q.length + body.length ≤ 16777215 by omega]
      · rw [show n - (i + 1) = n - i - 1 by omega, drop_get hq, show n - i - 1 + 1 = n - i by omega]
        exact .node (A := [_]) (.leaf hbg.tr hbg.nc) hc
      · simp; omega)
    ⟨rfl, _, _, rfl, by rw [Nat.sub_zero, hlast]; exact .leaf hbl.tr hbl.nc, by have := hbl.le; omega⟩
  subst eS ez
  rw [rngI_length, Nat.zero_add, Nat.sub_self, List.drop_zero] at hc
  rw [rngI_length] at hb
  refine ⟨body, ?_, hc, by omega⟩
  have ea : atI (gs.map T.tup) (((gs.map T.tup).length : Int) - 1) = some (.tup l) := by
    rw [show (((gs.map T.tup).length : Int) - 1) = ((n : Nat) : Int) by rw [lm]; omega]
    exact atI_nat (by rw [List.getElem?_map, hlq]; rfl)
  have en : (((gs.map T.tup).length : Int) - 1) = (n : Int) := by rw [lm]; omega
  rw [en] at ea
  generalize gs.map T.tup = G at *
  simp [m__law_joined, runP, c__law_joined, en, ea, e1, MM.inR_of (i := (n : Int)) (by omega) (by omega), -sTurns]
end Law

namespace Law
open PySem PySem.Spec PyProof.Rows L2 MM
theorem rows_of {R : T → T → Prop} {P : List T → Prop} (f : ∀ t u, R t u → ∃ ts, u = .tup ts ∧ P ts) {ts us : List T} (hl : us.length = ts.length) (h : ∀ (i : Nat) (t : T), ts[i]? = some t → ∃ u : T, us[i]? = some u ∧ R t u) : ∃ rs : List (List T), us = rs.map .tup ∧ ∀ r ∈ rs, P r := by
  have : ∀ u ∈ us, ∃ ts, u = T.tup ts ∧ P ts := fun u hu => by
    obtain ⟨i, hi⟩ := List.getElem?_of_mem hu
    have hi2 : i < us.length := (List.getElem?_eq_some_iff.mp hi).1
    obtain ⟨u', e, r⟩ := h i (ts[i]'(by omega)) (List.getElem?_eq_getElem _)
    rw [hi] at e
    cases e
    exact f _ _ r
  clear hl h
  induction us with
  | nil => exact ⟨[], rfl, by simp⟩
  | cons u us ih =>
    obtain ⟨t, rfl, ht⟩ := this u (by simp)
    obtain ⟨rs, rfl, hr⟩ := ih fun v hv => this v (by simp [hv])
    exact ⟨t :: rs, rfl, fun r hr' => by
      rcases List.mem_cons.mp hr' with rfl | hr'
      · exact ht
      · exact hr r hr'⟩
/-- a drawn clause -/
def Dc (c : List T) : Prop := ∃ h gs, Cl (3 : Int) c h gs ∧ h.length ≤ 20 ∧ (∀ g ∈ gs, g.length ≤ 20) ∧ gs.length ≤ 10 ∧ c.length ≤ 300
theorem dc_fact {h : List T} (hh : Gl h) : Dc h := ⟨h, [], .fact hh.gd hh.nr, hh.le, by simp, by simp, by have := hh.le; omega⟩
theorem dc_rule {h b : List T} {A : List (List T)} (hh : Gl h) (hA : ∀ g ∈ A, Bg g) (lA : A.length ≤ 10) (hb : Cj (3 : Int) A b) (lb : b.length ≤ 21 * A.length) : Dc (rule :: (h ++ b)) := by
  have := hh.le
  refine ⟨h, ft A, .rule hh.gd hb fun g hg => ?_, hh.le, fun g hg => (hA g (ft_sub hg)).le, Nat.le_trans (ft_len A) lA, by simp; omega⟩
  rcases (hA g (ft_sub hg)).go with e | e
  · have := (List.mem_filter.mp hg).2
    rw [e] at this
    simp [isTru, eqvs_self] at this
  · exact e
def restC : MS := (sSeq (sIf (tAn (tCp (oEq false) (eV 2) (eC (.int 0))) (tCp oGt (eCallZ 0 m__law_draw (aCons (eC (.int 4)) aNil)) (eC (.int 0)))) (sRetV 1) sNil)
  (sSeq (sSet 3 (eLcR rngT1 (aCons (eV 2) aNil) 4 tYs e__law_clause_1))
  (sSeq (sIf (tOr' (tCp (oEq false) (eV 2) (eC (.int 0))) (tCp (oEq false) (eCallZ 0 m__law_draw (aCons (eC (.int 8)) aNil)) (eC (.int 0)))) (sApp 3 (eTup (aCons (eTup (aCons (eC (.str (Str.ofString "f"))) (aCons (eC (.str (Str.ofString "true"))) (aCons (eC (.int 0)) aNil)))) aNil))) sNil)
  (sRet (eAdd (eAdd (eTup (aCons (eTup (aCons (eC (.str (Str.ofString "f"))) (aCons (eC (.str (Str.ofString ":-"))) (aCons (eC (.int 2)) aNil)))) aNil)) (eV 1)) (eCall m__law_joined (aCons (eV 3) aNil)))))))
theorem cl_eq : c__law_clause = (sSeq (sSet 1 (eCallZ 0 m__law_atom_of (aCons (eC (.int 3)) aNil)))
  (sSeq (sSet 2 (eIm (eIx (eLst (aCons (eC (.int 0)) (aCons (eC (.int 0)) (aCons (eC (.int 1)) (aCons (eC (.int 1)) (aCons (eC (.int 2)) (aCons (eC (.int 3)) aNil))))))) (eCallZ 0 m__law_draw (aCons (eC (.int 6)) aNil)))))
  (sSeq (sIf (tCp (oEq false) (eCallZ 0 m__law_draw (aCons (eC (.int 12)) aNil)) (eC (.int 0))) (sSet 2 (eAdd (eC (.int 4)) (eCallZ 0 m__law_draw (aCons (eC (.int 3)) aNil)))) sNil) restC))) := rfl
theorem rest_ok {h : List T} (hh : Gl h) {n : Int} (n0 : 0 ≤ n) (n1 : n ≤ 6) (z4 : Zs) : ∃ c z', restC [.s, .o (.im (.tup h)), .o (.im (.int n)), .un, .un] z4 = .rt (.im (.tup c)) z' ∧ Dc c := by
  obtain ⟨b, z5, e5, b0, b1⟩ := draw_sm z4 4 (by decide) (by decide)
  have goals : ∀ z : Zs, ∃ (A : List (List T)) (z' : Zs), A.length = n.toNat ∧ (∀ g ∈ A, Bg g) ∧ lcT 4 tYs e__law_clause_1 (wipS 4 [.s, .o (.im (.tup h)), .o (.im (.int n)), .un, .un]) (rngI 0 n.toNat) [] z = .ok (.il (A.map .tup)) z' := fun z => by
    obtain ⟨us, z', e, hl, hu⟩ := lc_all (j := 4) (m := e__law_clause_1) (S0 := wipS 4 [.s, .o (.im (.tup h)), .o (.im (.int n)), .un, .un]) (by simp [wipS]) (fun _ u => ∃ ts, u = T.tup ts ∧ Bg ts) (ts := rngI 0 n.toNat) (acc := []) (z := z) (fun t _ z => by
      obtain ⟨ts, z', e, ht⟩ := atom_ok z
      exact ⟨.tup ts, z', by simp [wipS, e__law_clause_1, e], ts, rfl, ht.bg⟩) (by simp [rngI_length]; omega)
    rw [List.nil_append] at e
    rw [rngI_length] at hl
    obtain ⟨A, rfl, hA⟩ := rows_of (P := Bg) (fun _ _ h => h) (by rw [rngI_length]; exact hl) hu
    exact ⟨A, z', by simpa using hl, hA, e⟩
  have hle := hh.le
  have fin : ∀ {A : List (List T)}, A.length ≤ 10 → A ≠ [] → (∀ g ∈ A, Bg g) → ∃ b, m__law_joined [.il (A.map .tup)] = .ok (.im (.tup b)) z0 ∧ Dc (rule :: (h ++ b)) ∧ b.length ≤ 210 := fun {A} lA h0 hA => by
    obtain ⟨b, eb, hb, lb⟩ := joined_ok hA h0 lA
    exact ⟨b, eb, dc_rule hh hA lA hb lb, by omega⟩
  have inr := MM.inR_of (i := n) (by omega) (by omega)
  by_cases c0 : n = 0
  · subst c0
    by_cases cb : 0 < b
    · exact ⟨h, z5, by simp [restC, e5, cb], dc_fact hh⟩
    · obtain ⟨A, z6, lA, hA, e6⟩ := goals z5
      obtain rfl : A = [] := List.eq_nil_of_length_eq_zero lA
      obtain ⟨bd, eb, hd, lb⟩ := fin (A := [tru]) (by simp) (by simp) (by simpa using bg_tru)
      refine ⟨_, z6, ?_, hd⟩
      simp at e6 eb
      simp [restC, e5, cb, inr, e6, eb, show 1 + h.length ≤ 16777216 by omega, show h.length ≤ 16777215 by omega, show h.length + 1 + bd.length ≤ 16777216 by omega, show h.length + bd.length ≤ 16777215 by omega]
  · obtain ⟨A, z6, lA, hA, e6⟩ := goals z4
    have h0 : A ≠ [] := fun e => by subst e; simp at lA; omega
    obtain ⟨x, z7, e7, _, _⟩ := draw_sm z6 8 (by decide) (by decide)
    have lA' : (A.map T.tup).length ≤ 6 := by simp; omega
    by_cases cx : x = 0
    · obtain ⟨bd, eb, hd, lb⟩ := fin (A := A ++ [tru]) (by simp; omega) (by simp) (fun g hg => (List.mem_append.mp hg).elim (hA g) (fun q => by simp at q; subst q; exact bg_tru))
      refine ⟨_, z7, ?_, hd⟩
      rw [List.map_append] at eb
      generalize A.map T.tup = A' at *
      simp at eb
      simp [restC, c0, inr, e6, e7, cx, eb, show A'.length < 16777216 by omega, show 1 + h.length ≤ 16777216 by omega, show h.length ≤ 16777215 by omega, show h.length + 1 + bd.length ≤ 16777216 by omega, show h.length + bd.length ≤ 16777215 by omega]
    · obtain ⟨bd, eb, hd, lb⟩ := fin (A := A) (by omega) h0 hA
      refine ⟨_, z7, ?_, hd⟩
      generalize A.map T.tup = A' at *
      simp [restC, c0, inr, e6, e7, cx, eb, show A'.length < 16777216 by omega, show 1 + h.length ≤ 16777216 by omega, show h.length ≤ 16777215 by omega, show h.length + 1 + bd.length ≤ 16777216 by omega, show h.length + bd.length ≤ 16777215 by omega]
theorem clause_ok (z : Zs) : ∃ c z', m__law_clause [] z = .ok (.im (.tup c)) z' ∧ Dc c := by
  obtain ⟨h, z1, e1, hh⟩ := atom_ok z
  obtain ⟨i, z2, e2, i0, i1⟩ := draw_sm z1 6 (by decide) (by decide)
  obtain ⟨w, ew, m, rfl, m0, m1⟩ := pick_ok (ts := [.int 0, .int 0, .int 1, .int 1, .int 2, .int 3]) (fun t => ∃ m : Int, t = .int m ∧ 0 ≤ m ∧ m ≤ 3) i0 i1 (by
    intro t ht
    simp only [List.mem_cons, List.not_mem_nil, or_false] at ht
    rcases ht with rfl | rfl | rfl | rfl | rfl | rfl <;> exact ⟨_, rfl, by decide, by decide⟩)
  obtain ⟨a, z3, e3, a0, a1⟩ := draw_sm z2 12 (by decide) (by decide)
  by_cases c : a = 0
  · obtain ⟨d, z4, e4, d0, d1⟩ := draw_sm z3 3 (by decide) (by decide)
    obtain ⟨cl, z', ec, hc⟩ := rest_ok hh (n := 4 + d) (by omega) (by omega) z4
    exact ⟨cl, z', by simp [m__law_clause, runZ, cl_eq, e1, e2, ew, e3, c, e4, ec], hc⟩
  · obtain ⟨cl, z', ec, hc⟩ := rest_ok hh m0 (by omega) z3
    exact ⟨cl, z', by simp [m__law_clause, runZ, cl_eq, e1, e2, ew, e3, c, ec], hc⟩
end Law

namespace Law
open PySem PySem.Spec PyProof.Rows L2 MM
/-! ### drawn programs -/
theorem latom_ok (z : Zs) : ∃ t z', m__law_atom [] z = .ok (.im (.tup [t])) z' ∧ Node (3 : Int) t ∧ need 1 [t] = some 0 := by
  obtain ⟨i, z2, e2, i0, i1⟩ := draw_sm z 4 (by decide) (by decide)
  obtain ⟨w', ew, s, rfl, hs⟩ := pick_ok (ts := [S "a", S "b", S "c", S "d"]) (fun t => ∃ s, t = S s ∧ nameB (Str.ofString s) = true) i0 i1 (by
    intro t ht
    simp only [List.mem_cons, List.not_mem_nil, or_false] at ht
    rcases ht with rfl | rfl | rfl | rfl <;> exact ⟨_, rfl, by decide +kernel⟩)
  exact ⟨fs s 0, z2, by simp [m__law_atom, runZ, c__law_atom, e2, ew], node_fs hs (by omega), rfl⟩
theorem v3 {n : Int} (h0 : 0 ≤ n) (h : n < 3) : Node (3 : Int) (V1 n) := .v h0 h
theorem gl2 {s : String} (h : (s, 2) ∈ mnu) {a b : T} (ha : Node (3 : Int) a) (na : need 1 [a] = some 0) (hb : Node (3 : Int) b) (nb : need 1 [b] = some 0) : Gl [fs s 2, a, b] := gl_fs h (by simpa using ⟨ha, hb⟩) (need_two na nb) (by simp)
theorem gv {s : String} (h : (s, 2) ∈ mnu) {m n : Int} (m0 : 0 ≤ m) (m1 : m < 3) (n0 : 0 ≤ n) (n1 : n < 3) : Gl [fs s 2, V1 m, V1 n] := gl2 h (v3 m0 m1) rfl (v3 n0 n1) rfl
theorem dc_one {h b : List T} (hh : Gl h) (hb : Gl b) : Dc (rule :: (h ++ b)) := dc_rule (A := [b]) hh (by simpa using hb.bg) (by simp) (.leaf hb.gd.1 hb.bg.nc) (by have := hb.le; simp; omega)
theorem dc_two {h b d : List T} (hh : Gl h) (hb : Gl b) (hd : Gl d) : Dc (rule :: (h ++ conj :: (b ++ d))) := dc_rule (A := [b] ++ [d]) hh (by simpa using ⟨hb.bg, hd.bg⟩) (by simp) (.node (.leaf hb.gd.1 hb.bg.nc) (.leaf hd.gd.1 hd.bg.nc)) (by have := hb.le; have := hd.le; simp; omega)
theorem mq : (("q", 2) : String × Nat) ∈ mnu := by decide +kernel
theorem me : (("e", 2) : String × Nat) ∈ mnu := by decide +kernel
theorem mp : (("p", 1) : String × Nat) ∈ mnu := by decide +kernel
def Prog (P : List (List T)) : Prop := P ≠ [] ∧ P.length ≤ 20 ∧ ∀ c ∈ P, Dc c
set_option maxHeartbeats 4000000 in
theorem known_ok {k : Int} (k0 : 0 ≤ k) (k1 : k < 4) (z : Zs) : ∃ (P : List (List T)) (z' : Zs), m__law_known [.im (.int k)] z = .ok (.il (P.map .tup)) z' ∧ P ≠ [] ∧ P.length ≤ 10 ∧ ∀ c ∈ P, Dc c := by
  by_cases c0 : k = 0
  · subst c0
    obtain ⟨d, z1, e1, d0, d1⟩ := draw_sm z 3 (by decide) (by decide)
    have S0 : List Sv := []
    obtain ⟨us, z2, e2, hl, hu⟩ := lc_all (j := 13) (m := e__law_known_1) (S0 := wipS 13 [.s, .b (.im (.int 0)), .o (.im (.tup [V1 0])), .o (.im (.tup [V1 1])), .o (.im (.tup [V1 2])), .o (.im (.tup [.tup [S "f", S "e", .int 2]])), .o (.im (.tup [.tup [S "f", S "q", .int 2]])), .o (.im (.tup [rule])), .o (.im (.tup [conj])), .un, .un, .un, .un, .un]) (by simp [wipS]) (fun _ u => ∃ ts, u = T.tup ts ∧ Dc ts) (ts := rngI 0 (2 + d).toNat) (acc := []) (z := z1) (fun t _ z => by
      obtain ⟨a, y1, f1, ha, na⟩ := latom_ok z
      obtain ⟨b, y2, f2, hb, nb⟩ := latom_ok y1
      exact ⟨.tup [fs "e" 2, a, b], y2, by simp [wipS, e__law_known_1, f1, f2], _, rfl, dc_fact (gl2 me ha na hb nb)⟩) (by simp [rngI_length]; omega)
    rw [List.nil_append] at e2
    rw [rngI_length] at hl
    obtain ⟨A, rfl, hA⟩ := rows_of (P := Dc) (fun _ _ h => h) (by rw [rngI_length]; exact hl) hu
    obtain ⟨b, z3, e3, b0, b1⟩ := draw_sm z2 3 (by decide) (by decide)
    have lA : (A.map T.tup).length ≤ 5 := by omega
    have inr := MM.inR_of (i := 2 + d) (by omega) (by omega)
    have d1 := dc_one (gv mq (m := 0) (n := 1) (by decide) (by decide) (by decide) (by decide)) (gv me (m := 0) (n := 1) (by decide) (by decide) (by decide) (by decide))
    by_cases cb : b = 0
    · refine ⟨A ++ [rule :: ([fs "q" 2, V1 0, V1 1] ++ [fs "e" 2, V1 0, V1 1]), rule :: ([fs "q" 2, V1 0, V1 2] ++ conj :: ([fs "e" 2, V1 0, V1 1] ++ [fs "q" 2, V1 1, V1 2]))], z3, ?_, by simp, by simp at lA ⊢; omega, fun c hc => ?_⟩
      · rw [List.map_append]
        generalize A.map T.tup = A' at *
        simp [m__law_known, runZ, c__law_known, e1, inr, e2, e3, cb, show A'.length + 2 ≤ 16777216 by omega, show A'.length ≤ 16777214 by omega]
      · rcases List.mem_append.mp hc with q | q
        · exact hA c q
        · simp only [List.mem_cons, List.not_mem_nil, or_false] at q
          rcases q with rfl | rfl
          · exact d1
          · exact dc_two (gv mq (by decide) (by decide) (by decide) (by decide)) (gv me (by decide) (by decide) (by decide) (by decide)) (gv mq (by decide) (by decide) (by decide) (by decide))
    · refine ⟨A ++ [rule :: ([fs "q" 2, V1 0, V1 1] ++ [fs "e" 2, V1 0, V1 1]), rule :: ([fs "q" 2, V1 0, V1 2] ++ conj :: ([fs "q" 2, V1 0, V1 1] ++ [fs "e" 2, V1 1, V1 2]))], z3, ?_, by simp, by simp at lA ⊢; omega, fun c hc => ?_⟩
      · rw [List.map_append]
        generalize A.map T.tup = A' at *
        simp [m__law_known, runZ, c__law_known, e1, inr, e2, e3, cb, show A'.length + 2 ≤ 16777216 by omega, show A'.length ≤ 16777214 by omega]
      · rcases List.mem_append.mp hc with q | q
        · exact hA c q
        · simp only [List.mem_cons, List.not_mem_nil, or_false] at q
          rcases q with rfl | rfl
          · exact d1
          · exact dc_two (gv mq (by decide) (by decide) (by decide) (by decide)) (gv mq (by decide) (by decide) (by decide) (by decide)) (gv me (by decide) (by decide) (by decide) (by decide))
  by_cases c1 : k = 1
  · subst c1
    obtain ⟨a, z1, e1, ha, na⟩ := leaf_ok (w := 2) (by decide) (by decide) z
    refine ⟨[[fs "p" 1, a], rule :: ([fs "p" 1, fs "s" 1, V1 0] ++ [fs "p" 1, V1 0])], z1, by simp [m__law_known, runZ, c__law_known, e1], by simp, by simp, fun c hc => ?_⟩
    simp only [List.mem_cons, List.not_mem_nil, or_false] at hc
    rcases hc with rfl | rfl
    · exact dc_fact (gl_fs mp (by simpa using ha) na (by simp))
    · exact dc_one (gl_fs mp (by simpa using ⟨node_fs (by decide +kernel) (by decide), v3 (by decide) (by decide)⟩) rfl (by simp)) (gl_fs mp (by simpa using v3 (by decide) (by decide)) rfl (by simp))
  by_cases c2 : k = 2
  · subst c2
    obtain ⟨a, z1, e1, ha, na⟩ := leaf_ok (w := 2) (by decide) (by decide) z
    refine ⟨[[fs "q" 2, nilT, a], rule :: ([fs "q" 2, dot, V1 0, V1 1, V1 2] ++ [fs "q" 2, V1 1, V1 2])], z1, by simp [m__law_known, runZ, c__law_known, e1], by simp, by simp, fun c hc => ?_⟩
    simp only [List.mem_cons, List.not_mem_nil, or_false] at hc
    rcases hc with rfl | rfl
    · exact dc_fact (gl2 mq node_nil rfl ha na)
    · exact dc_one (gl_fs mq (by simpa using ⟨node_dot, v3 (by decide) (by decide), v3 (by decide) (by decide), v3 (by decide) (by decide)⟩) rfl (by simp)) (gv mq (by decide) (by decide) (by decide) (by decide))
  · obtain ⟨a, z1, e1, ha, na⟩ := latom_ok z
    obtain ⟨b, z2, e2, hb, nb⟩ := latom_ok z1
    obtain ⟨a', z3, e3, ha', na'⟩ := latom_ok z2
    obtain ⟨b', z4, e4, hb', nb'⟩ := latom_ok z3
    refine ⟨[[fs "q" 2, a, b], rule :: ([fs "q" 2, V1 0, V1 2] ++ conj :: ([fs "q" 2, V1 0, V1 1] ++ [fs "q" 2, V1 1, V1 2])), [fs "q" 2, a', b']], z4, by simp [m__law_known, runZ, c__law_known, e1, e2, e3, e4, c0, c1, c2], by simp, by simp, fun c hc => ?_⟩
    simp only [List.mem_cons, List.not_mem_nil, or_false] at hc
    rcases hc with rfl | rfl | rfl
    · exact dc_fact (gl2 mq ha na hb nb)
    · exact dc_two (gv mq (by decide) (by decide) (by decide) (by decide)) (gv mq (by decide) (by decide) (by decide) (by decide)) (gv mq (by decide) (by decide) (by decide) (by decide))
    · exact dc_fact (gl2 mq ha' na' hb' nb')
theorem program_ok (z : Zs) : ∃ P z', m__law_program [] z = .ok (.il (P.map .tup)) z' ∧ Prog P := by
  obtain ⟨a, z1, e1, a0, a1⟩ := draw_sm z 3 (by decide) (by decide)
  by_cases c : a = 0
  · obtain ⟨k, z2, e2, k0, k1⟩ := draw_sm z1 4 (by decide) (by decide)
    obtain ⟨P, z3, e3, h0, hl, hP⟩ := known_ok k0 k1 z2
    obtain ⟨b, z4, e4, b0, b1⟩ := draw_sm z3 2 (by decide) (by decide)
    by_cases cb : b = 0
    · obtain ⟨cl, z5, e5, hc⟩ := clause_ok z4
      refine ⟨P ++ [cl], z5, ?_, by simp, by simp; omega, fun x hx => (List.mem_append.mp hx).elim (hP x) fun q => by simp at q; subst q; exact hc⟩
      have lP : (P.map T.tup).length ≤ 10 := by simpa using hl
      rw [List.map_append]
      generalize P.map T.tup = P' at *
      simp [m__law_program, runZ, c__law_program, e1, c, e2, e3, e4, cb, e5, show P'.length < 16777216 by omega]
    · exact ⟨P, z4, by simp [m__law_program, runZ, c__law_program, e1, c, e2, e3, e4, cb], h0, by omega, hP⟩
  · obtain ⟨n, z2, e2, n0, n1⟩ := draw_sm z1 5 (by decide) (by decide)
    obtain ⟨us, z3, e3, hl, hu⟩ := lc_all (j := 2) (m := e__law_program_1) (S0 := wipS 2 [.s, .un, .un]) (by simp [wipS]) (fun _ u => ∃ ts, u = T.tup ts ∧ Dc ts) (ts := rngI 0 (1 + n).toNat) (acc := []) (z := z2) (fun t _ z => by
      obtain ⟨ts, z', e, ht⟩ := clause_ok z
      exact ⟨.tup ts, z', by simp [wipS, e__law_program_1, e], ts, rfl, ht⟩) (by simp [rngI_length]; omega)
    rw [List.nil_append] at e3
    rw [rngI_length] at hl
    obtain ⟨A, rfl, hA⟩ := rows_of (P := Dc) (fun _ _ h => h) (by rw [rngI_length]; exact hl) hu
    have lA : A.length = (1 + n).toNat := by simpa using hl
    exact ⟨A, z3, by simp [m__law_program, runZ, c__law_program, e1, c, e2, MM.inR_of (i := 1 + n) (by omega) (by omega), e3], fun e => by subst e; simp at lA; omega, by omega, hA⟩
end Law

namespace Law
open PySem PySem.Spec PyProof.Rows L2 MM
/-! ### queries -/
theorem need_ar : ∀ {xs ys : List T} {m : Nat}, xs.map arT = ys.map arT → need m xs = need m ys
  | [], [], m, _ => rfl
  | [], y :: ys, m, h => by simp at h
  | x :: xs, [], m, h => by simp at h
  | x :: xs, y :: ys, 0, h => rfl
  | x :: xs, y :: ys, m + 1, h => by
    simp at h
    show need (m + arT x) xs = need (m + arT y) ys
    rw [h.1]
    exact need_ar h.2
theorem query_ok {P : List (List T)} (hP : Prog P) (z : Zs) : ∃ q z', m__law_query [.il (P.map .tup)] z = .ok (.im (.tup q)) z' ∧ Term (3 : Int) q ∧ q.length ≤ 20 := by
  obtain ⟨a, z1, e1, a0, a1⟩ := draw_sm z 3 (by decide) (by decide)
  by_cases c : a = 0
  · obtain ⟨q, z2, e2, hq⟩ := atom_ok z1
    exact ⟨q, z2, by simp [m__law_query, runZ, c__law_query, e1, c, e2], hq.gd.1, hq.le⟩
  · have hp0 : 0 < P.length := List.length_pos_iff.mpr hP.1
    have hp1 := hP.2.1
    obtain ⟨i, z2, e2, i0, i1⟩ := draw_sm z1 (P.length : Int) (by omega) (by omega)
    obtain ⟨cl, ec, hc⟩ := pick_ok (ts := P.map .tup) (fun t => ∃ c, t = T.tup c ∧ Dc c) i0 (by simpa using i1) (fun t ht => by
      obtain ⟨c, hc, rfl⟩ := List.mem_map.mp ht
      exact ⟨c, rfl, hP.2.2 c hc⟩)
    obtain ⟨cl, rfl, h, gs, hcl, lh, lgs, ng, lc⟩ := hc
    have er := lrow_ok hcl (by omega)
    have hh := hcl.gd.1.1
    obtain ⟨S', z3, e3, ys, x4, x5, eS, ly, ny, ay⟩ := turns_ind (g := gN 4) (body := b__law_query_1) (fun i S _ => ∃ (ys : List T) (x4 x5 : Sv), S = [.s, .b (.il (P.map .tup)), .o (.im (.tup h)), .o (.il ys), x4, x5] ∧ ys.length = i ∧ (∀ u ∈ ys, Node (3 : Int) u) ∧ ys.map arT = (h.take i).map arT)
      (ts := rngI 0 h.length) (n := 0) (S := [.s, .b (.il (P.map .tup)), .o (.im (.tup h)), .o (.il []), .un, .un]) (z := z2)
      (fun i t S z e ⟨ys, x4, x5, eS, ly, ny, ay⟩ => by
        subst eS
        rw [Nat.zero_add] at ly ay ⊢
        obtain ⟨hi, rfl⟩ := rngI_get e
        obtain ⟨t, ht⟩ : ∃ t, h[i]? = some t := ⟨_, List.getElem?_eq_getElem hi⟩
        have ea : atI h (i : Int) = some t := atI_nat ht
        have hn := hh.nodes t (List.mem_of_getElem? ht)
        have tk : (h.take (i + 1)).map arT = (h.take i).map arT ++ [arT t] := by rw [List.take_add_one, ht]; simp
        have e0 : ((0 : Int) + i) = (i : Int) := by omega
        have hy : ys.length < 16777216 := by omega
        refine ⟨[.s, .b (.il (P.map .tup)), .o (.im (.tup h)), .o (.il ys), .o (.im (.int (0 + (i : Int)))), x5], by simp, ?_⟩
        rw [e0]
        have keep : ∀ z', (∃ q, b__law_query_1 [.s, .b (.il (P.map .tup)), .o (.im (.tup h)), .o (.il ys), .o (.im (.int (i : Int))), x5] z = .nx [.s, .b (.il (P.map .tup)), .o (.im (.tup h)), .o (.il (ys ++ [q])), .o (.im (.int (i : Int))), .o (.im t)] z' ∧ Node (3 : Int) q ∧ arT q = arT t) → ∃ S2 z2, (b__law_query_1 [.s, .b (.il (P.map .tup)), .o (.im (.tup h)), .o (.il ys), .o (.im (.int (i : Int))), x5] z = .nx S2 z2 ∨ b__law_query_1 [.s, .b (.il (P.map .tup)), .o (.im (.tup h)), .o (.il ys), .o (.im (.int (i : Int))), x5] z = .ct S2 z2) ∧ ∃ (ys' : List T) (x4 x5 : Sv), S2 = [.s, .b (.il (P.map .tup)), .o (.im (.tup h)), .o (.il ys'), x4, x5] ∧ ys'.length = i + 1 ∧ (∀ u ∈ ys', Node (3 : Int) u) ∧ ys'.map arT = (h.take (i + 1)).map arT := fun z' ⟨q, eq, nq, aq⟩ =>
          ⟨_, z', .inl eq, ys ++ [q], _, _, rfl, by simp [ly], fun u hu => (List.mem_append.mp hu).elim (ny u) (fun k => by simp at k; subst k; exact nq), by rw [tk, List.map_append, ay]; simp [aq]⟩
        obtain ⟨b, w1, f1, _, _⟩ := draw_sm z 3 (by decide) (by decide)
        obtain ⟨v, w2, f2, v0, v1⟩ := draw_sm w1 3 (by decide) (by decide)
        by_cases i00 : i = 0
        · subst i00
          exact keep z ⟨t, by simp at ea; simp [b__law_query_1, ea, hy], hn, rfl⟩
        · have i0' : ¬ ((i : Int) = 0) := by omega
          by_cases cb : 0 < b
          · cases hn with
            | v a1 a2 => exact keep w1 ⟨_, by simp [b__law_query_1, ea, hy, i00, f1, cb], .v a1 a2, rfl⟩
            | i a1 a2 => exact keep w1 ⟨_, by simp [b__law_query_1, ea, hy, i00, f1, cb], .i a1 a2, rfl⟩
            | @f s ar a1 a2 a3 =>
              by_cases ca : 0 < ar
              · exact keep z ⟨_, by simp [b__law_query_1, ea, hy, i00, ca], .f a1 a2 a3, rfl⟩
              · exact keep w1 ⟨_, by simp [b__law_query_1, ea, hy, i00, ca, f1, cb], .f a1 a2 a3, rfl⟩
          · cases hn with
            | v a1 a2 => exact keep w2 ⟨V1 v, by simp [b__law_query_1, ea, hy, i00, f1, cb, f2], .v v0 v1, rfl⟩
            | i a1 a2 => exact keep w2 ⟨V1 v, by simp [b__law_query_1, ea, hy, i00, f1, cb, f2], .v v0 v1, rfl⟩
            | @f s ar a1 a2 a3 =>
              by_cases ca : 0 < ar
              · exact keep z ⟨_, by simp [b__law_query_1, ea, hy, i00, ca], .f a1 a2 a3, rfl⟩
              · have : ar = 0 := by omega
                subst this
                exact keep w2 ⟨V1 v, by simp [b__law_query_1, ea, hy, i00, f1, cb, f2], .v v0 v1, rfl⟩)
      ⟨[], _, _, rfl, rfl, by simp, by simp⟩
    rw [rngI_length, Nat.zero_add] at ly ay
    rw [List.take_length] at ay
    subst eS
    refine ⟨ys, z3, ?_, ⟨ny, by rw [need_ar ay]; exact hh.whole⟩, by omega⟩
    have lPm : ((P.map T.tup).length : Int) = (P.length : Int) := by simp
    rw [← lPm] at e2
    have inr := MM.inR_of (i := (h.length : Int)) (by omega) (by omega)
    generalize P.map T.tup = P' at *
    generalize gs.map T.tup = gs' at *
    rw [List.map_cons] at er
    simp [m__law_query, runZ, c__law_query, e1, c, e2, ec, er, inr, e3, -sTurns]
end Law

namespace Law
open PySem PySem.Spec PyProof.Rows L2 MM
/-! ### large goals -/
theorem need_ss : ∀ (n : Nat) (x : List T), need 1 (List.replicate n (fs "s" 1) ++ x) = need 1 x
  | 0, x => rfl
  | n + 1, x => by
    rw [List.replicate_succ, List.cons_append]
    show need (0 + arT (fs "s" 1)) _ = _
    exact need_ss n x
theorem large_ok (z : Zs) : ∃ g z', m__law_large [] z = .ok (.im (.tup g)) z' ∧ Sm (3 : Int) g := by
  obtain ⟨a, z1, e1, a0, a1⟩ := draw_sm z 90 (by decide) (by decide)
  obtain ⟨n, hn⟩ : ∃ n : Nat, (20 : Int) + a = n := Int.eq_ofNat_of_zero_le (by omega)
  obtain ⟨b, z2, e2, b0, b1⟩ := draw_sm z1 2 (by decide) (by decide)
  have ns : ∀ t ∈ List.replicate n (fs "s" 1), Node (3 : Int) t := fun t ht => by rw [List.eq_of_mem_replicate ht]; exact node_fs (by decide +kernel) (by decide)
  have l1 : n ≤ 110 := by omega
  have w1 : need 1 (List.replicate n (fs "s" 1) ++ [V1 0]) = some 0 := by rw [need_ss]; rfl
  by_cases c : b = 0
  · refine ⟨fs "q" 2 :: ((fs "s" 1 :: (List.replicate n (fs "s" 1) ++ [V1 0])) ++ [fs "s" 1, V1 1]), z2, ?_, ?_, by simp; omega⟩
    · simp [m__law_large, runZ, c__law_large, e1, hn, e2, c, show (n : Int) ≤ 1000 by omega, show n + 1 ≤ 16777216 by omega, show n ≤ 16777215 by omega, show 2 + (n + 1) ≤ 16777216 by omega, show n ≤ 16777213 by omega, show n ≤ 16777212 by omega, show n + 1 + 1 + 1 + 2 ≤ 16777216 by omega, show n ≤ 16777211 by omega]
      rfl
    · refine term_fs (by decide +kernel) (by decide) (fun t ht => ?_) (need_two (a := fs "s" 1 :: (List.replicate n (fs "s" 1) ++ [V1 0])) (b := [fs "s" 1, V1 1]) (need_ss (n + 1) [V1 0]) rfl)
      rcases List.mem_append.mp ht with q | q
      · rcases List.mem_cons.mp q with rfl | q
        · exact node_fs (by decide +kernel) (by decide)
        · rcases List.mem_append.mp q with q | q
          · exact ns t q
          · simp at q; subst q; exact v3 (by decide) (by decide)
      · simp at q
        rcases q with rfl | rfl
        · exact node_fs (by decide +kernel) (by decide)
        · exact v3 (by decide) (by decide)
  · refine ⟨fs "q" 2 :: ((List.replicate n (fs "s" 1) ++ [V1 0]) ++ [V1 1]), z2, ?_, ?_, by simp; omega⟩
    · simp [m__law_large, runZ, c__law_large, e1, hn, e2, c, show (n : Int) ≤ 1000 by omega, show n + 1 ≤ 16777216 by omega, show n ≤ 16777215 by omega, show 1 + (n + 1) ≤ 16777216 by omega, show n ≤ 16777214 by omega, show n ≤ 16777213 by omega, show n ≤ 16777212 by omega, show n + 1 + 1 + 1 ≤ 16777216 by omega]
    · refine term_fs (by decide +kernel) (by decide) (fun t ht => ?_) (need_two w1 rfl)
      rcases List.mem_append.mp ht with q | q
      · rcases List.mem_append.mp q with q | q
        · exact ns t q
        · simp at q; subst q; exact v3 (by decide) (by decide)
      · simp at q; subst q; exact v3 (by decide) (by decide)
/-! ### variables renamed -/
structure Ren (w w' : Int) (g : T → T) : Prop where
  v : ∀ n, 0 ≤ n → n < w → ∃ m, g (V1 n) = V1 m ∧ 0 ≤ m ∧ m < w'
  i : ∀ n, g (.int n) = .int n
  f : ∀ s a, g (.tup [S "f", .str s, .int a]) = .tup [S "f", .str s, .int a]
section
variable {w w' : Int} {g : T → T}
theorem Ren.node (r : Ren w w' g) {t : T} (h : Node w t) : Node w' (g t) := by
  cases h with
  | v a b => obtain ⟨m, e, m0, m1⟩ := r.v _ a b; rw [e]; exact .v m0 m1
  | i a b => rw [r.i]; exact .i a b
  | f a b c => rw [r.f]; exact .f a b c
theorem Ren.ar (r : Ren w w' g) {t : T} (h : Node w t) : arT (g t) = arT t := by
  cases h with
  | v a b => obtain ⟨m, e, m0, m1⟩ := r.v _ a b; rw [e]; rfl
  | i a b => rw [r.i]
  | f a b c => rw [r.f]
theorem Ren.term (r : Ren w w' g) {x : List T} (h : Term w x) : Term w' (x.map g) := by
  refine ⟨fun u hu => ?_, ?_⟩
  · obtain ⟨t, ht, rfl⟩ := List.mem_map.mp hu
    exact r.node (h.nodes t ht)
  · rw [need_ar (ys := x)]
    · exact h.whole
    · rw [List.map_map]
      exact List.map_congr_left fun t ht => r.ar (h.nodes t ht)
theorem Ren.head (r : Ren w w' g) {x : List T} (h : Term w x) {s : Str} {a : Int} (ha : a = 2) : (x.map g).head? = some (.tup [S "f", .str s, .int a]) → x.head? = some (.tup [S "f", .str s, .int a]) := by
  subst ha
  cases x with
  | nil => intro e; cases e
  | cons t x =>
    intro e
    simp at e ⊢
    have ht := h.nodes t (by simp)
    have ar := r.ar ht
    rw [e] at ar
    cases ht with
    | v a b => simp [arT] at ar
    | i a b => simp [arT] at ar
    | f a b c => rw [r.f] at e; exact e
theorem Ren.tru (r : Ren w w' g) {x : List T} (h : Term w x) : isTru (x.map g) = isTru x := by
  unfold isTru
  cases x with
  | nil => rfl
  | cons t x =>
    have ht := h.nodes t (by simp)
    rw [List.map_cons, eqvs_cons, eqvs_cons]
    congr 1
    · cases ht with
      | v a b => obtain ⟨m, e, m0, m1⟩ := r.v _ a b; rw [e]; simp
      | i a b => rw [r.i]
      | f a b c => rw [r.f]
    · cases x <;> rfl
theorem Ren.igt (r : Ren w w' g) {x : List T} (h : Term w x) (hi : igt x = true) : Law.igt (x.map g) = true := by
  cases x with
  | nil => exact hi
  | cons t x =>
    have ht := h.nodes t (by simp)
    rw [List.map_cons]
    show ig (g t) = true
    have hi : ig t = true := hi
    cases ht with
    | v a b => simp [ig] at hi
    | i a b => simp [ig] at hi
    | f a b c => rw [r.f]; exact hi
theorem Ren.cj (r : Ren w w' g) {A : List (List T)} {b : List T} (h : Cj w A b) : Cj w' (A.map (List.map g)) (b.map g) := by
  induction h with
  | leaf h n => exact .leaf (r.term h) fun e => n (r.head h rfl e)
  | node h1 h2 i1 i2 =>
    rw [List.map_append, List.map_cons, List.map_append]
    have : g conj = conj := r.f _ _
    rw [this]
    exact .node i1 i2
theorem Ren.ft (r : Ren w w' g) : ∀ {A : List (List T)}, (∀ t ∈ A, Term w t) → Law.ft (A.map (List.map g)) = (Law.ft A).map (List.map g)
  | [], _ => rfl
  | a :: A, h => by
    have ih := r.ft (A := A) fun t ht => h t (by simp [ht])
    have e := r.tru (h a (by simp))
    unfold Law.ft at ih ⊢
    rw [List.map_cons, List.filter_cons, List.filter_cons, e, ih]
    split <;> rfl
theorem Ren.cl (r : Ren w w' g) {c h : List T} {gs : List (List T)} (hc : Cl w c h gs) : Cl w' (c.map g) (h.map g) (gs.map (List.map g)) := by
  cases hc with
  | fact hh n => exact .fact ⟨r.term hh.1, r.igt hh.1 hh.2⟩ fun e => n (r.head hh.1 rfl e)
  | @rule h b A hh hb hg =>
    have : g Law.rule = Law.rule := r.f _ _
    rw [List.map_cons, List.map_append, this, ← r.ft hb.all]
    refine .rule ⟨r.term hh.1, r.igt hh.1 hh.2⟩ (r.cj hb) fun q hq => ?_
    rw [r.ft hb.all] at hq
    obtain ⟨q0, hq0, rfl⟩ := List.mem_map.mp hq
    exact r.igt (hb.all q0 (ft_sub hq0)) (hg q0 hq0)
end
theorem ren_id {w w' : Int} (h : w ≤ w') : Ren w w' id := ⟨fun n a b => ⟨n, rfl, a, by omega⟩, fun _ => rfl, fun _ _ => rfl⟩
theorem Cl.mono {w w' : Int} (hw : w ≤ w') {c h : List T} {gs : List (List T)} (hc : Cl w c h gs) : Cl w' c h gs := by
  have := (ren_id hw).cl hc
  simpa using this
/-- a table of variables -/
def SV (w : Int) (kvs : List (Key × T)) : Prop := ∀ p ∈ kvs, ∃ i m : Int, p = (.inl i, .tup [V1 m]) ∧ 0 ≤ m ∧ m < w
theorem SV.tb {w : Int} {kvs : List (Key × T)} (h : SV w kvs) : TB w 1 kvs := fun p hp => by
  obtain ⟨i, m, rfl, m0, m1⟩ := h p hp
  exact ⟨[V1 m], rfl, ⟨fun t ht => by simp at ht; subst ht; exact .v m0 m1, rfl⟩, by simp⟩
def gk (kvs : List (Key × T)) (t : T) : T := match t with
  | .tup [.str _, .int n] => match look kvs (.inl n) with
    | some (.tup [u]) => u
    | _ => t
  | _ => t
theorem SV.get {w : Int} {kvs : List (Key × T)} (h : SV w kvs) (k : Key) : look kvs k = none ∨ ∃ m : Int, look kvs k = some (.tup [V1 m]) ∧ 0 ≤ m ∧ m < w := by
  cases e : look kvs k with
  | none => exact .inl rfl
  | some t =>
    unfold look at e
    obtain ⟨p, hp, rfl⟩ := Option.map_eq_some_iff.mp e
    obtain ⟨i, m, rfl, m0, m1⟩ := h p (List.mem_of_find?_eq_some hp)
    exact .inr ⟨m, rfl, m0, m1⟩
theorem SV.ap {w0 w : Int} {kvs : List (Key × T)} (h : SV w kvs) {t : T} (ht : Node w0 t) : Law.ap kvs t = [gk kvs t] := by
  cases ht with
  | @v n a b =>
    rcases h.get (.inl n) with e | ⟨m, e, _⟩
    · simp [Law.ap, gk, e]
    · simp [Law.ap, gk, e]
  | i a b => simp [Law.ap, gk]
  | f a b c => simp [Law.ap, gk]
theorem SV.map {w0 w : Int} {kvs : List (Key × T)} (h : SV w kvs) : ∀ {x : List T}, (∀ t ∈ x, Node w0 t) → x.flatMap (Law.ap kvs) = x.map (gk kvs)
  | [], _ => rfl
  | t :: x, hx => by rw [List.flatMap_cons, h.ap (hx t (by simp)), SV.map h fun u hu => hx u (by simp [hu])]; rfl
theorem SV.ren {w0 w : Int} {kvs : List (Key × T)} (h : SV w kvs) (hw : w0 ≤ w) : Ren w0 w (gk kvs) := by
  refine ⟨fun n a b => ?_, fun n => rfl, fun s a => rfl⟩
  rcases h.get (.inl n) with e | ⟨m, e, m0, m1⟩
  · exact ⟨n, by simp [gk, e], a, by omega⟩
  · exact ⟨m, by simp [gk, e], m0, m1⟩
theorem SV.put {w0 w : Int} {kvs : List (Key × T)} (h : SV w kvs) {x : List T} (hx : ∀ t ∈ x, Node w0 t) (hl : x.length ≤ 1000) : m__law_put [.dk kvs, .im (.tup x)] = .ok (.im (.tup (x.map (gk kvs)))) z0 := by
  have h' : SV (max w0 w) kvs := fun p hp => by
    obtain ⟨i, m, e, m0, m1⟩ := h p hp
    exact ⟨i, m, e, m0, by omega⟩
  have := lput_ok h'.tb ⟨by decide, by decide⟩ (ts := x) (w := max w0 w) (fun t ht => node_mono (Int.le_max_left _ _) (hx t ht)) (by omega)
  rw [h.map hx] at this
  exact this
end Law

namespace Law
open PySem PySem.Spec PyProof.Rows L2 MM
/-! ### the law -/
/-- what the law has drawn -/
structure Dr (w : Int) (q c : List T) (G : List (List T)) (p : Int) : Prop where
  hw : 0 ≤ w
  hq : Sm w q
  hG : ∀ x ∈ G, Sm w x
  lG : G.length ≤ 8
  p0 : 0 ≤ p
  p1 : p < G.length
  cl : ∃ h gs, Cl w c h gs ∧ h.length ≤ 200 ∧ (∀ g ∈ gs, g.length ≤ 200) ∧ gs.length ≤ 10 ∧ c.length ≤ 300
theorem Dr.end_ {w : Int} {q c : List T} {G : List (List T)} {p : Int} (d : Dr w q c G p) (x0 x2 x4 x8 x9 x10 x11 x12 x13 x14 x15 x16 x17 x18 : Sv) (z : Zs) :
    r_law_10 [x0, .s, x2, .o (.im (.tup q)), x4, .o (.il (G.map .tup)), .o (.im (.tup c)), .o (.im (.int p)), x8, x9, x10, x11, x12, x13, x14, x15, x16, x17, x18] z = .rt (.im (.bl true)) z := by
  obtain ⟨hw, hq, hG, lG, p0, p1, h, gs, cl, lh, lgs, ng, lc⟩ := d
  obtain ⟨n, rfl⟩ := Int.eq_ofNat_of_zero_le p0
  obtain ⟨g, hg⟩ : ∃ g, G[n]? = some g := ⟨_, List.getElem?_eq_getElem (by omega)⟩
  have hs : G = G.take n ++ g :: G.drop (n + 1) := by
    conv => lhs; rw [← List.take_append_drop n G, drop_get hg]
  have ln : (G.take n).length = n := by rw [List.length_take]; omega
  have k : Case w q c h gs (G.take n) g (G.drop (n + 1)) := ⟨hw, hq, fun x hx => hG x (List.mem_of_mem_take hx), hG g (List.mem_of_getElem? hg), fun x hx => hG x (List.mem_of_mem_drop hx), cl, ⟨cl.gd.1.1, lh⟩, fun x hx => ⟨(cl.gd.2 x hx).1, lgs x hx⟩, by omega, by omega, by simp; omega⟩
  have := law9_ok k x0 x2 x4 x8 x9 x10 x11 x12 x13 x14 x15 x16 x17 x18 z
  rw [ln] at this
  rw [hs]
  simp only [List.map_append, List.map_cons]
  exact this
theorem law11_ok {w : Int} {q c : List T} {G : List (List T)} {p : Int} (d : Dr w q c G p) (hw : 100 ≤ w) (x0 x2 x4 x8 x9 x10 x11 x12 x13 x14 x15 x16 x17 x18 : Sv) (z : Zs) :
    ∃ z', r_law_11 [x0, .s, x2, .o (.im (.tup q)), x4, .o (.il (G.map .tup)), .o (.im (.tup c)), .o (.im (.int p)), x8, x9, x10, x11, x12, x13, x14, x15, x16, x17, x18] z = .rt (.im (.bl true)) z' := by
  obtain ⟨a, z1, e1, a0, a1⟩ := draw_sm z 4 (by decide) (by decide)
  by_cases ca : a = 0
  · obtain ⟨b, z2, e2, b0, b1⟩ := draw_sm z1 40 (by decide) (by decide)
    have sv : SV w [(.inl 0, .tup [V1 (2 + b)]), (.inl 1, .tup [V1 50])] := fun p hp => by
      simp only [List.mem_cons, List.not_mem_nil, or_false] at hp
      rcases hp with rfl | rfl
      · exact ⟨0, 2 + b, rfl, by omega, by omega⟩
      · exact ⟨1, 50, rfl, by omega, by omega⟩
    obtain ⟨h, gs, cl, lh, lgs, ng, lc⟩ := d.cl
    have nc : ∀ t ∈ c, Node w t := by
      cases cl with
      | fact hh _ => exact hh.1.nodes
      | rule hh hb hg =>
        intro t ht
        rcases List.mem_cons.mp ht with rfl | ht
        · exact node_rule
        · exact (List.mem_append.mp ht).elim (hh.1.nodes t) (hb.tr.nodes t)
    have ep := sv.put nc (by omega)
    have d' : Dr w q (c.map (gk [(.inl 0, .tup [V1 (2 + b)]), (.inl 1, .tup [V1 50])])) G p := ⟨d.hw, d.hq, d.hG, d.lG, d.p0, d.p1, _, _, (sv.ren (Int.le_refl w)).cl cl, by simpa using lh, fun g hg => by
      obtain ⟨g0, h0, rfl⟩ := List.mem_map.mp hg
      simpa using lgs g0 h0, by simpa using ng, by simpa using lc⟩
    have e3 := d'.end_ x0 x2 x4 x8 x9 x10 x11 x12 x13 x14 x15 x16 x17 x18 z2
    refine ⟨z2, ?_⟩
    generalize c.map (gk [(.inl 0, .tup [V1 (2 + b)]), (.inl 1, .tup [V1 50])]) = c' at *
    simp [e1, ca, e2, T.key?, ep, -r_law_10]
    exact e3
  · have e3 := d.end_ x0 x2 x4 x8 x9 x10 x11 x12 x13 x14 x15 x16 x17 x18 z1
    exact ⟨z1, by simp [e1, ca, -r_law_10]; exact e3⟩
end Law

namespace Law
open PySem PySem.Spec PyProof.Rows L2 MM
theorem cMul_sm {i j : Int} (h0 : 0 ≤ i) (h1 : i < 1000000) : cMul i j = true := by
  unfold cMul
  have a : decide (-(2 ^ 64 : Int) < i) = true := by rw [decide_eq_true_eq]; omega
  have b : decide (i < (2 ^ 64 : Int)) = true := by rw [decide_eq_true_eq]; omega
  rw [a, b]; rfl
theorem lcT_tups {m : ME} {j : Nat} {S0 : List Sv} (hj : j < S0.length) (F : List T → List T) (z : Zs) : ∀ {Y : List (List T)} {acc : List T}, (∀ y ∈ Y, m (S0.set j (.o (.im (.tup y)))) z = .ok (.im (.tup (F y))) z) → acc.length + Y.length ≤ 1000 →
    lcT j tYs m S0 (Y.map .tup) acc z = .ok (.il (acc ++ (Y.map F).map .tup)) z
  | [], acc, _, _ => by simp [lcT]
  | y :: Y, acc, hm, hl => by
    simp only [List.length_cons] at hl
    have ih := lcT_tups (m := m) hj F z (Y := Y) (acc := acc ++ [.tup (F y)]) (fun x hx => hm x (by simp [hx])) (by simp; omega)
    rw [List.map_cons]
    simp only [lcT, tYs]
    rw [if_pos hj, hm y (by simp)]
    simp only [line_eq]
    rw [if_pos (by omega), ih, List.append_assoc]
    rfl
abbrev WW : Int := 10 ^ 12 + 200
theorem tab_ok (far : Int) (f0 : 0 ≤ far) (f1 : far ≤ 10 ^ 12) (A0 A2 A3 x4 A5 A6 A7 A8 A9 A10 A13 A14 A15 A16 A17 A18 : Sv) (z : Zs) :
    ∃ kvs y4 z', SV WW kvs ∧ sTurns (gN 4) b_law_2 (rngI 0 3) [A0, .s, A2, A3, x4, A5, A6, A7, A8, A9, A10, .o (.im (.int far)), .o (.dk []), A13, A14, A15, A16, A17, A18] z = .nx [A0, .s, A2, A3, y4, A5, A6, A7, A8, A9, A10, .o (.im (.int far)), .o (.dk kvs), A13, A14, A15, A16, A17, A18] z' := by
  obtain ⟨S', z', e, kvs, y4, eS, sv, lk⟩ := turns_ind (g := gN 4) (body := b_law_2) (fun i S _ => ∃ (kvs : List (Key × T)) (y4 : Sv), S = [A0, .s, A2, A3, y4, A5, A6, A7, A8, A9, A10, .o (.im (.int far)), .o (.dk kvs), A13, A14, A15, A16, A17, A18] ∧ SV WW kvs ∧ kvs.length ≤ i)
    (ts := rngI 0 3) (n := 0) (S := [A0, .s, A2, A3, x4, A5, A6, A7, A8, A9, A10, .o (.im (.int far)), .o (.dk []), A13, A14, A15, A16, A17, A18]) (z := z)
    (fun i t S z e ⟨kvs, y4, eS, sv, lk⟩ => by
      subst eS
      obtain ⟨hi, rfl⟩ := rngI_get e
      obtain ⟨v, z1, e1, v0, v1⟩ := draw_sm z 7 (by decide) (by decide)
      have hm : cMul 7 (i : Int) = true := cMul_sm (by decide) (by decide)
      have e0 : ((0 : Int) + i) = (i : Int) := by omega
      refine ⟨[A0, .s, A2, A3, .o (.im (.int (0 + (i : Int)))), A5, A6, A7, A8, A9, A10, .o (.im (.int far)), .o (.dk kvs), A13, A14, A15, A16, A17, A18], by simp, [A0, .s, A2, A3, .o (.im (.int (i : Int))), A5, A6, A7, A8, A9, A10, .o (.im (.int far)), .o (.dk (putT kvs (.inl (i : Int)) (.tup [V1 (7 * (i : Int) + v + far)]))), A13, A14, A15, A16, A17, A18], z1, .inl ?_, _, _, rfl, fun p hp => ?_, Nat.le_trans len_put (by omega)⟩
      · simp [b_law_2, e1, hm, T.key?, show kvs.length < 16777216 by omega]
      · rcases mem_put hp with q | q
        · exact sv p q
        · exact ⟨i, _, q, by omega, by show _ < (10 : Int) ^ 12 + 200; omega⟩)
    ⟨[], x4, rfl, ⟨fun p hp => (by cases hp), by simp⟩⟩
  subst eS
  exact ⟨kvs, y4, z', sv, e⟩
theorem Dr.mono {w w' : Int} (h : w ≤ w') {q c : List T} {G : List (List T)} {p : Int} (d : Dr w q c G p) : Dr w' q c G p := by
  obtain ⟨hw, hq, hG, lG, p0, p1, h', gs, cl, r⟩ := d
  exact ⟨by omega, hq.mono h, fun x hx => (hG x hx).mono h, lG, p0, p1, h', gs, cl.mono h, r⟩
set_option maxHeartbeats 4000000 in
theorem law12_ok {q c : List T} {G : List (List T)} {p : Int} (d : Dr 3 q c G p) (x0 x2 x4 x8 x9 x10 : Sv) (z : Zs) :
    ∃ z', r_law_12 [x0, .s, x2, .o (.im (.tup q)), x4, .o (.il (G.map .tup)), .o (.im (.tup c)), .o (.im (.int p)), x8, x9, x10, .un, .un, .un, .un, .un, .un, .un, .un] z = .rt (.im (.bl true)) z' := by
  obtain ⟨a, z1, e1, a0, a1⟩ := draw_sm z 2 (by decide) (by decide)
  have dW : Dr WW q c G p := d.mono (by decide)
  by_cases ca : a = 0
  · obtain ⟨i, z2, e2, i0, i1⟩ := draw_sm z1 3 (by decide) (by decide)
    have e12 : ((10 : Int) ^ 12) = 1000000000000 := by decide
    obtain ⟨f, ef, far, rfl, f0, f1⟩ := pick_ok (ts := [.int 1, .int (10 ^ 12), .int 3]) (fun t => ∃ n : Int, t = .int n ∧ 0 ≤ n ∧ n ≤ 10 ^ 12) i0 i1 (by
      intro t ht
      simp only [List.mem_cons, List.not_mem_nil, or_false] at ht
      rcases ht with rfl | rfl | rfl <;> exact ⟨_, rfl, by decide, by decide⟩)
    rw [e12] at ef
    obtain ⟨kvs, y4, z3, sv, e3⟩ := tab_ok far f0 f1 x0 x2 (.o (.im (.tup q))) x4 (.o (.il (G.map .tup))) (.o (.im (.tup c))) (.o (.im (.int p))) x8 x9 x10 .un .un .un .un .un .un z2
    have eq := sv.put d.hq.1.nodes (by have := d.hq.2; omega)
    have eG := lcT_tups (j := 18) (m := e_law_3) (S0 := wipS 18 [x0, .s, x2, .o (.im (.tup (q.map (gk kvs)))), y4, .o (.il (G.map .tup)), .o (.im (.tup c)), .o (.im (.int p)), x8, x9, x10, .o (.im (.int far)), .o (.dk kvs), .un, .un, .un, .un, .un, .un]) (by simp [wipS]) (List.map (gk kvs)) z3 (Y := G) (acc := []) (fun y hy => by
      have := sv.put (d.hG y hy).1.nodes (by have := (d.hG y hy).2; omega)
      simp [wipS, e_law_3, this]) (by have := d.lG; simp; omega)
    rw [List.nil_append] at eG
    have rn := sv.ren (w0 := 3) (by decide)
    have dR : Dr WW (q.map (gk kvs)) c (G.map (List.map (gk kvs))) p := ⟨dW.hw, ⟨rn.term d.hq.1, by rw [List.length_map]; exact d.hq.2⟩, fun x hx => by
      obtain ⟨y, hy, rfl⟩ := List.mem_map.mp hx
      exact ⟨rn.term (d.hG y hy).1, by rw [List.length_map]; exact (d.hG y hy).2⟩, by simpa using d.lG, d.p0, by simpa using d.p1, dW.cl⟩
    obtain ⟨z4, e4⟩ := law11_ok dR (by decide) x0 x2 y4 x8 x9 x10 (.o (.im (.int far))) (.o (.dk kvs)) .un .un .un .un .un .un z3
    refine ⟨z4, ?_⟩
    have i3 := MM.inR_of (i := 3) (by decide) (by decide)
    have c12 : cPow 10 12 = true := by decide
    generalize G.map T.tup = G' at *
    generalize (G.map (List.map (gk kvs))).map T.tup = G2 at *
    generalize q.map (gk kvs) = q' at *
    simp [e1, ca, e2, c12, ef, i3, e3, eq, eG, -r_law_11, -sTurns]
    exact e4
  · obtain ⟨z4, e4⟩ := law11_ok dW (by decide) x0 x2 x4 x8 x9 x10 .un .un .un .un .un .un .un .un z1
    exact ⟨z4, by simp [e1, ca, -r_law_11]; exact e4⟩
end Law

namespace Law
open PySem PySem.Spec PyProof.Rows L2 MM
theorem dr_of {q c : List T} {G : List (List T)} {p : Int} (hq : Term (3 : Int) q ∧ q.length ≤ 20) (hG : ∀ x ∈ G, Sm (3 : Int) x) (lG : G.length ≤ 8) (p0 : 0 ≤ p) (p1 : p < G.length) (hc : Dc c) : Dr 3 q c G p := by
  obtain ⟨h, gs, cl, lh, lgs, ng, lc⟩ := hc
  exact ⟨by decide, ⟨hq.1, by omega⟩, hG, lG, p0, p1, h, gs, cl, by omega, fun g hg => by have := lgs g hg; omega, ng, lc⟩
set_option maxHeartbeats 8000000 in
theorem law_ok : lawOk 19 c_law := by
  intro z _ _ _ _
  obtain ⟨P, z1, e1, hP⟩ := program_ok z
  obtain ⟨q, z2, e2, hq⟩ := query_ok hP z1
  obtain ⟨n, z3, e3, n0, n1⟩ := draw_sm z2 3 (by decide) (by decide)
  obtain ⟨us, z4, e4, hl, hu⟩ := lc_all (j := 4) (m := e_law_1) (S0 := wipS 4 [.un, .s, .o (.il (P.map .tup)), .o (.im (.tup q)), .un, .un, .un, .un, .un, .un, .un, .un, .un, .un, .un, .un, .un, .un, .un]) (by simp [wipS]) (fun _ u => ∃ ts, u = T.tup ts ∧ Sm (3 : Int) ts) (ts := rngI 0 (1 + n).toNat) (acc := []) (z := z3) (fun t _ z => by
    obtain ⟨ts, z', e, ht, hl⟩ := query_ok hP z
    exact ⟨.tup ts, z', by simp [wipS, e_law_1, e], ts, rfl, ht, by omega⟩) (by simp [rngI_length]; omega)
  rw [List.nil_append] at e4
  rw [rngI_length] at hl
  obtain ⟨G, rfl, hG⟩ := rows_of (P := Sm (3 : Int)) (fun _ _ h => h) (by rw [rngI_length]; exact hl) hu
  have lG : G.length = (1 + n).toNat := by simpa using hl
  clear hu
  have inr := MM.inR_of (i := 1 + n) (by omega) (by omega)
  have hp0 : 0 < P.length := List.length_pos_iff.mpr hP.1
  have hp1 := hP.2.1
  obtain ⟨i, z5, e5, i0, i1⟩ := draw_sm z4 ((P.map T.tup).length : Int) (by simp; omega) (by simp; omega)
  obtain ⟨ct, ec, c, rfl, hc⟩ := pick_ok (ts := P.map .tup) (fun t => ∃ c, t = T.tup c ∧ Dc c) i0 (by simpa using i1) (fun t ht => by
    obtain ⟨c, hc, rfl⟩ := List.mem_map.mp ht
    exact ⟨c, rfl, hP.2.2 c hc⟩)
  obtain ⟨p, z6, e6, p0, p1⟩ := draw_sm z5 ((G.map T.tup).length : Int) (by simp; omega) (by simp; omega)
  have p1' : p < (G.length : Int) := by simpa using p1
  obtain ⟨a, z7, e7, a0, a1⟩ := draw_sm z6 8 (by decide) (by decide)
  by_cases ca : a = 0
  · obtain ⟨g, z8, e8, hg⟩ := large_ok z7
    obtain ⟨k, rfl⟩ := Int.eq_ofNat_of_zero_le p0
    have hpr : Gl [fs "q" 2, dot, V1 0, V1 0, V1 1] := gl_fs mq (by simpa using ⟨node_dot, v3 (by decide) (by decide), v3 (by decide) (by decide)⟩) rfl (by simp)
    have hd : Dc (rule :: ([fs "q" 2, V1 0, V1 1] ++ conj :: ([fs "q" 2, dot, V1 0, V1 0, V1 1] ++ [fs "q" 2, dot, V1 0, V1 0, V1 1]))) := dc_two (gv mq (by decide) (by decide) (by decide) (by decide)) hpr hpr
    have d := dr_of (G := G.set k g) (p := (k : Int)) hq (fun x hx => by
      rcases List.mem_or_eq_of_mem_set hx with h | h
      · exact hG x h
      · subst h; exact hg) (by simp; omega) (by omega) (by simpa using p1') hd
    obtain ⟨z9, e9⟩ := law12_ok d .un (.o (.il (P.map .tup))) .un (.o (.im (.tup [V1 0]))) (.o (.im (.tup [V1 1]))) (.o (.im (.tup [fs "q" 2, dot, V1 0, V1 0, V1 1]))) z8
    refine ⟨z9, ?_⟩
    have es : (G.set k g).map T.tup = (G.map T.tup).set k (.tup g) := by rw [List.map_set]
    rw [es] at e9
    have kl : k < (G.map T.tup).length := by simp; omega
    have hix : ixN (G.map T.tup).length (k : Int) = some k := by
      unfold ixN
      simp only [List.length_map] at kl ⊢
      simp
      omega
    generalize P.map T.tup = P' at *
    generalize G.map T.tup = G' at *
    simp [c_law, e1, e2, e3, inr, e4, e5, ec, e6, e7, ca, e8, hix, -r_law_12]
    exact e9
  · have d := dr_of hq hG (by omega) p0 p1' hc
    obtain ⟨z9, e9⟩ := law12_ok d .un (.o (.il (P.map .tup))) .un .un .un .un z7
    refine ⟨z9, ?_⟩
    generalize P.map T.tup = P' at *
    generalize G.map T.tup = G' at *
    simp [c_law, e1, e2, e3, inr, e4, e5, ec, e6, e7, ca, -r_law_12]
    exact e9
end Law


namespace Law
open PySem PySem.Spec PyProof.Rows L2 MM
/-! ### the top, by facts -/
def dd1 : He.DefD := ⟨("is_variable", none), "is_variable", "is_variable", defArgs s_is_variable, defBody s_is_variable, defScope s_is_variable, [], []⟩
def dd2 : He.DefD := ⟨("is_symbol", none), "is_symbol", "is_symbol", defArgs s_is_symbol, defBody s_is_symbol, defScope s_is_symbol, [], []⟩
def dd3 : He.DefD := ⟨("end_of", none), "end_of", "end_of", defArgs s_end_of, defBody s_end_of, defScope s_end_of, [], []⟩
def dd4 : He.DefD := ⟨("parts", none), "parts", "parts", defArgs s_parts, defBody s_parts, defScope s_parts, [], []⟩
def dd5 : He.DefD := ⟨("list_term", none), "list_term", "list_term", defArgs s_list_term, defBody s_list_term, defScope s_list_term, [], [("tail", .non)]⟩
def dd6 : He.DefD := ⟨("list_items", none), "list_items", "list_items", defArgs s_list_items, defBody s_list_items, defScope s_list_items, [], []⟩
def dd7 : He.DefD := ⟨("variables", none), "variables", "variables", defArgs s_variables, defBody s_variables, defScope s_variables, [], []⟩
def dd8 : He.DefD := ⟨("renumber", none), "renumber", "renumber", defArgs s_renumber, defBody s_renumber, defScope s_renumber, [.int (0)], []⟩
def dd9 : He.DefD := ⟨("is_control", none), "is_control", "is_control", defArgs s_is_control, defBody s_is_control, defScope s_is_control, [], []⟩
def dd10 : He.DefD := ⟨("is_built_in", none), "is_built_in", "is_built_in", defArgs s_is_built_in, defBody s_is_built_in, defScope s_is_built_in, [], []⟩
def dd11 : He.DefD := ⟨("apply", none), "apply", "apply", defArgs s_apply, defBody s_apply, defScope s_apply, [], []⟩
def dd12 : He.DefD := ⟨("binding", none), "binding", "binding", defArgs s_binding, defBody s_binding, defScope s_binding, [], []⟩
def dd13 : He.DefD := ⟨("unify", none), "unify", "unify", defArgs s_unify, defBody s_unify, defScope s_unify, [], []⟩
def dd14 : He.DefD := ⟨("is_goal", none), "is_goal", "is_goal", defArgs s_is_goal, defBody s_is_goal, defScope s_is_goal, [], []⟩
def dd15 : He.DefD := ⟨("conjuncts", none), "conjuncts", "conjuncts", defArgs s_conjuncts, defBody s_conjuncts, defScope s_conjuncts, [], []⟩
def dd16 : He.DefD := ⟨("head_and_goals", none), "head_and_goals", "head_and_goals", defArgs s_head_and_goals, defBody s_head_and_goals, defScope s_head_and_goals, [], []⟩
def dd17 : He.DefD := ⟨("numbered", none), "numbered", "numbered", defArgs s_numbered, defBody s_numbered, defScope s_numbered, [], []⟩
def dd18 : He.DefD := ⟨("next_number", none), "next_number", "next_number", defArgs s_next_number, defBody s_next_number, defScope s_next_number, [], []⟩
def dd19 : He.DefD := ⟨("small", none), "small", "small", defArgs s_small, defBody s_small, defScope s_small, [], []⟩
def dd20 : He.DefD := ⟨("replaced", none), "replaced", "replaced", defArgs s_replaced, defBody s_replaced, defScope s_replaced, [], []⟩
def dd21 : He.DefD := ⟨("unified", none), "unified", "unified", defArgs s_unified, defBody s_unified, defScope s_unified, [], []⟩
def dd22 : He.DefD := ⟨("resolve_row", none), "resolve_row", "resolve_row", defArgs s_resolve_row, defBody s_resolve_row, defScope s_resolve_row, [], []⟩
def dd23 : He.DefD := ⟨("resolve", none), "resolve", "resolve", defArgs s_resolve, defBody s_resolve, defScope s_resolve, [], []⟩
def dd24 : He.DefD := ⟨("pair_of", none), "pair_of", "pair_of", defArgs s_pair_of, defBody s_pair_of, defScope s_pair_of, [], []⟩
def dd25 : He.DefD := ⟨("_law_stream", none), "_law_stream", "_law_stream", defArgs s__law_stream, defBody s__law_stream, defScope s__law_stream, [], []⟩
def dd26 : He.DefD := ⟨("_law_draw", none), "_law_draw", "_law_draw", defArgs s__law_draw, defBody s__law_draw, defScope s__law_draw, [], []⟩
def dd27 : He.DefD := ⟨("_law_is_variable", none), "_law_is_variable", "_law_is_variable", defArgs s__law_is_variable, defBody s__law_is_variable, defScope s__law_is_variable, [], []⟩
def dd28 : He.DefD := ⟨("_law_end", none), "_law_end", "_law_end", defArgs s__law_end, defBody s__law_end, defScope s__law_end, [], []⟩
def dd29 : He.DefD := ⟨("_law_parts", none), "_law_parts", "_law_parts", defArgs s__law_parts, defBody s__law_parts, defScope s__law_parts, [], []⟩
def dd30 : He.DefD := ⟨("_law_put", none), "_law_put", "_law_put", defArgs s__law_put, defBody s__law_put, defScope s__law_put, [], []⟩
def dd31 : He.DefD := ⟨("_law_numbered", none), "_law_numbered", "_law_numbered", defArgs s__law_numbered, defBody s__law_numbered, defScope s__law_numbered, [], []⟩
def dd32 : He.DefD := ⟨("_law_fresh", none), "_law_fresh", "_law_fresh", defArgs s__law_fresh, defBody s__law_fresh, defScope s__law_fresh, [], []⟩
def dd33 : He.DefD := ⟨("_law_bound", none), "_law_bound", "_law_bound", defArgs s__law_bound, defBody s__law_bound, defScope s__law_bound, [], []⟩
def dd34 : He.DefD := ⟨("_law_unify", none), "_law_unify", "_law_unify", defArgs s__law_unify, defBody s__law_unify, defScope s__law_unify, [], []⟩
def dd35 : He.DefD := ⟨("_law_conjuncts", none), "_law_conjuncts", "_law_conjuncts", defArgs s__law_conjuncts, defBody s__law_conjuncts, defScope s__law_conjuncts, [], []⟩
def dd36 : He.DefD := ⟨("_law_row", none), "_law_row", "_law_row", defArgs s__law_row, defBody s__law_row, defScope s__law_row, [], []⟩
def dd37 : He.DefD := ⟨("_law_resolve", none), "_law_resolve", "_law_resolve", defArgs s__law_resolve, defBody s__law_resolve, defScope s__law_resolve, [], []⟩
def dd38 : He.DefD := ⟨("_law_leaf", none), "_law_leaf", "_law_leaf", defArgs s__law_leaf, defBody s__law_leaf, defScope s__law_leaf, [], []⟩
def dd39 : He.DefD := ⟨("_law_argument", none), "_law_argument", "_law_argument", defArgs s__law_argument, defBody s__law_argument, defScope s__law_argument, [], []⟩
def dd40 : He.DefD := ⟨("_law_atom_of", none), "_law_atom_of", "_law_atom_of", defArgs s__law_atom_of, defBody s__law_atom_of, defScope s__law_atom_of, [], []⟩
def dd41 : He.DefD := ⟨("_law_joined", none), "_law_joined", "_law_joined", defArgs s__law_joined, defBody s__law_joined, defScope s__law_joined, [], []⟩
def dd42 : He.DefD := ⟨("_law_clause", none), "_law_clause", "_law_clause", defArgs s__law_clause, defBody s__law_clause, defScope s__law_clause, [], []⟩
def dd43 : He.DefD := ⟨("_law_atom", none), "_law_atom", "_law_atom", defArgs s__law_atom, defBody s__law_atom, defScope s__law_atom, [], []⟩
def dd44 : He.DefD := ⟨("_law_known", none), "_law_known", "_law_known", defArgs s__law_known, defBody s__law_known, defScope s__law_known, [], []⟩
def dd45 : He.DefD := ⟨("_law_program", none), "_law_program", "_law_program", defArgs s__law_program, defBody s__law_program, defScope s__law_program, [], []⟩
def dd46 : He.DefD := ⟨("_law_query", none), "_law_query", "_law_query", defArgs s__law_query, defBody s__law_query, defScope s__law_query, [], []⟩
def dd47 : He.DefD := ⟨("_law_large", none), "_law_large", "_law_large", defArgs s__law_large, defBody s__law_large, defScope s__law_large, [], []⟩
def dd48 : He.DefD := ⟨("law", none), "law", "law", defArgs s_law, defBody s_law, defScope s_law, [], []⟩
def fns : List He.DefD := [dd1, dd2, dd3, dd4, dd5, dd6, dd7, dd8, dd9, dd10, dd11, dd12, dd13, dd14, dd15, dd16, dd17, dd18, dd19, dd20, dd21, dd22, dd23, dd24, dd25, dd26, dd27, dd28, dd29, dd30, dd31, dd32, dd33, dd34, dd35, dd36, dd37, dd38, dd39, dd40, dd41, dd42, dd43, dd44, dd45, dd46, dd47, dd48]
def fas : List He.Fa := [.glo "is_variable", .glo "is_symbol", .glo "end_of", .glo "parts", .glo "list_term", .glo "list_items", .glo "variables", .glo "renumber", .glo "is_control", .glo "is_built_in", .glo "apply", .glo "binding", .glo "unify", .glo "is_goal", .glo "conjuncts", .glo "head_and_goals", .glo "numbered", .glo "next_number", .glo "small", .glo "replaced", .glo "unified", .glo "resolve_row", .glo "resolve", .glo "pair_of", .glo "_law_stream", .glo "_law_draw", .glo "_law_is_variable", .glo "_law_end", .glo "_law_parts", .glo "_law_put", .glo "_law_numbered", .glo "_law_fresh", .glo "_law_bound", .glo "_law_unify", .glo "_law_conjuncts", .glo "_law_row", .glo "_law_resolve", .glo "_law_leaf", .glo "_law_argument", .glo "_law_atom_of", .glo "_law_joined", .glo "_law_clause", .glo "_law_atom", .glo "_law_known", .glo "_law_program", .glo "_law_query", .glo "_law_large", .glo "law", .free "abs", .free "int", .free "isinstance", .free "len", .free "list", .free "max", .free "min", .free "range", .free "tuple", .int "MOST_NODES" (200), .glo "HornbookError", .exc "HornbookError", .glo "TooLarge", .exc "TooLarge", .glo "NotDefinite", .exc "NotDefinite", .exm "HornbookError" "TooLarge" false, .exm "TooLarge" "TooLarge" true, .exm "NotDefinite" "TooLarge" false]
def xfs : List (PySem.W.Frag → Bool) := [fun K => constB K "BUILT_IN" k_BUILT_IN, fun K => constB K "CONTROL" k_CONTROL, fun K => constB K "TRUE" k_TRUE]
abbrev RR : PySem.W.OpenRow := PySem.W.OpenLaw.row PySem.Challenge.rw_hornbook_k37_resolve
abbrev hkk : PySem.W.Hook := hookX 4 fas fns xfs
def seenOf (s : PySem.W.SharedT) : AlX := obsXG 4 fas fns xfs (HandSHeadRun.getT s)
theorem seenOf_eq (s : PySem.W.SharedT) : seenOf s = hkk.obs s.abs := obsXG_eq (HandSHeadRun.getT_eq s)
theorem run_top (w : World) : HandSHeadRun.RunEq RR (PySem.W.view RR.prog [60]) hkk seenOf 8000 (("is_variable" : Str) :: ("is_symbol" : Str) :: ("end_of" : Str) :: ("parts" : Str) :: ("list_term" : Str) :: ("list_items" : Str) :: ("variables" : Str) :: ("renumber" : Str) :: ("is_control" : Str) :: ("is_built_in" : Str) :: ("apply" : Str) :: ("binding" : Str) :: ("unify" : Str) :: ("is_goal" : Str) :: ("conjuncts" : Str) :: ("head_and_goals" : Str) :: ("numbered" : Str) :: ("next_number" : Str) :: ("small" : Str) :: ("replaced" : Str) :: ("unified" : Str) :: ("resolve_row" : Str) :: ("resolve" : Str) :: ("pair_of" : Str) :: ("_law_stream" : Str) :: ("_law_draw" : Str) :: ("_law_is_variable" : Str) :: ("_law_end" : Str) :: ("_law_parts" : Str) :: ("_law_put" : Str) :: ("_law_numbered" : Str) :: ("_law_fresh" : Str) :: ("_law_bound" : Str) :: ("_law_unify" : Str) :: ("_law_conjuncts" : Str) :: ("_law_row" : Str) :: ("_law_resolve" : Str) :: ("_law_leaf" : Str) :: ("_law_argument" : Str) :: ("_law_atom_of" : Str) :: ("_law_joined" : Str) :: ("_law_clause" : Str) :: ("_law_atom" : Str) :: ("_law_known" : Str) :: ("_law_program" : Str) :: ("_law_query" : Str) :: ("_law_large" : Str) :: ("CONTROL" : Str) :: ("BUILT_IN" : Str) :: ("MOST_NODES" : Str) :: ("TRUE" : Str) :: ("HornbookError" : Str) :: ("TooLarge" : Str) :: ("NotDefinite" : Str) :: []) w := by
  intro os
  kernel_rfl
theorem FunD_fun {K : PySem.W.Frag} {x qual : Str} {st : Stmt} {kws : List (Str × V)} {f : Addr} {fd : FuncData} (F : FunD K x qual (defArgs st) (defBody st) (defScope st) [] kws f fd) : Fun K x qual st f fd := by
  obtain ⟨⟨oc, od, dV, kV, doc, pm, an, cdv, ct, osl, e, l, c, hd, _⟩, kp⟩ := F
  rcases hd with ⟨_, rfl⟩ | ⟨z, _⟩
  · exact ⟨⟨oc, od, kV, doc, pm, an, cdv, ct, osl, e, l, c⟩, kp⟩
  · exact absurd rfl z
set_option maxHeartbeats 0 in
theorem all_facts {l : PySem.W.OpenLaw} {w : World} {K : PySem.W.Frag} {h : Heap} {mg : Str → Option Value} {fa : Addr} (X : K.In h) (G : h.Ns mainGlobals mg) (hfa : mg "law" = some (.ref fa)) (cX : SaysX fas fns xfs K) (hl : lawOk 19 c_law)
    : ∃ fd : FuncData, (∀ (s : Shared) (v : Value), BindsTo s fd ⟨[v], []⟩ [("script", v)]) ∧ ∀ base : Heap, K.In base → base.Ns mainGlobals mg → FnOk l.prog w K mg base (L2.CX l.prog w) 8 fa fd ["script"] (spLaw K) := by
  have c := cX.d
  obtain ⟨fd1, F1⟩ := c.def_ 0 (d := dd1) rfl
  have G1 : Fun K "is_variable" "is_variable" s_is_variable (He.fAd K ("is_variable", none)) fd1 := FunD_fun F1
  obtain ⟨fd2, F2⟩ := c.def_ 1 (d := dd2) rfl
  have G2 : Fun K "is_symbol" "is_symbol" s_is_symbol (He.fAd K ("is_symbol", none)) fd2 := FunD_fun F2
  obtain ⟨fd3, F3⟩ := c.def_ 2 (d := dd3) rfl
  have G3 : Fun K "end_of" "end_of" s_end_of (He.fAd K ("end_of", none)) fd3 := FunD_fun F3
  obtain ⟨fd4, F4⟩ := c.def_ 3 (d := dd4) rfl
  have G4 : Fun K "parts" "parts" s_parts (He.fAd K ("parts", none)) fd4 := FunD_fun F4
  obtain ⟨fd5, F5⟩ := c.def_ 4 (d := dd5) rfl
  have G5 : Fun K "list_term" "list_term" s_list_term (He.fAd K ("list_term", none)) fd5 := FunD_fun F5
  obtain ⟨ds5, dv5, bd5⟩ := FunD.binds0 (ps := ["items", "tail"]) F5 1 (by simp [dd5, He.DefD.kws]) rfl fun D doc pm an cdv ct us ks hu hk => match us, hu, ks, hk with | [_], _, [_], _ => ⟨_, _, _, _, _, _, rfl, rfl, rfl⟩
  obtain ⟨mv5, bk5⟩ := FunD.kbinds0 (ps := ["items", "tail"]) F5 1 ["tail"] [] (fun us mv ws => us ++ ws) (by simp [dd5, He.DefD.kws]) (by simp) (fun r1 _ r3 => r1.append r3) fun D doc pm an cdv ct us mv ws hu hm hw => match us, hu, mv, hm, ws, hw with | [_], _, [], _, [_], _ => rfl
  obtain ⟨fd6, F6⟩ := c.def_ 5 (d := dd6) rfl
  have G6 : Fun K "list_items" "list_items" s_list_items (He.fAd K ("list_items", none)) fd6 := FunD_fun F6
  obtain ⟨fd7, F7⟩ := c.def_ 6 (d := dd7) rfl
  have G7 : Fun K "variables" "variables" s_variables (He.fAd K ("variables", none)) fd7 := FunD_fun F7
  obtain ⟨fd8, F8⟩ := c.def_ 7 (d := dd8) rfl
  have G8 : FunD K "renumber" "renumber" (defArgs s_renumber) (defBody s_renumber) (defScope s_renumber) [(V.int (0))] [] (He.fAd K ("renumber", none)) fd8 := F8
  obtain ⟨ds8, dv8, bd8⟩ := FunD.binds1 (ps := ["term", "first"]) G8 1 0 (by simp) rfl fun T kV doc pm an cdv ct us its hu hi => match us, hu, its, hi with | [_], _, [_], _ => ⟨_, rfl, rfl⟩
  obtain ⟨es8, ev8, be8⟩ := FunD.binds1 (ps := ["term", "first"]) G8 2 1 (by simp) rfl fun T kV doc pm an cdv ct us its hu hi => match us, hu, its, hi with | [_, _], _, [_], _ => ⟨_, rfl, rfl⟩
  cases ev8
  obtain ⟨fd9, F9⟩ := c.def_ 8 (d := dd9) rfl
  have G9 : Fun K "is_control" "is_control" s_is_control (He.fAd K ("is_control", none)) fd9 := FunD_fun F9
  obtain ⟨fd10, F10⟩ := c.def_ 9 (d := dd10) rfl
  have G10 : Fun K "is_built_in" "is_built_in" s_is_built_in (He.fAd K ("is_built_in", none)) fd10 := FunD_fun F10
  obtain ⟨fd11, F11⟩ := c.def_ 10 (d := dd11) rfl
  have G11 : Fun K "apply" "apply" s_apply (He.fAd K ("apply", none)) fd11 := FunD_fun F11
  obtain ⟨fd12, F12⟩ := c.def_ 11 (d := dd12) rfl
  have G12 : Fun K "binding" "binding" s_binding (He.fAd K ("binding", none)) fd12 := FunD_fun F12
  obtain ⟨fd13, F13⟩ := c.def_ 12 (d := dd13) rfl
  have G13 : Fun K "unify" "unify" s_unify (He.fAd K ("unify", none)) fd13 := FunD_fun F13
  obtain ⟨fd14, F14⟩ := c.def_ 13 (d := dd14) rfl
  have G14 : Fun K "is_goal" "is_goal" s_is_goal (He.fAd K ("is_goal", none)) fd14 := FunD_fun F14
  obtain ⟨fd15, F15⟩ := c.def_ 14 (d := dd15) rfl
  have G15 : Fun K "conjuncts" "conjuncts" s_conjuncts (He.fAd K ("conjuncts", none)) fd15 := FunD_fun F15
  obtain ⟨fd16, F16⟩ := c.def_ 15 (d := dd16) rfl
  have G16 : Fun K "head_and_goals" "head_and_goals" s_head_and_goals (He.fAd K ("head_and_goals", none)) fd16 := FunD_fun F16
  obtain ⟨fd17, F17⟩ := c.def_ 16 (d := dd17) rfl
  have G17 : Fun K "numbered" "numbered" s_numbered (He.fAd K ("numbered", none)) fd17 := FunD_fun F17
  obtain ⟨fd18, F18⟩ := c.def_ 17 (d := dd18) rfl
  have G18 : Fun K "next_number" "next_number" s_next_number (He.fAd K ("next_number", none)) fd18 := FunD_fun F18
  obtain ⟨fd19, F19⟩ := c.def_ 18 (d := dd19) rfl
  have G19 : Fun K "small" "small" s_small (He.fAd K ("small", none)) fd19 := FunD_fun F19
  obtain ⟨fd20, F20⟩ := c.def_ 19 (d := dd20) rfl
  have G20 : Fun K "replaced" "replaced" s_replaced (He.fAd K ("replaced", none)) fd20 := FunD_fun F20
  obtain ⟨fd21, F21⟩ := c.def_ 20 (d := dd21) rfl
  have G21 : Fun K "unified" "unified" s_unified (He.fAd K ("unified", none)) fd21 := FunD_fun F21
  obtain ⟨fd22, F22⟩ := c.def_ 21 (d := dd22) rfl
  have G22 : Fun K "resolve_row" "resolve_row" s_resolve_row (He.fAd K ("resolve_row", none)) fd22 := FunD_fun F22
  obtain ⟨fd23, F23⟩ := c.def_ 22 (d := dd23) rfl
  have G23 : Fun K "resolve" "resolve" s_resolve (He.fAd K ("resolve", none)) fd23 := FunD_fun F23
  obtain ⟨fd24, F24⟩ := c.def_ 23 (d := dd24) rfl
  have G24 : Fun K "pair_of" "pair_of" s_pair_of (He.fAd K ("pair_of", none)) fd24 := FunD_fun F24
  obtain ⟨fd25, F25⟩ := c.def_ 24 (d := dd25) rfl
  have G25 : Fun K "_law_stream" "_law_stream" s__law_stream (He.fAd K ("_law_stream", none)) fd25 := FunD_fun F25
  obtain ⟨fd26, F26⟩ := c.def_ 25 (d := dd26) rfl
  have G26 : Fun K "_law_draw" "_law_draw" s__law_draw (He.fAd K ("_law_draw", none)) fd26 := FunD_fun F26
  obtain ⟨fd27, F27⟩ := c.def_ 26 (d := dd27) rfl
  have G27 : Fun K "_law_is_variable" "_law_is_variable" s__law_is_variable (He.fAd K ("_law_is_variable", none)) fd27 := FunD_fun F27
  obtain ⟨fd28, F28⟩ := c.def_ 27 (d := dd28) rfl
  have G28 : Fun K "_law_end" "_law_end" s__law_end (He.fAd K ("_law_end", none)) fd28 := FunD_fun F28
  obtain ⟨fd29, F29⟩ := c.def_ 28 (d := dd29) rfl
  have G29 : Fun K "_law_parts" "_law_parts" s__law_parts (He.fAd K ("_law_parts", none)) fd29 := FunD_fun F29
  obtain ⟨fd30, F30⟩ := c.def_ 29 (d := dd30) rfl
  have G30 : Fun K "_law_put" "_law_put" s__law_put (He.fAd K ("_law_put", none)) fd30 := FunD_fun F30
  obtain ⟨fd31, F31⟩ := c.def_ 30 (d := dd31) rfl
  have G31 : Fun K "_law_numbered" "_law_numbered" s__law_numbered (He.fAd K ("_law_numbered", none)) fd31 := FunD_fun F31
  obtain ⟨fd32, F32⟩ := c.def_ 31 (d := dd32) rfl
  have G32 : Fun K "_law_fresh" "_law_fresh" s__law_fresh (He.fAd K ("_law_fresh", none)) fd32 := FunD_fun F32
  obtain ⟨fd33, F33⟩ := c.def_ 32 (d := dd33) rfl
  have G33 : Fun K "_law_bound" "_law_bound" s__law_bound (He.fAd K ("_law_bound", none)) fd33 := FunD_fun F33
  obtain ⟨fd34, F34⟩ := c.def_ 33 (d := dd34) rfl
  have G34 : Fun K "_law_unify" "_law_unify" s__law_unify (He.fAd K ("_law_unify", none)) fd34 := FunD_fun F34
  obtain ⟨fd35, F35⟩ := c.def_ 34 (d := dd35) rfl
  have G35 : Fun K "_law_conjuncts" "_law_conjuncts" s__law_conjuncts (He.fAd K ("_law_conjuncts", none)) fd35 := FunD_fun F35
  obtain ⟨fd36, F36⟩ := c.def_ 35 (d := dd36) rfl
  have G36 : Fun K "_law_row" "_law_row" s__law_row (He.fAd K ("_law_row", none)) fd36 := FunD_fun F36
  obtain ⟨fd37, F37⟩ := c.def_ 36 (d := dd37) rfl
  have G37 : Fun K "_law_resolve" "_law_resolve" s__law_resolve (He.fAd K ("_law_resolve", none)) fd37 := FunD_fun F37
  obtain ⟨fd38, F38⟩ := c.def_ 37 (d := dd38) rfl
  have G38 : Fun K "_law_leaf" "_law_leaf" s__law_leaf (He.fAd K ("_law_leaf", none)) fd38 := FunD_fun F38
  obtain ⟨fd39, F39⟩ := c.def_ 38 (d := dd39) rfl
  have G39 : Fun K "_law_argument" "_law_argument" s__law_argument (He.fAd K ("_law_argument", none)) fd39 := FunD_fun F39
  obtain ⟨fd40, F40⟩ := c.def_ 39 (d := dd40) rfl
  have G40 : Fun K "_law_atom_of" "_law_atom_of" s__law_atom_of (He.fAd K ("_law_atom_of", none)) fd40 := FunD_fun F40
  obtain ⟨fd41, F41⟩ := c.def_ 40 (d := dd41) rfl
  have G41 : Fun K "_law_joined" "_law_joined" s__law_joined (He.fAd K ("_law_joined", none)) fd41 := FunD_fun F41
  obtain ⟨fd42, F42⟩ := c.def_ 41 (d := dd42) rfl
  have G42 : Fun K "_law_clause" "_law_clause" s__law_clause (He.fAd K ("_law_clause", none)) fd42 := FunD_fun F42
  obtain ⟨fd43, F43⟩ := c.def_ 42 (d := dd43) rfl
  have G43 : Fun K "_law_atom" "_law_atom" s__law_atom (He.fAd K ("_law_atom", none)) fd43 := FunD_fun F43
  obtain ⟨fd44, F44⟩ := c.def_ 43 (d := dd44) rfl
  have G44 : Fun K "_law_known" "_law_known" s__law_known (He.fAd K ("_law_known", none)) fd44 := FunD_fun F44
  obtain ⟨fd45, F45⟩ := c.def_ 44 (d := dd45) rfl
  have G45 : Fun K "_law_program" "_law_program" s__law_program (He.fAd K ("_law_program", none)) fd45 := FunD_fun F45
  obtain ⟨fd46, F46⟩ := c.def_ 45 (d := dd46) rfl
  have G46 : Fun K "_law_query" "_law_query" s__law_query (He.fAd K ("_law_query", none)) fd46 := FunD_fun F46
  obtain ⟨fd47, F47⟩ := c.def_ 46 (d := dd47) rfl
  have G47 : Fun K "_law_large" "_law_large" s__law_large (He.fAd K ("_law_large", none)) fd47 := FunD_fun F47
  obtain ⟨fd48, F48⟩ := c.def_ 47 (d := dd48) rfl
  have G48 : Fun K "law" "law" s_law (He.fAd K ("law", none)) fd48 := FunD_fun F48
  obtain ⟨cu_BUILT_IN, cv_BUILT_IN, cg_BUILT_IN, cr_BUILT_IN, ct_BUILT_IN⟩ := constB_ok X G (cX.x 0 (f := fun K => constB K "BUILT_IN" k_BUILT_IN) rfl)
  obtain ⟨cu_CONTROL, cv_CONTROL, cg_CONTROL, cr_CONTROL, ct_CONTROL⟩ := constB_ok X G (cX.x 1 (f := fun K => constB K "CONTROL" k_CONTROL) rfl)
  obtain ⟨cu_TRUE, cv_TRUE, cg_TRUE, cr_TRUE, ct_TRUE⟩ := constB_ok X G (cX.x 2 (f := fun K => constB K "TRUE" k_TRUE) rfl)
  have gx_HornbookError := He.glo_ok X G (c.fact 58 (f := .glo "HornbookError") rfl)
  have gx_TooLarge := He.glo_ok X G (c.fact 60 (f := .glo "TooLarge") rfl)
  have gx_NotDefinite := He.glo_ok X G (c.fact 62 (f := .glo "NotDefinite") rfl)
  obtain ⟨t_MOST_NODES, e_MOST_NODES⟩ := He.int_ok X G (c.fact 57 (f := .int "MOST_NODES" (200)) rfl)
  let T : Tx K mg := {
    a_is_variable := He.fAd K ("is_variable", none), d_is_variable := fd1, F_is_variable := G1, b_is_variable := G1.binds (ps := ["node"]) fun _ _ _ _ _ _ us hl => match us, hl with | [_], _ => rfl, m_is_variable := He.glo_ok X G (c.fact 0 (f := .glo "is_variable") rfl),
    a_is_symbol := He.fAd K ("is_symbol", none), d_is_symbol := fd2, F_is_symbol := G2, b_is_symbol := G2.binds (ps := ["node"]) fun _ _ _ _ _ _ us hl => match us, hl with | [_], _ => rfl, m_is_symbol := He.glo_ok X G (c.fact 1 (f := .glo "is_symbol") rfl),
    a_end_of := He.fAd K ("end_of", none), d_end_of := fd3, F_end_of := G3, b_end_of := G3.binds (ps := ["term", "start"]) fun _ _ _ _ _ _ us hl => match us, hl with | [_, _], _ => rfl, m_end_of := He.glo_ok X G (c.fact 2 (f := .glo "end_of") rfl),
    a_parts := He.fAd K ("parts", none), d_parts := fd4, F_parts := G4, b_parts := G4.binds (ps := ["term"]) fun _ _ _ _ _ _ us hl => match us, hl with | [_], _ => rfl, m_parts := He.glo_ok X G (c.fact 3 (f := .glo "parts") rfl),
    a_list_term := He.fAd K ("list_term", none), d_list_term := fd5, F_list_term := G5, ds_list_term := ds5, dv_list_term := dv5, bd_list_term := bd5, bk_list_term := bk5, m_list_term := He.glo_ok X G (c.fact 4 (f := .glo "list_term") rfl),
    a_list_items := He.fAd K ("list_items", none), d_list_items := fd6, F_list_items := G6, b_list_items := G6.binds (ps := ["term"]) fun _ _ _ _ _ _ us hl => match us, hl with | [_], _ => rfl, m_list_items := He.glo_ok X G (c.fact 5 (f := .glo "list_items") rfl),
    a_variables := He.fAd K ("variables", none), d_variables := fd7, F_variables := G7, b_variables := G7.binds (ps := ["term"]) fun _ _ _ _ _ _ us hl => match us, hl with | [_], _ => rfl, m_variables := He.glo_ok X G (c.fact 6 (f := .glo "variables") rfl),
    a_renumber := He.fAd K ("renumber", none), d_renumber := fd8, F_renumber := G8, ds_renumber := ds8, dv_renumber := dv8, bd_renumber := bd8, b_renumber := be8, m_renumber := He.glo_ok X G (c.fact 7 (f := .glo "renumber") rfl),
    a_is_control := He.fAd K ("is_control", none), d_is_control := fd9, F_is_control := G9, b_is_control := G9.binds (ps := ["name", "arity"]) fun _ _ _ _ _ _ us hl => match us, hl with | [_, _], _ => rfl, m_is_control := He.glo_ok X G (c.fact 8 (f := .glo "is_control") rfl),
    a_is_built_in := He.fAd K ("is_built_in", none), d_is_built_in := fd10, F_is_built_in := G10, b_is_built_in := G10.binds (ps := ["name", "arity"]) fun _ _ _ _ _ _ us hl => match us, hl with | [_, _], _ => rfl, m_is_built_in := He.glo_ok X G (c.fact 9 (f := .glo "is_built_in") rfl),
    a_apply := He.fAd K ("apply", none), d_apply := fd11, F_apply := G11, b_apply := G11.binds (ps := ["substitution", "term"]) fun _ _ _ _ _ _ us hl => match us, hl with | [_, _], _ => rfl, m_apply := He.glo_ok X G (c.fact 10 (f := .glo "apply") rfl),
    a_binding := He.fAd K ("binding", none), d_binding := fd12, F_binding := G12, b_binding := G12.binds (ps := ["left", "right", "at"]) fun _ _ _ _ _ _ us hl => match us, hl with | [_, _, _], _ => rfl, m_binding := He.glo_ok X G (c.fact 11 (f := .glo "binding") rfl),
    a_unify := He.fAd K ("unify", none), d_unify := fd13, F_unify := G13, b_unify := G13.binds (ps := ["left", "right"]) fun _ _ _ _ _ _ us hl => match us, hl with | [_, _], _ => rfl, m_unify := He.glo_ok X G (c.fact 12 (f := .glo "unify") rfl),
    a_is_goal := He.fAd K ("is_goal", none), d_is_goal := fd14, F_is_goal := G14, b_is_goal := G14.binds (ps := ["term"]) fun _ _ _ _ _ _ us hl => match us, hl with | [_], _ => rfl, m_is_goal := He.glo_ok X G (c.fact 13 (f := .glo "is_goal") rfl),
    a_conjuncts := He.fAd K ("conjuncts", none), d_conjuncts := fd15, F_conjuncts := G15, b_conjuncts := G15.binds (ps := ["body"]) fun _ _ _ _ _ _ us hl => match us, hl with | [_], _ => rfl, m_conjuncts := He.glo_ok X G (c.fact 14 (f := .glo "conjuncts") rfl),
    a_head_and_goals := He.fAd K ("head_and_goals", none), d_head_and_goals := fd16, F_head_and_goals := G16, b_head_and_goals := G16.binds (ps := ["clause"]) fun _ _ _ _ _ _ us hl => match us, hl with | [_], _ => rfl, m_head_and_goals := He.glo_ok X G (c.fact 15 (f := .glo "head_and_goals") rfl),
    a_numbered := He.fAd K ("numbered", none), d_numbered := fd17, F_numbered := G17, b_numbered := G17.binds (ps := ["terms", "first"]) fun _ _ _ _ _ _ us hl => match us, hl with | [_, _], _ => rfl, m_numbered := He.glo_ok X G (c.fact 16 (f := .glo "numbered") rfl),
    a_next_number := He.fAd K ("next_number", none), d_next_number := fd18, F_next_number := G18, b_next_number := G18.binds (ps := ["terms"]) fun _ _ _ _ _ _ us hl => match us, hl with | [_], _ => rfl, m_next_number := He.glo_ok X G (c.fact 17 (f := .glo "next_number") rfl),
    a_small := He.fAd K ("small", none), d_small := fd19, F_small := G19, b_small := G19.binds (ps := ["term"]) fun _ _ _ _ _ _ us hl => match us, hl with | [_], _ => rfl, m_small := He.glo_ok X G (c.fact 18 (f := .glo "small") rfl),
    a_replaced := He.fAd K ("replaced", none), d_replaced := fd20, F_replaced := G20, b_replaced := G20.binds (ps := ["unifier", "terms"]) fun _ _ _ _ _ _ us hl => match us, hl with | [_, _], _ => rfl, m_replaced := He.glo_ok X G (c.fact 19 (f := .glo "replaced") rfl),
    a_unified := He.fAd K ("unified", none), d_unified := fd21, F_unified := G21, b_unified := G21.binds (ps := ["terms", "goal", "row"]) fun _ _ _ _ _ _ us hl => match us, hl with | [_, _, _], _ => rfl, m_unified := He.glo_ok X G (c.fact 20 (f := .glo "unified") rfl),
    a_resolve_row := He.fAd K ("resolve_row", none), d_resolve_row := fd22, F_resolve_row := G22, b_resolve_row := G22.binds (ps := ["terms", "goal", "row"]) fun _ _ _ _ _ _ us hl => match us, hl with | [_, _, _], _ => rfl, m_resolve_row := He.glo_ok X G (c.fact 21 (f := .glo "resolve_row") rfl),
    a_resolve := He.fAd K ("resolve", none), d_resolve := fd23, F_resolve := G23, b_resolve := G23.binds (ps := ["query", "goals", "pick", "clause"]) fun _ _ _ _ _ _ us hl => match us, hl with | [_, _, _, _], _ => rfl, m_resolve := He.glo_ok X G (c.fact 22 (f := .glo "resolve") rfl),
    a_pair_of := He.fAd K ("pair_of", none), d_pair_of := fd24, F_pair_of := G24, b_pair_of := G24.binds (ps := ["terms"]) fun _ _ _ _ _ _ us hl => match us, hl with | [_], _ => rfl, m_pair_of := He.glo_ok X G (c.fact 23 (f := .glo "pair_of") rfl),
    a__law_stream := He.fAd K ("_law_stream", none), d__law_stream := fd25, F__law_stream := G25, b__law_stream := G25.binds (ps := ["script"]) fun _ _ _ _ _ _ us hl => match us, hl with | [_], _ => rfl, m__law_stream := He.glo_ok X G (c.fact 24 (f := .glo "_law_stream") rfl),
    a__law_draw := He.fAd K ("_law_draw", none), d__law_draw := fd26, F__law_draw := G26, b__law_draw := G26.binds (ps := ["stream", "many"]) fun _ _ _ _ _ _ us hl => match us, hl with | [_, _], _ => rfl, m__law_draw := He.glo_ok X G (c.fact 25 (f := .glo "_law_draw") rfl),
    a__law_is_variable := He.fAd K ("_law_is_variable", none), d__law_is_variable := fd27, F__law_is_variable := G27, b__law_is_variable := G27.binds (ps := ["node"]) fun _ _ _ _ _ _ us hl => match us, hl with | [_], _ => rfl, m__law_is_variable := He.glo_ok X G (c.fact 26 (f := .glo "_law_is_variable") rfl),
    a__law_end := He.fAd K ("_law_end", none), d__law_end := fd28, F__law_end := G28, b__law_end := G28.binds (ps := ["term", "start"]) fun _ _ _ _ _ _ us hl => match us, hl with | [_, _], _ => rfl, m__law_end := He.glo_ok X G (c.fact 27 (f := .glo "_law_end") rfl),
    a__law_parts := He.fAd K ("_law_parts", none), d__law_parts := fd29, F__law_parts := G29, b__law_parts := G29.binds (ps := ["term"]) fun _ _ _ _ _ _ us hl => match us, hl with | [_], _ => rfl, m__law_parts := He.glo_ok X G (c.fact 28 (f := .glo "_law_parts") rfl),
    a__law_put := He.fAd K ("_law_put", none), d__law_put := fd30, F__law_put := G30, b__law_put := G30.binds (ps := ["table", "term"]) fun _ _ _ _ _ _ us hl => match us, hl with | [_, _], _ => rfl, m__law_put := He.glo_ok X G (c.fact 29 (f := .glo "_law_put") rfl),
    a__law_numbered := He.fAd K ("_law_numbered", none), d__law_numbered := fd31, F__law_numbered := G31, b__law_numbered := G31.binds (ps := ["terms", "first"]) fun _ _ _ _ _ _ us hl => match us, hl with | [_, _], _ => rfl, m__law_numbered := He.glo_ok X G (c.fact 30 (f := .glo "_law_numbered") rfl),
    a__law_fresh := He.fAd K ("_law_fresh", none), d__law_fresh := fd32, F__law_fresh := G32, b__law_fresh := G32.binds (ps := ["terms"]) fun _ _ _ _ _ _ us hl => match us, hl with | [_], _ => rfl, m__law_fresh := He.glo_ok X G (c.fact 31 (f := .glo "_law_fresh") rfl),
    a__law_bound := He.fAd K ("_law_bound", none), d__law_bound := fd33, F__law_bound := G33, b__law_bound := G33.binds (ps := ["left", "right", "at"]) fun _ _ _ _ _ _ us hl => match us, hl with | [_, _, _], _ => rfl, m__law_bound := He.glo_ok X G (c.fact 32 (f := .glo "_law_bound") rfl),
    a__law_unify := He.fAd K ("_law_unify", none), d__law_unify := fd34, F__law_unify := G34, b__law_unify := G34.binds (ps := ["left", "right"]) fun _ _ _ _ _ _ us hl => match us, hl with | [_, _], _ => rfl, m__law_unify := He.glo_ok X G (c.fact 33 (f := .glo "_law_unify") rfl),
    a__law_conjuncts := He.fAd K ("_law_conjuncts", none), d__law_conjuncts := fd35, F__law_conjuncts := G35, b__law_conjuncts := G35.binds (ps := ["body"]) fun _ _ _ _ _ _ us hl => match us, hl with | [_], _ => rfl, m__law_conjuncts := He.glo_ok X G (c.fact 34 (f := .glo "_law_conjuncts") rfl),
    a__law_row := He.fAd K ("_law_row", none), d__law_row := fd36, F__law_row := G36, b__law_row := G36.binds (ps := ["clause"]) fun _ _ _ _ _ _ us hl => match us, hl with | [_], _ => rfl, m__law_row := He.glo_ok X G (c.fact 35 (f := .glo "_law_row") rfl),
    a__law_resolve := He.fAd K ("_law_resolve", none), d__law_resolve := fd37, F__law_resolve := G37, b__law_resolve := G37.binds (ps := ["terms", "goal", "row"]) fun _ _ _ _ _ _ us hl => match us, hl with | [_, _, _], _ => rfl, m__law_resolve := He.glo_ok X G (c.fact 36 (f := .glo "_law_resolve") rfl),
    a__law_leaf := He.fAd K ("_law_leaf", none), d__law_leaf := fd38, F__law_leaf := G38, b__law_leaf := G38.binds (ps := ["stream", "widest"]) fun _ _ _ _ _ _ us hl => match us, hl with | [_, _], _ => rfl, m__law_leaf := He.glo_ok X G (c.fact 37 (f := .glo "_law_leaf") rfl),
    a__law_argument := He.fAd K ("_law_argument", none), d__law_argument := fd39, F__law_argument := G39, b__law_argument := G39.binds (ps := ["stream", "widest"]) fun _ _ _ _ _ _ us hl => match us, hl with | [_, _], _ => rfl, m__law_argument := He.glo_ok X G (c.fact 38 (f := .glo "_law_argument") rfl),
    a__law_atom_of := He.fAd K ("_law_atom_of", none), d__law_atom_of := fd40, F__law_atom_of := G40, b__law_atom_of := G40.binds (ps := ["stream", "widest"]) fun _ _ _ _ _ _ us hl => match us, hl with | [_, _], _ => rfl, m__law_atom_of := He.glo_ok X G (c.fact 39 (f := .glo "_law_atom_of") rfl),
    a__law_joined := He.fAd K ("_law_joined", none), d__law_joined := fd41, F__law_joined := G41, b__law_joined := G41.binds (ps := ["goals"]) fun _ _ _ _ _ _ us hl => match us, hl with | [_], _ => rfl, m__law_joined := He.glo_ok X G (c.fact 40 (f := .glo "_law_joined") rfl),
    a__law_clause := He.fAd K ("_law_clause", none), d__law_clause := fd42, F__law_clause := G42, b__law_clause := G42.binds (ps := ["stream"]) fun _ _ _ _ _ _ us hl => match us, hl with | [_], _ => rfl, m__law_clause := He.glo_ok X G (c.fact 41 (f := .glo "_law_clause") rfl),
    a__law_atom := He.fAd K ("_law_atom", none), d__law_atom := fd43, F__law_atom := G43, b__law_atom := G43.binds (ps := ["stream"]) fun _ _ _ _ _ _ us hl => match us, hl with | [_], _ => rfl, m__law_atom := He.glo_ok X G (c.fact 42 (f := .glo "_law_atom") rfl),
    a__law_known := He.fAd K ("_law_known", none), d__law_known := fd44, F__law_known := G44, b__law_known := G44.binds (ps := ["stream", "which"]) fun _ _ _ _ _ _ us hl => match us, hl with | [_, _], _ => rfl, m__law_known := He.glo_ok X G (c.fact 43 (f := .glo "_law_known") rfl),
    a__law_program := He.fAd K ("_law_program", none), d__law_program := fd45, F__law_program := G45, b__law_program := G45.binds (ps := ["stream"]) fun _ _ _ _ _ _ us hl => match us, hl with | [_], _ => rfl, m__law_program := He.glo_ok X G (c.fact 44 (f := .glo "_law_program") rfl),
    a__law_query := He.fAd K ("_law_query", none), d__law_query := fd46, F__law_query := G46, b__law_query := G46.binds (ps := ["stream", "program"]) fun _ _ _ _ _ _ us hl => match us, hl with | [_, _], _ => rfl, m__law_query := He.glo_ok X G (c.fact 45 (f := .glo "_law_query") rfl),
    a__law_large := He.fAd K ("_law_large", none), d__law_large := fd47, F__law_large := G47, b__law_large := G47.binds (ps := ["stream"]) fun _ _ _ _ _ _ us hl => match us, hl with | [_], _ => rfl, m__law_large := He.glo_ok X G (c.fact 46 (f := .glo "_law_large") rfl),
    a_law := He.fAd K ("law", none), d_law := fd48, F_law := G48, b_law := G48.binds (ps := ["script"]) fun _ _ _ _ _ _ us hl => match us, hl with | [_], _ => rfl, m_law := He.glo_ok X G (c.fact 47 (f := .glo "law") rfl),
    n_abs := He.free_ok X G (c.fact 48 (f := .free "abs") rfl),
    n_int := He.free_ok X G (c.fact 49 (f := .free "int") rfl),
    n_isinstance := He.free_ok X G (c.fact 50 (f := .free "isinstance") rfl),
    n_len := He.free_ok X G (c.fact 51 (f := .free "len") rfl),
    n_list := He.free_ok X G (c.fact 52 (f := .free "list") rfl),
    n_max := He.free_ok X G (c.fact 53 (f := .free "max") rfl),
    n_min := He.free_ok X G (c.fact 54 (f := .free "min") rfl),
    n_range := He.free_ok X G (c.fact 55 (f := .free "range") rfl),
    n_tuple := He.free_ok X G (c.fact 56 (f := .free "tuple") rfl),
    u_BUILT_IN := cu_BUILT_IN, w_BUILT_IN := cv_BUILT_IN, g_BUILT_IN := cg_BUILT_IN, v_BUILT_IN := cr_BUILT_IN, r_BUILT_IN := ct_BUILT_IN,
    u_CONTROL := cu_CONTROL, w_CONTROL := cv_CONTROL, g_CONTROL := cg_CONTROL, v_CONTROL := cr_CONTROL, r_CONTROL := ct_CONTROL,
    u_TRUE := cu_TRUE, w_TRUE := cv_TRUE, g_TRUE := cg_TRUE, v_TRUE := cr_TRUE, r_TRUE := ct_TRUE,
    ea_HornbookError := _, gx_HornbookError := gx_HornbookError, x_HornbookError := ⟨_, gx_HornbookError, He.exc_ok (c.fact 59 (f := .exc "HornbookError") rfl)⟩,
    ea_TooLarge := _, gx_TooLarge := gx_TooLarge, x_TooLarge := ⟨_, gx_TooLarge, He.exc_ok (c.fact 61 (f := .exc "TooLarge") rfl)⟩,
    ea_NotDefinite := _, gx_NotDefinite := gx_NotDefinite, x_NotDefinite := ⟨_, gx_NotDefinite, He.exc_ok (c.fact 63 (f := .exc "NotDefinite") rfl)⟩,
    cx_HornbookError_TooLarge := He.exm_ok (c.fact 64 (f := .exm "HornbookError" "TooLarge" false) rfl),
    cx_TooLarge_TooLarge := He.exm_ok (c.fact 65 (f := .exm "TooLarge" "TooLarge" true) rfl),
    cx_NotDefinite_TooLarge := He.exm_ok (c.fact 66 (f := .exm "NotDefinite" "TooLarge" false) rfl),
    u_MOST_NODES := _, g_MOST_NODES := e_MOST_NODES, v_MOST_NODES := ⟨_, rfl⟩ }
  have e := hfa.symm.trans T.m_law
  cases e
  have b := FunD.bindsA (ps := ["script"]) F48 fun _ _ _ _ _ _ us hl => match us, hl with | [_], _ => rfl
  exact ⟨fd48, fun s v => b s [v] rfl, fun base _ _ => ok_law (P := l.prog) (w := w) (base := base) T hl⟩
theorem walk_facts {l : PySem.W.OpenLaw} {q : Program} {loose : List Str} {XP : (Str → Option Value) → Heap → Prop} {YP : World → Heap → Prop} {d : DefRec} (hn : l.most = some 63) (hdf : d.params.defaults = [])
    (F : ∀ (w : World) (mg : Str → Option Value) (fa : Addr) (h : Heap), YP w h → h.Ns mainGlobals mg → mg d.name = some (.ref fa) →
      ∃ (K : PySem.W.Frag) (fd : FuncData), K.In h ∧ (∀ (s : Shared) (u : Value), BindsTo s fd ⟨[u], []⟩ [("script", u)]) ∧ ∀ base : Heap, K.In base → base.Ns mainGlobals mg → FnOk l.prog w K mg base (L2.CX l.prog w) 8 fa fd ["script"] (spLaw K)) :
    PySem.W.WalkO q loose XP YP l.row.toRowW d [] (fun f vs => PySem.call f vs) := by
  apply Att.attach_call hn hdf
  intro w b0 b1 mg mb fa o pm cd doc a vs ns G Y ho hd hcd hmg hobj hints hlen hg
  obtain ⟨K, fd, KX, hb, hF⟩ := F w mg fa _ Y G.T.g hmg
  have wish : ∀ H, Only H → SqL K H a (ns.map V.int) → spLaw K [.ref a] H (fun v _ => v = .bl true) fun _ _ _ => False := fun H _ hS => ⟨a, ns, rfl, hS, hlen, fun _ => rfl⟩
  have room : Room 8 callerA := ⟨rfl, by decide, by decide⟩
  exact law_call KX G.T.g G.T.b G.T.builtins G.T.nolimit hg hobj hints (Nat.le_trans hlen (by decide)) room hF hb wish fun H e t x => by
    obtain ⟨_, _, _, _, _, _, _, _, _, _, _, _, z⟩ := x
    exact z
end Law
open PySem PySem.W PySem.Calls PyProof.Rows
set_option maxRecDepth 100000 in
set_option maxHeartbeats 0 in
theorem PySem.Challenge.cw_hornbook_k37_resolve_holds : PySem.Challenge.rw_hornbook_k37_resolve.Holds := by
  w_on; o_law
  refine HandSHeadRun.head_any (r := OpenLaw.row PySem.Challenge.rw_hornbook_k37_resolve) (q := view (OpenLaw.row PySem.Challenge.rw_hornbook_k37_resolve).prog [60])
    (H := Law.hkk) (ob := Law.seenOf) (M := 8000) (loose := (("is_variable" : Str) :: ("is_symbol" : Str) :: ("end_of" : Str) :: ("parts" : Str) :: ("list_term" : Str) :: ("list_items" : Str) :: ("variables" : Str) :: ("renumber" : Str) :: ("is_control" : Str) :: ("is_built_in" : Str) :: ("apply" : Str) :: ("binding" : Str) :: ("unify" : Str) :: ("is_goal" : Str) :: ("conjuncts" : Str) :: ("head_and_goals" : Str) :: ("numbered" : Str) :: ("next_number" : Str) :: ("small" : Str) :: ("replaced" : Str) :: ("unified" : Str) :: ("resolve_row" : Str) :: ("resolve" : Str) :: ("pair_of" : Str) :: ("_law_stream" : Str) :: ("_law_draw" : Str) :: ("_law_is_variable" : Str) :: ("_law_end" : Str) :: ("_law_parts" : Str) :: ("_law_put" : Str) :: ("_law_numbered" : Str) :: ("_law_fresh" : Str) :: ("_law_bound" : Str) :: ("_law_unify" : Str) :: ("_law_conjuncts" : Str) :: ("_law_row" : Str) :: ("_law_resolve" : Str) :: ("_law_leaf" : Str) :: ("_law_argument" : Str) :: ("_law_atom_of" : Str) :: ("_law_joined" : Str) :: ("_law_clause" : Str) :: ("_law_atom" : Str) :: ("_law_known" : Str) :: ("_law_program" : Str) :: ("_law_query" : Str) :: ("_law_large" : Str) :: ("CONTROL" : Str) :: ("BUILT_IN" : Str) :: ("MOST_NODES" : Str) :: ("TRUE" : Str) :: ("HornbookError" : Str) :: ("TooLarge" : Str) :: ("NotDefinite" : Str) :: []))
    (d := HandSHeadRun.topDef (OpenLaw.row PySem.Challenge.rw_hornbook_k37_resolve).prog 60) (kwd := []) Law.seenOf_eq
    (by kernel_rfl) (fun s => by kernel_rfl) Law.run_top (by kernel_rfl) (by kernel_rfl) (by kernel_rfl) (by rfl)
    (by first | assumption | decide +kernel) (by decide +kernel) ⟨rfl, rfl, rfl, rfl, rfl, by decide +kernel⟩ ?hw ?hc
  case hw => w_witness2
  case hc =>
    refine Law.walk_facts (l := PySem.Challenge.rw_hornbook_k37_resolve) rfl (by kernel_rfl) ?F
    intro w mg fa h Y G hm0
    obtain ⟨K, KX, c⟩ := Y
    have hm : mg ("law" : PySem.Str) = some (.ref fa) := by
      have e : (HandSHeadRun.topDef (OpenLaw.row PySem.Challenge.rw_hornbook_k37_resolve).prog 60).name = ("law" : PySem.Str) := by kernel_rfl
      exact e ▸ hm0
    obtain ⟨fd, hb, hF⟩ := Law.all_facts (l := PySem.Challenge.rw_hornbook_k37_resolve) (w := w) KX G hm c Law.law_ok
    exact ⟨K, fd, KX, hb, hF⟩
#print axioms PySem.Challenge.cw_hornbook_k37_resolve_holds

