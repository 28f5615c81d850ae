import PyProof.Rows.All
import Wide.All
import OpenK.AllK
import Wide.FinOn
import HandS.ForMost
import HandS.ForExc
import HandS.Deep
import HandS.IsInst
import HandS.Wide
import HandS.SortInts
import HandS.More
import HandS.Walk
import HandS.TupAny
import HandS.Text
import HandS.Zip
import HandS.Defaults
import HandS.MakeKwOnly
import HandS.HeadHook2
import HandS.CallSlots
import KE.KStateDown
import HandS.Head0
import HandS.Head1
import HandS.Head2
import HandS.HeadEnd
import PyProof.P3In
import KE.LtData
import HandS.TupMul
import HandS.TupLe
import HandS.StrMore
import HandS.ExcIs
import HandS.TryOnly
import HandS.DictComp
import HandS.DeepEq
import KE.KEqNest
import HandS.SetKeys
import HandS.Style
import HandS.Conv
import HandS.Flt
import KE.GoesRaise
import HandS.Star
import PySem.Challenge.RW_hornbook_k92_whole_slide_keeps_terms
set_option Elab.async false
set_option linter.all false
set_option maxRecDepth 100000
/-! MA: values that never change (T), values of a def's frame (Val), what stands for them in the heap; a def's body as a plain function over them. -/
namespace MM
open PySem PySem.Spec PyProof.Rows L2

/-- a thing that never changes -/
inductive T where
  | non | bl (b : Bool) | int (i : Int) | str (s : Str) | tup (ts : List T) | ls (ts : List T)
/-- a class of the text: its name, the fields of its instances in the order in which they come -/
structure Cl where
  nm : Str
  flds : List Str
deriving DecidableEq
/-- a value: such a thing, a list of them, a dict of them, a tuple or a list that holds any values; an instance, dicts that hold any values; something that nobody looks at -/
inductive Val where
  | im (t : T) | il (ts : List T) | dk (kvs : List (Key × T)) | dt (kvs : List (List Key × T)) | tup (vs : List Val) | lst (vs : List Val)
  | ob (c : Cl) (vs : List Val) | dv (kvs : List (Key × Val)) | dw (kvs : List (List Key × Val)) | any

/-- a text that may be compared, indexed, measured -/
def sOk (x : Str) : Bool := PyData.strOk x && decide (x.length ≤ sizeLine)

mutual
inductive RepT (K : PySem.W.Frag) (H : Hp) : V → T → Prop
  | non : RepT K H .non .non
  | bl (b : Bool) : RepT K H (.bl b) (.bl b)
  | int (i : Int) : RepT K H (.int i) (.int i)
  | str (x : Str) : sOk x = true → RepT K H (.str x) (.str x)
  | tup {a : Addr} {xs : List V} {ts : List T} : SqT K H a xs → RepTs K H xs ts → RepT K H (.ref a) (.tup ts)
  | ls {a : Addr} {o : Obj} {xs : List V} {ts : List T} : H a = some (.frz o (.lst xs)) → RepTs K H xs ts → RepT K H (.ref a) (.ls ts)
inductive RepTs (K : PySem.W.Frag) (H : Hp) : List V → List T → Prop
  | nil : RepTs K H [] []
  | cons {v : V} {vs : List V} {t : T} {ts : List T} : RepT K H v t → RepTs K H vs ts → RepTs K H (v :: vs) (t :: ts)
end

/-- the tuples of H stand in H' -/
def Le (H H' : Hp) : Prop := (∀ a xs, H a = some (.tup xs) → H' a = some (.tup xs)) ∧ (∀ a o xs, H a = some (.frz o (.tup xs)) → H' a = some (.frz o (.tup xs))) ∧ ∀ a o xs, H a = some (.frz o (.lst xs)) → H' a = some (.frz o (.lst xs))
theorem Le.refl (H : Hp) : Le H H := ⟨fun _ _ h => h, fun _ _ _ h => h, fun _ _ _ h => h⟩
theorem Le.trans {H H1 H2 : Hp} (a : Le H H1) (b : Le H1 H2) : Le H H2 := ⟨fun c o h => b.1 c o (a.1 c o h), fun c o u h => b.2.1 c o u (a.2.1 c o u h), fun c o u h => b.2.2 c o u (a.2.2 c o u h)⟩
theorem Le.of_same {H H' : Hp} (h : Same H H') : Le H H' := ⟨fun _ _ e => h _ _ e, fun _ _ _ e => h _ _ e, fun _ _ _ e => h _ _ e⟩
theorem Le.sqt {K : PySem.W.Frag} {H H' : Hp} {a : Addr} {xs : List V} (e : Le H H') (h : SqT K H a xs) : SqT K H' a xs := by
  rcases h with (h | ⟨o, h⟩) | h
  · exact .inl (.inl (e.1 _ _ h))
  · exact .inl (.inr ⟨o, e.2.1 _ _ _ h⟩)
  · exact .inr h
theorem Le.upd {H : Hp} {a : Addr} {o u : HO} (h : H a = some u) (hu : ∀ xs, u ≠ .tup xs) (hf : ∀ ob xs, u ≠ .frz ob (.tup xs)) (hg : ∀ ob xs, u ≠ .frz ob (.lst xs)) : Le H (upd H a o) := by
  refine ⟨fun b xs e => ?_, fun b ob xs e => ?_, fun b ob xs e => ?_⟩
  · rw [upd_ne]; exact e
    rintro rfl; rw [h] at e; exact hu _ (Option.some.inj e)
  · rw [upd_ne]; exact e
    rintro rfl; rw [h] at e; exact hf _ _ (Option.some.inj e)
  · rw [upd_ne]; exact e
    rintro rfl; rw [h] at e; exact hg _ _ (Option.some.inj e)
theorem Le.upd_lst {H : Hp} {a : Addr} {o : HO} {xs : List V} (h : H a = some (.lst xs)) : Le H (L2.upd H a o) := .upd h (fun _ z => nomatch z) (fun _ _ z => nomatch z) fun _ _ z => nomatch z
theorem Le.upd_dK {H : Hp} {a : Addr} {o : HO} {xs} (h : H a = some (.dK xs)) : Le H (L2.upd H a o) := .upd h (fun _ z => nomatch z) (fun _ _ z => nomatch z) fun _ _ z => nomatch z
theorem Le.upd_dT {H : Hp} {a : Addr} {o : HO} {xs} (h : H a = some (.dT xs)) : Le H (L2.upd H a o) := .upd h (fun _ z => nomatch z) (fun _ _ z => nomatch z) fun _ _ z => nomatch z
theorem Same.upd_new {H : Hp} {p : Addr} {o : HO} (h : H p = none) : Same H (L2.upd H p o) := fun b x e => by rw [upd_ne (ne_of_none e h)]; exact e

mutual
theorem RepT.mono {K : PySem.W.Frag} {H H' : Hp} (e : Le H H') : ∀ {t : T} {v : V}, RepT K H v t → RepT K H' v t
  | .non, _, h => by cases h; exact .non
  | .bl b, _, h => by cases h; exact .bl b
  | .int i, _, h => by cases h; exact .int i
  | .str x, _, h => by cases h with | str _ h => exact .str x h
  | .tup ts, _, h => by cases h with | tup h1 h2 => exact .tup (e.sqt h1) (RepTs.mono e h2)
  | .ls ts, _, h => by cases h with | ls h1 h2 => exact .ls (e.2.2 _ _ _ h1) (RepTs.mono e h2)
theorem RepTs.mono {K : PySem.W.Frag} {H H' : Hp} (e : Le H H') : ∀ {ts : List T} {vs : List V}, RepTs K H vs ts → RepTs K H' vs ts
  | [], _, h => by cases h; exact .nil
  | t :: ts, _, h => by cases h with | cons h1 h2 => exact .cons (RepT.mono e h1) (RepTs.mono e h2)
end
theorem RepTs.length {K : PySem.W.Frag} {H : Hp} : ∀ {ts : List T} {vs : List V}, RepTs K H vs ts → vs.length = ts.length
  | [], _, h => by cases h; rfl
  | t :: ts, _, h => by cases h with | cons h1 h2 => simp [RepTs.length h2]
theorem RepTs.get {K : PySem.W.Frag} {H : Hp} : ∀ {ts : List T} {vs : List V} {i : Nat} {t : T}, RepTs K H vs ts → ts[i]? = some t → ∃ v, vs[i]? = some v ∧ RepT K H v t
  | [], _, _, _, h, e => by simp at e
  | t :: ts, _, 0, u, h, e => by
    cases h with
    | cons h1 h2 => simp at e; subst e; exact ⟨_, rfl, h1⟩
  | t :: ts, _, i + 1, u, h, e => by
    cases h with
    | cons h1 h2 =>
      obtain ⟨v, e1, e2⟩ := RepTs.get (i := i) (t := u) h2 (by simpa using e)
      exact ⟨v, by simpa using e1, e2⟩
theorem RepTs.getV {K : PySem.W.Frag} {H : Hp} : ∀ {ts : List T} {vs : List V} {i : Nat} {v : V}, RepTs K H vs ts → vs[i]? = some v → ∃ t, ts[i]? = some t ∧ RepT K H v t
  | [], _, _, _, h, e => by cases h; simp at e
  | t :: ts, _, 0, u, h, e => by
    cases h with
    | cons h1 h2 => simp at e; subst e; exact ⟨_, rfl, h1⟩
  | t :: ts, _, i + 1, u, h, e => by
    cases h with
    | cons h1 h2 =>
      obtain ⟨v, e1, e2⟩ := RepTs.getV (i := i) (v := u) h2 (by simpa using e)
      exact ⟨v, by simpa using e1, e2⟩
theorem RepTs.append {K : PySem.W.Frag} {H : Hp} : ∀ {ts us : List T} {vs ws : List V}, RepTs K H vs ts → RepTs K H ws us → RepTs K H (vs ++ ws) (ts ++ us)
  | [], _, _, _, h, g => by cases h; exact g
  | t :: ts, _, _, _, h, g => by cases h with | cons h1 h2 => exact .cons h1 (RepTs.append h2 g)
theorem RepTs.take {K : PySem.W.Frag} {H : Hp} : ∀ (n : Nat) {ts : List T} {vs : List V}, RepTs K H vs ts → RepTs K H (vs.take n) (ts.take n)
  | 0, _, _, _ => by simpa using .nil
  | n + 1, [], _, h => by cases h; simpa using .nil
  | n + 1, t :: ts, _, h => by cases h with | cons h1 h2 => simpa using .cons h1 (RepTs.take n h2)
theorem RepTs.drop {K : PySem.W.Frag} {H : Hp} : ∀ (n : Nat) {ts : List T} {vs : List V}, RepTs K H vs ts → RepTs K H (vs.drop n) (ts.drop n)
  | 0, _, _, h => by simpa using h
  | n + 1, [], _, h => by cases h; simpa using .nil
  | n + 1, t :: ts, _, h => by cases h with | cons h1 h2 => simpa using RepTs.drop n h2
theorem RepTs.set {K : PySem.W.Frag} {H : Hp} {v : V} {t : T} (r : RepT K H v t) : ∀ {ts : List T} {vs : List V} (i : Nat), RepTs K H vs ts → RepTs K H (vs.set i v) (ts.set i t)
  | [], _, _, h => by cases h; simpa using .nil
  | u :: ts, _, 0, h => by cases h with | cons h1 h2 => simpa using .cons r h2
  | u :: ts, _, i + 1, h => by cases h with | cons h1 h2 => simpa using .cons h1 (RepTs.set r i h2)
theorem RepTs.one {K : PySem.W.Frag} {H : Hp} {v : V} {t : T} (r : RepT K H v t) : RepTs K H [v] [t] := .cons r .nil

/-- a dict's rows -/
def RepK (K : PySem.W.Frag) (H : Hp) {κ : Type} (vs : List (κ × V)) (ts : List (κ × T)) : Prop := vs.map (·.1) = ts.map (·.1) ∧ RepTs K H (vs.map (·.2)) (ts.map (·.2))
theorem RepK.mono {K : PySem.W.Frag} {H H' : Hp} {κ : Type} {vs : List (κ × V)} {ts : List (κ × T)} (e : Le H H') (h : RepK K H vs ts) : RepK K H' vs ts := ⟨h.1, h.2.mono e⟩

/-- what belongs to one slot: the addresses of all that may be changed -/
inductive Own (K : PySem.W.Frag) (H : Hp) : V → Val → List Addr → Prop
  | im {v : V} {t : T} : RepT K H v t → Own K H v (.im t) []
  | il {a : Addr} {xs : List V} {ts : List T} : H a = some (.lst xs) → RepTs K H xs ts → Own K H (.ref a) (.il ts) [a]
  | dk {a : Addr} {xs : List (Key × V)} {ts : List (Key × T)} : H a = some (.dK xs) → RepK K H xs ts → Own K H (.ref a) (.dk ts) [a]
  | dt {a : Addr} {xs : List (List Key × V)} {ts : List (List Key × T)} : H a = some (.dT xs) → RepK K H xs ts → Own K H (.ref a) (.dt ts) [a]
  | tnil {a : Addr} : SqT K H a [] → Own K H (.ref a) (.tup []) []
  | tup {a : Addr} {xs : List V} {vs : List Val} (f : Nat → List Addr) : SqT K H a xs → xs.length = vs.length → (∀ (i : Nat) v x, xs[i]? = some v → vs[i]? = some x → Own K H v x (f i)) → Own K H (.ref a) (.tup vs) ((List.range xs.length).map f).flatten
  | lst {a : Addr} {xs : List V} {vs : List Val} (f : Nat → List Addr) : H a = some (.lst xs) → xs.length = vs.length → (∀ (i : Nat) v x, xs[i]? = some v → vs[i]? = some x → Own K H v x (f i)) → Own K H (.ref a) (.lst vs) (a :: ((List.range xs.length).map f).flatten)
  | ob {a dx : Addr} {xs : List (Str × V)} {c : Cl} {vs : List Val} (f : Nat → List Addr) : H a = some (.ins (He.ga K c.nm) dx xs) → xs.map (·.1) = c.flds.take vs.length → xs.length = vs.length → (∀ (i : Nat) v x, (xs.map (·.2))[i]? = some v → vs[i]? = some x → Own K H v x (f i)) → Own K H (.ref a) (.ob c vs) (a :: ((List.range xs.length).map f).flatten)
  | dv {a : Addr} {xs : List (Key × V)} {kvs : List (Key × Val)} (f : Nat → List Addr) : H a = some (.dK xs) → xs.map (·.1) = kvs.map (·.1) → (∀ (i : Nat) v x, (xs.map (·.2))[i]? = some v → (kvs.map (·.2))[i]? = some x → Own K H v x (f i)) → Own K H (.ref a) (.dv kvs) (a :: ((List.range xs.length).map f).flatten)
  | dw {a : Addr} {xs : List (List Key × V)} {kvs : List (List Key × Val)} (f : Nat → List Addr) : H a = some (.dT xs) → xs.map (·.1) = kvs.map (·.1) → (∀ (i : Nat) v x, (xs.map (·.2))[i]? = some v → (kvs.map (·.2))[i]? = some x → Own K H v x (f i)) → Own K H (.ref a) (.dw kvs) (a :: ((List.range xs.length).map f).flatten)
  | any {v : V} : Own K H v .any []
/-- what is only read -/
inductive Bor (K : PySem.W.Frag) (H : Hp) : V → Val → Prop
  | im {v : V} {t : T} : RepT K H v t → Bor K H v (.im t)
  | il {a : Addr} {xs : List V} {ts : List T} : H a = some (.lst xs) → RepTs K H xs ts → Bor K H (.ref a) (.il ts)
  | dk {a : Addr} {xs : List (Key × V)} {ts : List (Key × T)} : Rd H a (.dK xs) → RepK K H xs ts → Bor K H (.ref a) (.dk ts)
  | dt {a : Addr} {xs : List (List Key × V)} {ts : List (List Key × T)} : Rd H a (.dT xs) → RepK K H xs ts → Bor K H (.ref a) (.dt ts)
  | tup {a : Addr} {xs : List V} {vs : List Val} : SqT K H a xs → xs.length = vs.length → (∀ (i : Nat) v x, xs[i]? = some v → vs[i]? = some x → Bor K H v x) → Bor K H (.ref a) (.tup vs)
  | lst {a : Addr} {xs : List V} {vs : List Val} : H a = some (.lst xs) → xs.length = vs.length → (∀ (i : Nat) v x, xs[i]? = some v → vs[i]? = some x → Bor K H v x) → Bor K H (.ref a) (.lst vs)
  | ob {a dx : Addr} {xs : List (Str × V)} {c : Cl} {vs : List Val} : H a = some (.ins (He.ga K c.nm) dx xs) → xs.map (·.1) = c.flds.take vs.length → xs.length = vs.length → (∀ (i : Nat) v x, (xs.map (·.2))[i]? = some v → vs[i]? = some x → Bor K H v x) → Bor K H (.ref a) (.ob c vs)
  | dv {a : Addr} {xs : List (Key × V)} {kvs : List (Key × Val)} : Rd H a (.dK xs) → xs.map (·.1) = kvs.map (·.1) → (∀ (i : Nat) v x, (xs.map (·.2))[i]? = some v → (kvs.map (·.2))[i]? = some x → Bor K H v x) → Bor K H (.ref a) (.dv kvs)
  | dw {a : Addr} {xs : List (List Key × V)} {kvs : List (List Key × Val)} : Rd H a (.dT xs) → xs.map (·.1) = kvs.map (·.1) → (∀ (i : Nat) v x, (xs.map (·.2))[i]? = some v → (kvs.map (·.2))[i]? = some x → Bor K H v x) → Bor K H (.ref a) (.dw kvs)
  | any {v : V} : Bor K H v .any

theorem Own.bor {K : PySem.W.Frag} {H : Hp} {v : V} {x : Val} {G : List Addr} (h : Own K H v x G) : Bor K H v x := by
  induction h with
  | im h => exact .im h
  | il h g => exact .il h g
  | dk h g => exact .dk (.inl h) g
  | dt h g => exact .dt (.inl h) g
  | tnil h => exact .tup h rfl fun i v x e => by simp at e
  | tup f h hl g ih => exact .tup h hl ih
  | lst f h hl g ih => exact .lst h hl ih
  | ob f h hk hl g ih => exact .ob h hk hl ih
  | dv f h hk g ih => exact .dv (.inl h) hk ih
  | dw f h hk g ih => exact .dw (.inl h) hk ih
  | any => exact .any
/-- all that is tracked in B stands in H -/
theorem Bor.mono {K : PySem.W.Frag} {B H : Hp} (e : Same B H) {v : V} {x : Val} (h : Bor K B v x) : Bor K H v x := by
  have le := Le.of_same e
  have rd : ∀ {a u}, Rd B a u → Rd H a u := fun {a u} r => r.elim (fun q => .inl (e _ _ q)) fun ⟨o, q⟩ => .inr ⟨o, e _ _ q⟩
  induction h with
  | im h => exact .im (h.mono le)
  | il h g => exact .il (e _ _ h) (g.mono le)
  | dk h g => exact .dk (rd h) (g.mono le)
  | dt h g => exact .dt (rd h) (g.mono le)
  | tup h hl g ih => exact .tup (le.sqt h) hl ih
  | lst h hl g ih => exact .lst (e _ _ h) hl ih
  | ob h hk hl g ih => exact .ob (e _ _ h) hk hl ih
  | dv h hk g ih => exact .dv (rd h) hk ih
  | dw h hk g ih => exact .dw (rd h) hk ih
  | any => exact .any
/-- the owned part stays, and the tuples -/
theorem Own.mono {K : PySem.W.Frag} {H H' : Hp} (le : Le H H') {v : V} {x : Val} {G : List Addr} (h : Own K H v x G) (k : ∀ a ∈ G, ∀ o, H a = some o → H' a = some o) : Own K H' v x G := by
  induction h with
  | im h => exact .im (h.mono le)
  | il h g => exact .il (k _ (by simp) _ h) (g.mono le)
  | dk h g => exact .dk (k _ (by simp) _ h) (g.mono le)
  | dt h g => exact .dt (k _ (by simp) _ h) (g.mono le)
  | tnil h => exact .tnil (le.sqt h)
  | @tup a xs vs f h hl g ih =>
    refine .tup f (le.sqt h) hl fun i v x e1 e2 => ih i v x e1 e2 fun b hb => k b ?_
    have hi : i < xs.length := (List.getElem?_eq_some_iff.mp e1).1
    exact List.mem_flatten.mpr ⟨f i, List.mem_map.mpr ⟨i, List.mem_range.mpr hi, rfl⟩, hb⟩
  | @lst a xs vs f h hl g ih =>
    refine .lst f (k _ (by simp) _ h) hl fun i v x e1 e2 => ih i v x e1 e2 fun b hb => k b ?_
    have hi : i < xs.length := (List.getElem?_eq_some_iff.mp e1).1
    exact List.mem_cons_of_mem _ (List.mem_flatten.mpr ⟨f i, List.mem_map.mpr ⟨i, List.mem_range.mpr hi, rfl⟩, hb⟩)
  | @ob a dx xs c vs f h hk hl g ih =>
    refine .ob f (k _ (by simp) _ h) hk hl fun i v x e1 e2 => ih i v x e1 e2 fun b hb => k b ?_
    have hi : i < xs.length := by have := (List.getElem?_eq_some_iff.mp e1).1; rwa [List.length_map] at this
    exact List.mem_cons_of_mem _ (List.mem_flatten.mpr ⟨f i, List.mem_map.mpr ⟨i, List.mem_range.mpr hi, rfl⟩, hb⟩)
  | @dv a xs kvs f h hk g ih =>
    refine .dv f (k _ (by simp) _ h) hk fun i v x e1 e2 => ih i v x e1 e2 fun b hb => k b ?_
    have hi : i < xs.length := by have := (List.getElem?_eq_some_iff.mp e1).1; rwa [List.length_map] at this
    exact List.mem_cons_of_mem _ (List.mem_flatten.mpr ⟨f i, List.mem_map.mpr ⟨i, List.mem_range.mpr hi, rfl⟩, hb⟩)
  | @dw a xs kvs f h hk g ih =>
    refine .dw f (k _ (by simp) _ h) hk fun i v x e1 e2 => ih i v x e1 e2 fun b hb => k b ?_
    have hi : i < xs.length := by have := (List.getElem?_eq_some_iff.mp e1).1; rwa [List.length_map] at this
    exact List.mem_cons_of_mem _ (List.mem_flatten.mpr ⟨f i, List.mem_map.mpr ⟨i, List.mem_range.mpr hi, rfl⟩, hb⟩)
  | any => exact .any
/-- it may be changed -/
def Mu : HO → Prop
  | .lst _ => True
  | .dK _ => True
  | .dT _ => True
  | .ins _ _ _ => True
  | _ => False
theorem Own.there {K : PySem.W.Frag} {H : Hp} {v : V} {x : Val} {G : List Addr} (h : Own K H v x G) : ∀ a ∈ G, ∃ o, H a = some o ∧ Mu o := by
  induction h with
  | im h => intro a ha; simp at ha
  | il h g => intro a ha; simp at ha; subst ha; exact ⟨_, h, True.intro⟩
  | dk h g => intro a ha; simp at ha; subst ha; exact ⟨_, h, True.intro⟩
  | dt h g => intro a ha; simp at ha; subst ha; exact ⟨_, h, True.intro⟩
  | tnil h => intro a ha; simp at ha
  | @tup a xs vs f h hl g ih =>
    intro b hb
    obtain ⟨l, hl1, hl2⟩ := List.mem_flatten.mp hb
    obtain ⟨i, hi, rfl⟩ := List.mem_map.mp hl1
    have hi := List.mem_range.mp hi
    exact ih i xs[i] vs[i] (List.getElem?_eq_getElem hi) (List.getElem?_eq_getElem (hl ▸ hi)) b hl2
  | @lst a xs vs f h hl g ih =>
    intro b hb
    rcases List.mem_cons.mp hb with rfl | hb
    · exact ⟨_, h, True.intro⟩
    obtain ⟨l, hl1, hl2⟩ := List.mem_flatten.mp hb
    obtain ⟨i, hi, rfl⟩ := List.mem_map.mp hl1
    have hi := List.mem_range.mp hi
    exact ih i xs[i] vs[i] (List.getElem?_eq_getElem hi) (List.getElem?_eq_getElem (hl ▸ hi)) b hl2
  | @ob a dx xs c vs f h hk hl g ih =>
    intro b hb
    rcases List.mem_cons.mp hb with rfl | hb
    · exact ⟨_, h, True.intro⟩
    obtain ⟨l, hl1, hl2⟩ := List.mem_flatten.mp hb
    obtain ⟨i, hi, rfl⟩ := List.mem_map.mp hl1
    have hi := List.mem_range.mp hi
    exact ih i _ _ (List.getElem?_eq_getElem (by rw [List.length_map]; exact hi)) (List.getElem?_eq_getElem (hl ▸ hi)) b hl2
  | @dv a xs kvs f h hk g ih =>
    intro b hb
    rcases List.mem_cons.mp hb with rfl | hb
    · exact ⟨_, h, True.intro⟩
    obtain ⟨l, hl1, hl2⟩ := List.mem_flatten.mp hb
    obtain ⟨i, hi, rfl⟩ := List.mem_map.mp hl1
    have hi := List.mem_range.mp hi
    have hl := congrArg List.length hk
    rw [List.length_map, List.length_map] at hl
    exact ih i _ _ (List.getElem?_eq_getElem (by rw [List.length_map]; exact hi)) (List.getElem?_eq_getElem (by rw [List.length_map]; omega)) b hl2
  | @dw a xs kvs f h hk g ih =>
    intro b hb
    rcases List.mem_cons.mp hb with rfl | hb
    · exact ⟨_, h, True.intro⟩
    obtain ⟨l, hl1, hl2⟩ := List.mem_flatten.mp hb
    obtain ⟨i, hi, rfl⟩ := List.mem_map.mp hl1
    have hi := List.mem_range.mp hi
    have hl := congrArg List.length hk
    rw [List.length_map, List.length_map] at hl
    exact ih i _ _ (List.getElem?_eq_getElem (by rw [List.length_map]; exact hi)) (List.getElem?_eq_getElem (by rw [List.length_map]; omega)) b hl2
  | any => intro a ha; simp at ha
end MM

/-! MB: the state of a body by plain values; the judgements RE (an expression that is read), OE (one whose value is owned), RT (a test), RA (arguments). -/
namespace MM
open PySem PySem.Spec PyProof.Rows L2

/-- the law's stream of drawn numbers -/
structure Zs where
  ns : List Int
  cur : Int
  pos : Int
  mix : Int
/-- an error: its class's name, its field -/
structure Exc where
  nm : Str
  fld : Option (Str × T) := none
inductive Rs (α : Type) where
  | ok (a : α) (z : Zs) | ex (c : Exc) (z : Zs) | no
def Rs.bind {α β : Type} (r : Rs α) (f : α → Zs → Rs β) : Rs β := match r with
  | .ok a z => f a z
  | .ex c z => .ex c z
  | .no => .no
@[simp] theorem Rs.bind_ok {α β : Type} {a : α} {z : Zs} {f : α → Zs → Rs β} : (Rs.ok a z).bind f = f a z := rfl
@[simp] theorem Rs.bind_ex {α β : Type} {c : Exc} {z : Zs} {f : α → Zs → Rs β} : (Rs.ex c z).bind f = .ex c z := rfl
@[simp] theorem Rs.bind_no {α β : Type} {f : α → Zs → Rs β} : (Rs.no).bind f = .no := rfl

/-- a slot: nothing, a value that is read, one that is owned, the stream, a value that a loop walks, one that is owned and never replaced by another object -/
inductive Sv where
  | un | b (x : Val) | o (x : Val) | s | lk (x : Val) | a (x : Val)

def hid (st : Option Addr) (H : Hp) : Hp := fun a => if st = some a then none else H a
/-- all but the stream is as it was; the stream has the same numbers -/
structure SameX (st : Option Addr) (H H' : Hp) : Prop where
  k : ∀ a o, st ≠ some a → H a = some o → H' a = some o
  l : ∀ a x r, st = some a → H a = some (.lst (x :: r)) → ∃ r', H' a = some (.lst (x :: r'))
def Zr (K : PySem.W.Frag) (st : Option Addr) (z : Zs) (H : Hp) : Prop :=
  ∀ a, st = some a → ∃ l, H a = some (.lst [.ref l, .int z.cur, .int z.pos, .int z.mix]) ∧ l ≠ a ∧ H l = some (.lst (z.ns.map V.int)) ∧ 0 ≤ z.cur ∧ 0 ≤ z.pos ∧ 0 ≤ z.mix ∧ z.mix < 2147483647
theorem SameX.refl (st : Option Addr) (H : Hp) : SameX st H H := ⟨fun _ _ _ h => h, fun _ _ r _ h => ⟨r, h⟩⟩
theorem SameX.trans {st : Option Addr} {H H1 H2 : Hp} (a : SameX st H H1) (b : SameX st H1 H2) : SameX st H H2 := ⟨fun c o n h => b.k c o n (a.k c o n h), fun c x r e h => let ⟨r1, h1⟩ := a.l c x r e h; b.l c x r1 e h1⟩
theorem SameX.of_same {st : Option Addr} {H H' : Hp} (h : Same H H') : SameX st H H' := ⟨fun _ _ _ e => h _ _ e, fun _ _ r _ e => ⟨r, h _ _ e⟩⟩
theorem SameX.hid {st : Option Addr} {H H' : Hp} (h : SameX st H H') : Same (hid st H) (hid st H') := fun a o e => by
  unfold MM.hid at e ⊢
  by_cases c : st = some a
  · rw [if_pos c] at e; cases e
  · rw [if_neg c] at e ⊢; exact h.k a o c e
theorem hid_same (st : Option Addr) (H : Hp) : Same (hid st H) H := fun a o e => by
  unfold hid at e
  by_cases c : st = some a
  · rw [if_pos c] at e; cases e
  · rw [if_neg c] at e; exact e
theorem hid_of {st : Option Addr} {H : Hp} {a : Addr} {o : HO} (n : st ≠ some a) (e : H a = some o) : hid st H a = some o := by unfold hid; rw [if_neg n]; exact e
theorem hid_none {H : Hp} : hid none H = H := by funext a; unfold hid; rw [if_neg (by simp)]
/-- the stream's object is no tuple -/
theorem Zr.le {K : PySem.W.Frag} {st : Option Addr} {z : Zs} {H : Hp} (h : Zr K st z H) : Le H (hid st H) := by
  have nt : ∀ {a}, st = some a → ∃ xs, H a = some (.lst xs) := fun {a} e => let ⟨l, q, _⟩ := h a e; ⟨_, q⟩
  refine ⟨fun a xs e => hid_of (fun c => ?_) e, fun a o xs e => hid_of (fun c => ?_) e, fun a o xs e => hid_of (fun c => ?_) e⟩
  · obtain ⟨ys, q⟩ := nt c; rw [e] at q; cases q
  · obtain ⟨ys, q⟩ := nt c; rw [e] at q; cases q
  · obtain ⟨ys, q⟩ := nt c; rw [e] at q; cases q
theorem SameX.le {K : PySem.W.Frag} {st : Option Addr} {z : Zs} {H H' : Hp} (h : SameX st H H') (hz : Zr K st z H) : Le H H' :=
  hz.le.trans ((Le.of_same h.hid).trans (Le.of_same (hid_same st H')))

/-- the slots; Ls: what a loop walks, by its slot -/
inductive SlS (K : PySem.W.Frag) (st : Option Addr) (B H : Hp) : List (Option (V × Val)) → L2.St → List Sv → List Addr → Prop
  | nil : SlS K st B H [] [] [] []
  | un {l : Option (V × Val)} {u : Option V} {Ls : List (Option (V × Val))} {σ : L2.St} {S : List Sv} {G : List Addr} : SlS K st B H Ls σ S G → SlS K st B H (l :: Ls) (u :: σ) (.un :: S) G
  | b {l : Option (V × Val)} {v : V} {x : Val} {Ls : List (Option (V × Val))} {σ : L2.St} {S : List Sv} {G : List Addr} : Bor K B v x → SlS K st B H Ls σ S G → SlS K st B H (l :: Ls) (some v :: σ) (.b x :: S) G
  | o {l : Option (V × Val)} {v : V} {x : Val} {Ls : List (Option (V × Val))} {σ : L2.St} {S : List Sv} {G1 G : List Addr} : Own K H v x G1 → SlS K st B H Ls σ S G → SlS K st B H (l :: Ls) (some v :: σ) (.o x :: S) (G1 ++ G)
  | s {l : Option (V × Val)} {a : Addr} {Ls : List (Option (V × Val))} {σ : L2.St} {S : List Sv} {G : List Addr} : st = some a → SlS K st B H Ls σ S G → SlS K st B H (l :: Ls) (some (.ref a) :: σ) (.s :: S) G
  | lk {v : V} {x : Val} {Ls : List (Option (V × Val))} {σ : L2.St} {S : List Sv} {G : List Addr} : SlS K st B H Ls σ S G → SlS K st B H (some (v, x) :: Ls) (some v :: σ) (.lk x :: S) G
  | a {v : V} {x x0 : Val} {Ls : List (Option (V × Val))} {σ : L2.St} {S : List Sv} {G1 G : List Addr} : Own K H v x G1 → SlS K st B H Ls σ S G → SlS K st B H (some (v, x0) :: Ls) (some v :: σ) (.a x :: S) (G1 ++ G)

/-- the state: G what belongs to values on their way -/
structure Stt (K : PySem.W.Frag) (st : Option Addr) (H0 B : Hp) (Ls : List (Option (V × Val))) (G : List Addr) (S : List Sv) (z : Zs) (σ : L2.St) (H : Hp) : Prop where
  fr : SameX st H0 H
  zr : Zr K st z H
  ble : Same B H
  z0 : ∃ z, Zr K st z H0
  bst : ∀ a, st = some a → B a = none
  gt : ∀ a ∈ G, ∃ o, H a = some o ∧ Mu o
  lks : ∀ (j : Nat) v x, Ls[j]? = some (some (v, x)) → Bor K B v x
  ex : ∃ Gs, SlS K st (hid st H0) H Ls σ S Gs ∧ (G ++ Gs).Nodup ∧ ∀ a ∈ G ++ Gs, H0 a = none ∧ B a = none

section
variable {K : PySem.W.Frag} {st : Option Addr} {H0 B : Hp} {Ls : List (Option (V × Val))} {G : List Addr} {S : List Sv} {z z' : Zs} {σ : L2.St} {H H' : Hp}
theorem SlS.mono (le : Le H H') {Gs : List Addr} (h : SlS K st B H Ls σ S Gs) (k : ∀ a ∈ Gs, ∀ o, H a = some o → H' a = some o) : SlS K st B H' Ls σ S Gs := by
  induction h with
  | nil => exact .nil
  | un h ih => exact .un (ih k)
  | b h g ih => exact .b h (ih k)
  | o h g ih => exact .o (h.mono le fun a ha => k a (List.mem_append_left _ ha)) (ih fun a ha => k a (List.mem_append_right _ ha))
  | s h g ih => exact .s h (ih k)
  | lk g ih => exact .lk (ih k)
  | a h g ih => exact .a (h.mono le fun a ha => k a (List.mem_append_left _ ha)) (ih fun a ha => k a (List.mem_append_right _ ha))
theorem SlS.length {Gs : List Addr} (h : SlS K st B H Ls σ S Gs) : σ.length = S.length := by
  induction h <;> simp_all
theorem SlS.lengthL {Gs : List Addr} (h : SlS K st B H Ls σ S Gs) : Ls.length = S.length := by
  induction h <;> simp_all
theorem SlS.there {Gs : List Addr} (h : SlS K st B H Ls σ S Gs) : ∀ a ∈ Gs, ∃ o, H a = some o ∧ Mu o := by
  induction h with
  | nil => intro a ha; simp at ha
  | un h ih => exact ih
  | b h g ih => exact ih
  | o h g ih =>
    intro a ha
    rcases List.mem_append.mp ha with q | q
    · exact h.there a q
    · exact ih a q
  | s h g ih => exact ih
  | lk g ih => exact ih
  | a h g ih =>
    intro b hb
    rcases List.mem_append.mp hb with q | q
    · exact h.there b q
    · exact ih b q
theorem Stt.nst (h : Stt K st H0 B Ls G S z σ H) {a : Addr} (e : H0 a = none) : st ≠ some a := fun c => by
  obtain ⟨z, hz⟩ := h.z0
  obtain ⟨l, q, _⟩ := hz a c
  rw [q] at e; cases e
theorem Stt.bhid (h : Stt K st H0 B Ls G S z σ H) : Same B (hid st H) := fun a o e => hid_of (fun c => by
  have q := h.bst a c
  rw [e] at q; cases q) (h.ble a o e)
/-- the heap grows, the stream turns -/
theorem Stt.grow (h : Stt K st H0 B Ls G S z σ H) (x : SameX st H H') (hz : Zr K st z' H') : Stt K st H0 B Ls G S z' σ H' := by
  obtain ⟨Gs, hs, nd, fr⟩ := h.ex
  refine ⟨h.fr.trans x, hz, fun a o e => ?_, h.z0, h.bst, fun a ha => let ⟨o, e, m⟩ := h.gt a ha; ⟨o, x.k a o (h.nst (fr a (List.mem_append_left _ ha)).1) e, m⟩, h.lks, Gs, hs.mono (x.le h.zr) (fun a ha o e => x.k a o (h.nst (fr a (List.mem_append_right _ ha)).1) e), nd, fr⟩
  exact x.k a o (fun c => by
    have q := h.bst a c
    rw [e] at q; cases q) (h.ble a o e)
/-- an owned value is readable -/
theorem Stt.own_bor (h : Stt K st H0 B Ls G S z σ H) {v : V} {x : Val} {G' : List Addr} (o : Own K H v x G') (n : ∀ a ∈ G', st ≠ some a) : Bor K (hid st H) v x :=
  (o.mono h.zr.le fun a ha _ e => hid_of (n a ha) e).bor
theorem SlS.get_b {i : Nat} {x : Val} {Gs : List Addr} (h : SlS K st B H Ls σ S Gs) : S[i]? = some (.b x) → ∃ v, σ[i]? = some (some v) ∧ Bor K B v x := by
  induction h generalizing i with
  | nil => intro e; simp at e
  | un h ih => intro e; cases i with | zero => simp at e | succ i => simpa using ih (by simpa using e)
  | b h g ih => intro e; cases i with | zero => simp at e; subst e; exact ⟨_, rfl, h⟩ | succ i => simpa using ih (by simpa using e)
  | o h g ih => intro e; cases i with | zero => simp at e | succ i => simpa using ih (by simpa using e)
  | s h g ih => intro e; cases i with | zero => simp at e | succ i => simpa using ih (by simpa using e)
  | lk g ih => intro e; cases i with | zero => simp at e | succ i => simpa using ih (by simpa using e)
  | a h g ih => intro e; cases i with | zero => simp at e | succ i => simpa using ih (by simpa using e)
theorem SlS.get_lk {i : Nat} {x : Val} {Gs : List Addr} (h : SlS K st B H Ls σ S Gs) : S[i]? = some (.lk x) → ∃ v, σ[i]? = some (some v) ∧ Ls[i]? = some (some (v, x)) := by
  induction h generalizing i with
  | nil => intro e; simp at e
  | un h ih => intro e; cases i with | zero => simp at e | succ i => simpa using ih (by simpa using e)
  | b h g ih => intro e; cases i with | zero => simp at e | succ i => simpa using ih (by simpa using e)
  | o h g ih => intro e; cases i with | zero => simp at e | succ i => simpa using ih (by simpa using e)
  | s h g ih => intro e; cases i with | zero => simp at e | succ i => simpa using ih (by simpa using e)
  | lk g ih => intro e; cases i with | zero => simp at e; subst e; exact ⟨_, rfl, rfl⟩ | succ i => simpa using ih (by simpa using e)
  | a h g ih => intro e; cases i with | zero => simp at e | succ i => simpa using ih (by simpa using e)
theorem SlS.get_s {i : Nat} {Gs : List Addr} (h : SlS K st B H Ls σ S Gs) : S[i]? = some .s → ∃ a, σ[i]? = some (some (.ref a)) ∧ st = some a := by
  induction h generalizing i with
  | nil => intro e; simp at e
  | un h ih => intro e; cases i with | zero => simp at e | succ i => simpa using ih (by simpa using e)
  | b h g ih => intro e; cases i with | zero => simp at e | succ i => simpa using ih (by simpa using e)
  | o h g ih => intro e; cases i with | zero => simp at e | succ i => simpa using ih (by simpa using e)
  | s h g ih => intro e; cases i with | zero => exact ⟨_, rfl, h⟩ | succ i => simpa using ih (by simpa using e)
  | lk g ih => intro e; cases i with | zero => simp at e | succ i => simpa using ih (by simpa using e)
  | a h g ih => intro e; cases i with | zero => simp at e | succ i => simpa using ih (by simpa using e)
theorem SlS.bmono {B' : Hp} (bm : Same B B') {Gs : List Addr} (h : SlS K st B H Ls σ S Gs) : SlS K st B' H Ls σ S Gs := by
  induction h with
  | nil => exact .nil
  | un h ih => exact .un ih
  | b h g ih => exact .b (h.mono bm) ih
  | o h g ih => exact .o h ih
  | s h g ih => exact .s h ih
  | lk g ih => exact .lk ih
  | a h g ih => exact .a h ih
/-- a slot alone -/
theorem SlS.put {l : Option (V × Val)} {w : Option V} {y : Sv} {G2 : List Addr} (s : SlS K st B H [l] [w] [y] G2) {Ls : List (Option (V × Val))} {σ : L2.St} {S : List Sv} {Gr : List Addr} (g' : SlS K st B H Ls σ S Gr) : SlS K st B H (l :: Ls) (w :: σ) (y :: S) (G2 ++ Gr) := by
  cases s with
  | un s => cases s; exact .un g'
  | b q s => cases s; exact .b q g'
  | o q s => cases s; simpa using .o q g'
  | s q s => cases s; exact .s q g'
  | lk s => cases s; exact .lk g'
  | a q s => cases s; simpa using .a q g'
/-- the i-th slot is owned: its part G1, and what the others have -/
theorem SlS.get_o {i : Nat} {x : Val} {Gs : List Addr} (h : SlS K st B H Ls σ S Gs) : S[i]? = some (.o x) → ∃ v G1 Ga Gb, σ[i]? = some (some v) ∧ Own K H v x G1 ∧ Gs = Ga ++ G1 ++ Gb ∧
    ∀ (B' H' : Hp) (l : Option (V × Val)) (y : Sv) (w : Option V) (G2 : List Addr), Same B B' → Le H H' → (∀ a ∈ Ga ++ Gb, ∀ o, H a = some o → H' a = some o) → SlS K st B' H' [l] [w] [y] G2 → SlS K st B' H' (Ls.set i l) (σ.set i w) (S.set i y) (Ga ++ G2 ++ Gb) := by
  induction h generalizing i with
  | nil => intro e; simp at e
  | un h ih =>
    intro e
    cases i with
    | zero => simp at e
    | succ i =>
      obtain ⟨v, G1, Ga, Gb, q1, q2, q3, q4⟩ := ih (i := i) (by simpa using e)
      exact ⟨v, G1, Ga, Gb, by simpa using q1, q2, q3, fun B' H' l y w G2 bm le k s => .un (q4 B' H' l y w G2 bm le k s)⟩
  | b h g ih =>
    intro e
    cases i with
    | zero => simp at e
    | succ i =>
      obtain ⟨v, G1, Ga, Gb, q1, q2, q3, q4⟩ := ih (i := i) (by simpa using e)
      exact ⟨v, G1, Ga, Gb, by simpa using q1, q2, q3, fun B' H' l y w G2 bm le k s => .b (h.mono bm) (q4 B' H' l y w G2 bm le k s)⟩
  | @o l0 v0 x0 Ls0 σ0 S0 G0 Gr h g ih =>
    intro e
    cases i with
    | zero =>
      simp at e; subst e
      refine ⟨v0, G0, [], Gr, rfl, h, by simp, fun B' H' l y w G2 bm le k s => ?_⟩
      have g' := (g.bmono bm).mono le (fun a ha => k a (by simpa using ha))
      simp only [List.set_cons_zero, List.nil_append]
      exact s.put g'
    | succ i =>
      obtain ⟨v, G1, Ga, Gb, q1, q2, q3, q4⟩ := ih (i := i) (by simpa using e)
      refine ⟨v, G1, G0 ++ Ga, Gb, by simpa using q1, q2, by rw [q3]; simp, fun B' H' l y w G2 bm le k s => ?_⟩
      have := SlS.o (l := l0) (h.mono le fun a ha => k a (by simp [ha])) (q4 B' H' l y w G2 bm le (fun a ha => k a (by simp at ha ⊢; rcases ha with q | q; exact .inr (.inl q); exact .inr (.inr q))) s)
      simpa using this
  | s h g ih =>
    intro e
    cases i with
    | zero => simp at e
    | succ i =>
      obtain ⟨v, G1, Ga, Gb, q1, q2, q3, q4⟩ := ih (i := i) (by simpa using e)
      exact ⟨v, G1, Ga, Gb, by simpa using q1, q2, q3, fun B' H' l y w G2 bm le k s => .s h (q4 B' H' l y w G2 bm le k s)⟩
  | lk g ih =>
    intro e
    cases i with
    | zero => simp at e
    | succ i =>
      obtain ⟨v, G1, Ga, Gb, q1, q2, q3, q4⟩ := ih (i := i) (by simpa using e)
      exact ⟨v, G1, Ga, Gb, by simpa using q1, q2, q3, fun B' H' l y w G2 bm le k s => .lk (q4 B' H' l y w G2 bm le k s)⟩
  | @a v0 x0 x1 Ls0 σ0 S0 G0 Gr h g ih =>
    intro e
    cases i with
    | zero => simp at e
    | succ i =>
      obtain ⟨v, G1, Ga, Gb, q1, q2, q3, q4⟩ := ih (i := i) (by simpa using e)
      refine ⟨v, G1, G0 ++ Ga, Gb, by simpa using q1, q2, by rw [q3]; simp, fun B' H' l y w G2 bm le k s => ?_⟩
      have := SlS.a (x0 := x1) (h.mono le fun a ha => k a (by simp [ha])) (q4 B' H' l y w G2 bm le (fun a ha => k a (by simp at ha ⊢; rcases ha with q | q; exact .inr (.inl q); exact .inr (.inr q))) s)
      simpa using this
/-- any slot is written over -/
theorem SlS.set {i : Nat} {Gs : List Addr} (h : SlS K st B H Ls σ S Gs) (hi : i < S.length) {y : Sv} {w : Option V} {G2 : List Addr} (s : ∀ l, SlS K st B H [l] [w] [y] G2) :
    ∃ Ga Gm Gb, Gs = Ga ++ Gm ++ Gb ∧ SlS K st B H Ls (σ.set i w) (S.set i y) (Ga ++ G2 ++ Gb) := by
  induction h generalizing i with
  | nil => simp at hi
  | un h ih =>
    cases i with
    | zero => exact ⟨[], [], _, by simp; rfl, by simpa using (s _).put h⟩
    | succ i =>
      obtain ⟨Ga, Gm, Gb, e, q⟩ := ih (i := i) (by simpa using hi)
      exact ⟨Ga, Gm, Gb, e, .un q⟩
  | b h g ih =>
    cases i with
    | zero => exact ⟨[], [], _, by simp; rfl, by simpa using (s _).put g⟩
    | succ i =>
      obtain ⟨Ga, Gm, Gb, e, q⟩ := ih (i := i) (by simpa using hi)
      exact ⟨Ga, Gm, Gb, e, .b h q⟩
  | @o l0 v0 x0 Ls0 σ0 S0 G0 Gr h g ih =>
    cases i with
    | zero => exact ⟨[], G0, Gr, by simp, by simpa using (s _).put g⟩
    | succ i =>
      obtain ⟨Ga, Gm, Gb, e, q⟩ := ih (i := i) (by simpa using hi)
      exact ⟨G0 ++ Ga, Gm, Gb, by rw [e]; simp, by simpa using SlS.o (l := l0) h q⟩
  | s h g ih =>
    cases i with
    | zero => exact ⟨[], [], _, by simp; rfl, by simpa using (s _).put g⟩
    | succ i =>
      obtain ⟨Ga, Gm, Gb, e, q⟩ := ih (i := i) (by simpa using hi)
      exact ⟨Ga, Gm, Gb, e, .s h q⟩
  | lk g ih =>
    cases i with
    | zero => exact ⟨[], [], _, by simp; rfl, by simpa using (s _).put g⟩
    | succ i =>
      obtain ⟨Ga, Gm, Gb, e, q⟩ := ih (i := i) (by simpa using hi)
      exact ⟨Ga, Gm, Gb, e, .lk q⟩
  | @a v0 x0 x1 Ls0 σ0 S0 G0 Gr h g ih =>
    cases i with
    | zero => exact ⟨[], G0, Gr, by simp, by simpa using (s _).put g⟩
    | succ i =>
      obtain ⟨Ga, Gm, Gb, e, q⟩ := ih (i := i) (by simpa using hi)
      exact ⟨G0 ++ Ga, Gm, Gb, by rw [e]; simp, by simpa using SlS.a (x0 := x1) h q⟩
/-- the i-th slot is owned and never replaced -/
theorem SlS.get_a {i : Nat} {x : Val} {Gs : List Addr} (h : SlS K st B H Ls σ S Gs) : S[i]? = some (.a x) → ∃ v x0 G1 Ga Gb, σ[i]? = some (some v) ∧ Ls[i]? = some (some (v, x0)) ∧ Own K H v x G1 ∧ Gs = Ga ++ G1 ++ Gb ∧
    ∀ (B' H' : Hp) (l : Option (V × Val)) (y : Sv) (w : Option V) (G2 : List Addr), Same B B' → Le H H' → (∀ a ∈ Ga ++ Gb, ∀ o, H a = some o → H' a = some o) → SlS K st B' H' [l] [w] [y] G2 → SlS K st B' H' (Ls.set i l) (σ.set i w) (S.set i y) (Ga ++ G2 ++ Gb) := by
  induction h generalizing i with
  | nil => intro e; simp at e
  | un h ih =>
    intro e
    cases i with
    | zero => simp at e
    | succ i =>
      obtain ⟨v, x0, G1, Ga, Gb, q1, q0, q2, q3, q4⟩ := ih (i := i) (by simpa using e)
      exact ⟨v, x0, G1, Ga, Gb, by simpa using q1, by simpa using q0, q2, q3, fun B' H' l y w G2 bm le k s => .un (q4 B' H' l y w G2 bm le k s)⟩
  | b h g ih =>
    intro e
    cases i with
    | zero => simp at e
    | succ i =>
      obtain ⟨v, x0, G1, Ga, Gb, q1, q0, q2, q3, q4⟩ := ih (i := i) (by simpa using e)
      exact ⟨v, x0, G1, Ga, Gb, by simpa using q1, by simpa using q0, q2, q3, fun B' H' l y w G2 bm le k s => .b (h.mono bm) (q4 B' H' l y w G2 bm le k s)⟩
  | @o l0 v0 x0 Ls0 σ0 S0 G0 Gr h g ih =>
    intro e
    cases i with
    | zero => simp at e
    | succ i =>
      obtain ⟨v, x0, G1, Ga, Gb, q1, q0, q2, q3, q4⟩ := ih (i := i) (by simpa using e)
      refine ⟨v, x0, G1, G0 ++ Ga, Gb, by simpa using q1, by simpa using q0, q2, by rw [q3]; simp, fun B' H' l y w G2 bm le k s => ?_⟩
      have := SlS.o (l := l0) (h.mono le fun a ha => k a (by simp [ha])) (q4 B' H' l y w G2 bm le (fun a ha => k a (by simp at ha ⊢; rcases ha with q | q; exact .inr (.inl q); exact .inr (.inr q))) s)
      simpa using this
  | s h g ih =>
    intro e
    cases i with
    | zero => simp at e
    | succ i =>
      obtain ⟨v, x0, G1, Ga, Gb, q1, q0, q2, q3, q4⟩ := ih (i := i) (by simpa using e)
      exact ⟨v, x0, G1, Ga, Gb, by simpa using q1, by simpa using q0, q2, q3, fun B' H' l y w G2 bm le k s => .s h (q4 B' H' l y w G2 bm le k s)⟩
  | lk g ih =>
    intro e
    cases i with
    | zero => simp at e
    | succ i =>
      obtain ⟨v, x0, G1, Ga, Gb, q1, q0, q2, q3, q4⟩ := ih (i := i) (by simpa using e)
      exact ⟨v, x0, G1, Ga, Gb, by simpa using q1, by simpa using q0, q2, q3, fun B' H' l y w G2 bm le k s => .lk (q4 B' H' l y w G2 bm le k s)⟩
  | @a v0 x0 x1 Ls0 σ0 S0 G0 Gr h g ih =>
    intro e
    cases i with
    | zero =>
      simp at e; subst e
      refine ⟨v0, x1, G0, [], Gr, rfl, rfl, h, by simp, fun B' H' l y w G2 bm le k s => ?_⟩
      have g' := (g.bmono bm).mono le (fun a ha => k a (by simpa using ha))
      simp only [List.set_cons_zero, List.nil_append]
      exact s.put g'
    | succ i =>
      obtain ⟨v, x0, G1, Ga, Gb, q1, q0, q2, q3, q4⟩ := ih (i := i) (by simpa using e)
      refine ⟨v, x0, G1, G0 ++ Ga, Gb, by simpa using q1, by simpa using q0, q2, by rw [q3]; simp, fun B' H' l y w G2 bm le k s => ?_⟩
      have := SlS.a (x0 := x1) (h.mono le fun a ha => k a (by simp [ha])) (q4 B' H' l y w G2 bm le (fun a ha => k a (by simp at ha ⊢; rcases ha with q | q; exact .inr (.inl q); exact .inr (.inr q))) s)
      simpa using this
end

/-- the error that was raised, as it lies -/
def ExR (K : PySem.W.Frag) (mg : Str → Option Value) (c : Exc) (cv : Value) (d : Option Addr) (H : Hp) : Prop :=
  (∃ C, mg c.nm = some (.ref C) ∧ cv = .ref C) ∧ match c.fld with
  | none => d = none
  | some (f, t) => ∃ dd v, d = some dd ∧ H dd = some (.xd [(f, v)]) ∧ RepT K H v t

/-- an outcome's wish -/
def Ct {α : Type} (X : Cx) (W : WX) (st : Option Addr) (σ : L2.St) (H : Hp) (r : Rs α) (k : α → Zs → Hp → Prop) : Prop := match r with
  | .ok x z' => ∀ H', SameX st H H' → Zr X.K st z' H' → k x z' H'
  | .ex c z' => ∀ cv d H', SameX st H H' → Zr X.K st z' H' → ExR X.K X.mg c cv d H' → W cv d σ H'
  | .no => False
section
variable {X : Cx} {W : WX} {st : Option Addr} {σ : L2.St} {H H1 : Hp}
theorem Ct.grow {α : Type} {r : Rs α} {k : α → Zs → Hp → Prop} (h : Ct X W st σ H r k) (x : SameX st H H1) : Ct X W st σ H1 r k := by
  cases r with
  | ok a z => exact fun H' y => h H' (x.trans y)
  | ex c z => exact fun cv d H' y => h cv d H' (x.trans y)
  | no => exact h
theorem Ct.bind {α β : Type} {r : Rs α} {f : α → Zs → Rs β} {k : β → Zs → Hp → Prop} {k' : α → Zs → Hp → Prop} (h : Ct X W st σ H (r.bind f) k)
    (g : ∀ a z1 H1, r = .ok a z1 → SameX st H H1 → Zr X.K st z1 H1 → Ct X W st σ H1 (f a z1) k → k' a z1 H1) : Ct X W st σ H r k' := by
  cases r with
  | ok a z => exact fun H' y hz => g a z H' rfl y hz (Ct.grow (show Ct X W st σ H (f a z) k from h) y)
  | ex c z => exact h
  | no => exact h
theorem Ct.imp {α : Type} {r : Rs α} {k k' : α → Zs → Hp → Prop} (h : Ct X W st σ H r k) (g : ∀ a z1 H1, r = .ok a z1 → SameX st H H1 → Zr X.K st z1 H1 → k a z1 H1 → k' a z1 H1) : Ct X W st σ H r k' := by
  cases r with
  | ok a z => exact fun H' y hz => g a z H' rfl y hz (h H' y hz)
  | ex c z => exact h
  | no => exact h
theorem Ct.ok {α : Type} {a : α} {z : Zs} {k : α → Zs → Hp → Prop} (h : Ct X W st σ H (.ok a z) k) (hz : Zr X.K st z H) : k a z H := h H (.refl _ _) hz
theorem Ct.okX {α : Type} {a : α} {z : Zs} {k : α → Zs → Hp → Prop} (h : Ct X W st σ H (.ok a z) k) (x : SameX st H H1) (hz : Zr X.K st z H1) : k a z H1 := h H1 x hz
end

abbrev ME := List Sv → Zs → Rs Val
abbrev MO := List Sv → Zs → Rs (Val × List Sv)
abbrev MT := List Sv → Zs → Rs Bool
abbrev MAs := List Sv → Zs → Rs (List Val)
def RE (X : Cx) (W : WX) (st : Option Addr) (e : Expr) (m : ME) : Prop := ∃ t, PE X e t ∧ ∀ H0 B Ls G S z σ H Q, Stt X.K st H0 B Ls G S z σ H →
  Ct X W st σ H (m S z) (fun x z' H' => ∀ v, Bor X.K (hid st H') v x → Q v H') → t σ H Q
def OE (X : Cx) (W : WX) (st : Option Addr) (e : Expr) (m : MO) : Prop := ∃ t, PE X e t ∧ ∀ H0 B Ls G S z σ H Q, Stt X.K st H0 B Ls G S z σ H →
  Ct X W st σ H (m S z) (fun x z' H' => ∀ v G', Own X.K H' v x.1 G' → Stt X.K st H0 B Ls (G' ++ G) x.2 z' σ H' → Q v H') → t σ H Q
def RT (X : Cx) (W : WX) (st : Option Addr) (e : Expr) (m : MT) : Prop := ∃ t, PT X e t ∧ ∀ H0 B Ls G S z σ H Q, Stt X.K st H0 B Ls G S z σ H →
  Ct X W st σ H (m S z) (fun x z' H' => Q x H') → t σ H Q
def BorS (K : PySem.W.Frag) (H : Hp) : List V → List Val → Prop := Paired (Bor K H)
def RA (X : Cx) (W : WX) (st : Option Addr) (es : List Expr) (m : MAs) : Prop := ∃ t, PA X es t ∧ ∀ H0 B Ls G S z σ H Q, Stt X.K st H0 B Ls G S z σ H →
  Ct X W st σ H (m S z) (fun xs z' H' => ∀ vs, BorS X.K (hid st H') vs xs → Q vs H') → t σ H Q

theorem BorS.mono {K : PySem.W.Frag} {B H : Hp} (e : Same B H) : ∀ {vs : List V} {xs : List Val}, BorS K B vs xs → BorS K H vs xs
  | _, _, .nil => .nil
  | _, _, .cons h t => .cons (h.mono e) (BorS.mono e t)
theorem BorS.length {K : PySem.W.Frag} {H : Hp} {vs : List V} {xs : List Val} (h : BorS K H vs xs) : vs.length = xs.length := Paired.length h

section
variable {X : Cx} {W : WX} {st : Option Addr} {pos : Pos}

/-! ### names, constants -/
@[simp] def eV (i : Nat) : ME := fun S z => match S[i]? with
  | some (.b x) => .ok x z
  | some (.o x) => .ok x z
  | some (.lk x) => .ok x z
  | some (.a x) => .ok x z
  | _ => .no
theorem re_var (i : Nat) {x : Str} (hN : X.N[i]? = some x := by rfl) (hv : Vis X.env.scope x := by first | exact Or.inl rfl | exact Or.inr (Or.inl rfl) | exact Or.inr (Or.inr rfl)) (hd : (x == ("__debug__" : Str)) = false := by decide)
    (hcd : (x == ("__classdict__" : Str)) = false := by decide) : RE X W st (.Name x pos) (eV i) := by
  refine ⟨tVar i, pe_var hN hv hd hcd, fun H0 B Ls G S z σ H Q h hq => ?_⟩
  obtain ⟨Gs, hs, nd, fr⟩ := h.ex
  unfold eV at hq
  cases e : S[i]? with
  | none => rw [e] at hq; exact hq.elim
  | some y =>
    rw [e] at hq
    cases y with
    | un => exact hq.elim
    | s => exact hq.elim
    | b x =>
      obtain ⟨v, e1, e2⟩ := hs.get_b e
      exact ⟨v, e1, hq.ok h.zr v (e2.mono h.fr.hid)⟩
    | lk x =>
      obtain ⟨v, e1, e2⟩ := hs.get_lk e
      exact ⟨v, e1, hq.ok h.zr v ((h.lks i v x e2).mono h.bhid)⟩
    | a x =>
      obtain ⟨v, x0, G1, Ga, Gb, e1, _, e2, e3, _⟩ := hs.get_a e
      exact ⟨v, e1, hq.ok h.zr v (h.own_bor e2 fun a ha => h.nst (fr a (by rw [e3]; simp [ha])).1)⟩
    | o x =>
      obtain ⟨v, G1, Ga, Gb, e1, e2, e3, _⟩ := hs.get_o e
      exact ⟨v, e1, hq.ok h.zr v (h.own_bor e2 fun a ha => h.nst (fr a (by rw [e3]; simp [ha])).1)⟩
@[simp] def eC (t : T) : ME := fun _ z => .ok (.im t) z
theorem re_int {i : Int} {j} : RE X W st (.Constant (.int i) j pos) (eC (.int i)) :=
  ⟨tC (.int i), pe_int, fun H0 B Ls G S z σ H Q h hq => hq.ok h.zr _ (.im (.int i))⟩
theorem re_bl {b : Bool} {j} : RE X W st (.Constant (.bool b) j pos) (eC (.bl b)) :=
  ⟨tC (.bl b), pe_bl, fun H0 B Ls G S z σ H Q h hq => hq.ok h.zr _ (.im (.bl b))⟩
theorem re_non {j} : RE X W st (.Constant .none j pos) (eC .non) :=
  ⟨tC .non, pe_non, fun H0 B Ls G S z σ H Q h hq => hq.ok h.zr _ (.im .non)⟩
theorem re_str {x : Str} {j} (hx : sOk x = true := by decide +kernel) : RE X W st (.Constant (.str x) j pos) (eC (.str x)) :=
  ⟨tC (.str x), pe_str, fun H0 B Ls G S z σ H Q h hq => hq.ok h.zr _ (.im (.str x hx))⟩
/-- a module's constant -/
theorem re_glob {x : Str} {v : V} {u : Value} {t : T} (hg : Gl X x) (hm : X.mg x = some u) (r : RelV v u) (hr : ∀ H, RepT X.K H v t) (hd : (x == ("__debug__" : Str)) = false := by decide) : RE X W st (.Name x pos) (eC t) :=
  ⟨tC v, pe_glob hg hm r hd, fun H0 B Ls G S z σ H Q h hq => hq.ok h.zr _ (.im (hr _))⟩

/-! ### arguments, displays of things that never change -/
@[simp] def aNil : MAs := fun _ z => .ok [] z
@[simp] def aCons (m : ME) (ms : MAs) : MAs := fun S z => (m S z).bind fun x z => (ms S z).bind fun xs z => .ok (x :: xs) z
theorem ra_nil : RA X W st [] aNil := ⟨tNil, pa_nil, fun H0 B Ls G S z σ H Q h hq => hq.ok h.zr [] .nil⟩
theorem ra_cons {e : Expr} {es : List Expr} {m : ME} {ms : MAs} (he : RE X W st e m) (hr : RA X W st es ms) (hs : starEach (e :: es) X.env = (false, eval e X.env) :: starEach es X.env := by rfl) : RA X W st (e :: es) (aCons m ms) := by
  obtain ⟨t, p, f⟩ := he
  obtain ⟨ts, ps, fs⟩ := hr
  refine ⟨tCons t ts, pa_cons p ps hs, fun H0 B Ls G S z σ H Q h hq => ?_⟩
  refine f H0 B Ls G S z σ H _ h (hq.bind fun x z1 H1 _ x1 hz1 hq1 v hv => ?_)
  refine fs H0 B Ls G S z1 σ H1 _ (h.grow x1 hz1) (hq1.bind fun xs z2 H2 _ x2 hz2 hq2 vs hvs => ?_)
  exact hq2.ok hz2 (v :: vs) (.cons (hv.mono x2.hid) hvs)
/-- all of them never change -/
@[simp] def imS : List Val → Option (List T)
  | [] => some []
  | .im t :: vs => (imS vs).map (t :: ·)
  | _ => none
theorem imS_rep {K : PySem.W.Frag} {H : Hp} : ∀ {vs : List V} {xs : List Val} {ts : List T}, BorS K H vs xs → imS xs = some ts → RepTs K H vs ts
  | _, _, _, .nil, e => by cases e; exact .nil
  | _, _, _, .cons (b := x) h t, e => by
    cases x with
    | im u =>
      unfold imS at e
      cases q : imS _ with
      | none => rw [q] at e; cases e
      | some us =>
        rw [q] at e
        cases e
        cases h with
        | im h => exact .cons h (imS_rep t q)
    | _ => cases e
@[simp] def oTup (xs : List Val) (z : Zs) : Rs Val := match imS xs with
  | some ts => if ts.length ≤ sizeLine then .ok (.im (.tup ts)) z else .no
  | none => .no
@[simp] def eTup (ms : MAs) : ME := fun S z => (ms S z).bind oTup
theorem Zr.new {K : PySem.W.Frag} {st : Option Addr} {z : Zs} {H H' : Hp} (h : Zr K st z H) (e : Same H H') : Zr K st z H' := fun a q => by
  obtain ⟨l, h1, h2, h3, h4⟩ := h a q
  exact ⟨l, e _ _ h1, h2, e _ _ h3, h4⟩
theorem re_tup {es : List Expr} {ms : MAs} {x1} (ha : RA X W st es ms) : RE X W st (.Tuple es x1 pos) (eTup ms) := by
  obtain ⟨t, p, f⟩ := ha
  refine ⟨tTup t, pe_tup p, fun H0 B Ls G S z σ H Q h hq => ?_⟩
  refine f H0 B Ls G S z σ H _ h (hq.bind fun xs z1 H1 _ x1 hz1 hq1 vs hvs => ?_)
  unfold oTup at hq1
  cases e : imS xs with
  | none => rw [e] at hq1; exact hq1.elim
  | some ts =>
    rw [e] at hq1
    by_cases hl : ts.length ≤ sizeLine
    · simp only [hl, if_true] at hq1
      have r := imS_rep hvs e
      refine ⟨by rw [r.length]; exact hl, fun p np => ?_⟩
      have s1 : Same H1 (upd H1 p (.tup vs)) := Same.upd_new np
      have np' : st ≠ some p := fun c => by obtain ⟨l, q, _⟩ := hz1 p c; rw [np] at q; cases q
      have sx : SameX st H1 (upd H1 p (.tup vs)) := .of_same s1
      exact hq1.okX sx (hz1.new s1) _ (.im (.tup (.inl (.inl (hid_of np' upd_same))) (r.mono (Le.of_same sx.hid))))
    · simp only [hl, if_false] at hq1; exact hq1.elim
end
end MM

/-! MC: expressions. FE: an expression whose value is new (or never changes). -/
namespace MM
open PySem PySem.Spec PyProof.Rows L2

def FE (X : Cx) (W : WX) (st : Option Addr) (e : Expr) (m : ME) : Prop := ∃ t, PE X e t ∧ ∀ H0 B Ls G S z σ H Q, Stt X.K st H0 B Ls G S z σ H →
  Ct X W st σ H (m S z) (fun x z' H' => ∀ v G', Own X.K H' v x G' → Stt X.K st H0 B Ls (G' ++ G) S z' σ H' → Q v H') → t σ H Q

section
variable {K : PySem.W.Frag} {st : Option Addr} {H0 B : Hp} {Ls : List (Option (V × Val))} {G : List Addr} {S : List Sv} {z z' : Zs} {σ : L2.St} {H H' : Hp}
theorem Zr.free {a : Addr} (h : Zr K st z H) (e : H a = none) : st ≠ some a := fun c => by
  obtain ⟨l, q, _⟩ := h a c
  rw [e] at q; cases q
/-- new objects join -/
theorem Stt.add {G' : List Addr} (h : Stt K st H0 B Ls G S z σ H) (x : SameX st H H') (hz : Zr K st z' H') (nd : G'.Nodup) (fr : ∀ a ∈ G', H a = none) (nw : ∀ a ∈ G', ∃ o, H' a = some o ∧ Mu o) : Stt K st H0 B Ls (G' ++ G) S z' σ H' := by
  have h2 := h.grow x hz
  obtain ⟨Gs, hs, nd0, fr0⟩ := h.ex
  obtain ⟨Gs2, hs2, nd2, fr2⟩ := h2.ex
  have hz0 := h.zr
  have h0 : ∀ a, H a = none → H0 a = none := fun a e => by
    cases q : H0 a with
    | none => rfl
    | some o =>
      have := h.fr.k a o (hz0.free e) q
      rw [e] at this; cases this
  have hB : ∀ a, H a = none → B a = none := fun a e => by
    cases q : B a with
    | none => rfl
    | some o => have := h.ble a o q; rw [e] at this; cases this
  have hGs : ∀ a ∈ Gs, ∃ o, H a = some o ∧ Mu o := hs.there
  refine ⟨h2.fr, h2.zr, h2.ble, h2.z0, h2.bst, fun a ha => (List.mem_append.mp ha).elim (fun q => nw a q) (h2.gt a), h.lks, Gs, ?_, ?_, ?_⟩
  · exact hs.mono (x.le hz0) fun a ha o e => x.k a o (h.nst (fr0 a (List.mem_append_right _ ha)).1) e
  · rw [List.append_assoc]
    refine List.nodup_append.mpr ⟨nd, nd0, fun a ha b hb e => ?_⟩
    subst e
    rcases List.mem_append.mp hb with q | q
    · obtain ⟨o, e, _⟩ := h.gt a q
      rw [fr a ha] at e; cases e
    · obtain ⟨o, e, _⟩ := hGs a q
      rw [fr a ha] at e; cases e
  · intro a ha
    rw [List.append_assoc] at ha
    rcases List.mem_append.mp ha with q | q
    · exact ⟨h0 a (fr a q), hB a (fr a q)⟩
    · exact fr0 a q
end
section
variable {X : Cx} {W : WX} {st : Option Addr} {pos : Pos}
theorem re_fe {e : Expr} {m : ME} (h : FE X W st e m) : RE X W st e m := by
  obtain ⟨t, p, f⟩ := h
  refine ⟨t, p, fun H0 B Ls G S z σ H Q h hq => ?_⟩
  refine f H0 B Ls G S z σ H Q h (hq.imp fun x z1 H1 _ x1 hz1 q v G' o h1 => q v (h1.own_bor o fun a ha => ?_))
  obtain ⟨Gs, hs, nd, fr⟩ := h1.ex
  exact h1.nst (fr a (by simp [ha])).1
/-- a value that never changes -/
@[simp] def im1 (x : Val) (z : Zs) : Rs Val := match x with
  | .im t => .ok (.im t) z
  | _ => .no
@[simp] def eIm (m : ME) : ME := fun S z => (m S z).bind im1
theorem fe_re {e : Expr} {m : ME} (h : RE X W st e m) : FE X W st e (eIm m) := by
  obtain ⟨t, p, f⟩ := h
  refine ⟨t, p, fun H0 B Ls G S z σ H Q h hq => ?_⟩
  refine f H0 B Ls G S z σ H Q h (hq.bind fun x z1 H1 _ x1 hz1 hq1 v hv => ?_)
  cases x with
  | im u =>
    cases hv with
    | im r => exact hq1.ok hz1 v [] (.im (r.mono (Le.of_same (hid_same st H1)))) (h.grow x1 hz1)
  | _ => exact hq1.elim
/-- the usual end of a rule: new objects or none -/
theorem Ct.fin {H0 B : Hp} {Ls : List (Option (V × Val))} {G : List Addr} {S : List Sv} {z : Zs} {σ : L2.St} {H H1 : Hp} {Q : VK} {x : Val} (h : Stt X.K st H0 B Ls G S z σ H)
    (hq : Ct X W st σ H (.ok x z) (fun x z' H' => ∀ v G', Own X.K H' v x G' → Stt X.K st H0 B Ls (G' ++ G) S z' σ H' → Q v H')) {v : V} {G' : List Addr} (s : Same H H1) (o : Own X.K H1 v x G') (nd : G'.Nodup) (fr : ∀ a ∈ G', H a = none) : Q v H1 := by
  have hz := h.zr.new s
  exact hq.okX (.of_same s) hz v G' o (h.add (.of_same s) hz nd fr o.there)
@[simp] def lft {α : Type} (o : Option α) (z : Zs) : Rs α := match o with
  | some y => .ok y z
  | none => .no
@[simp] theorem lft_some {α : Type} {y : α} {z : Zs} : lft (some y) z = .ok y z := rfl
@[simp] theorem lft_none {α : Type} {z : Zs} : lft (none : Option α) z = .no := rfl

/-- what an operation of two values is worth -/
def Op2 (X : Cx) (st : Option Addr) (r : R2) (o : Val → Val → Option Val) : Prop := ∀ (H : Hp) (va vb : V) (xa xb y : Val) (Q : VK), Bor X.K (hid st H) va xa → Bor X.K (hid st H) vb xb → o xa xb = some y →
  (∀ v H' G', Same H H' → Own X.K H' v y G' → G'.Nodup → (∀ a ∈ G', H a = none) → Q v H') → r va vb H Q
@[simp] def eBin (o : Val → Val → Option Val) (ma mb : ME) : ME := fun S z => (ma S z).bind fun x z => (mb S z).bind fun y z => lft (o x y) z
theorem fe_op {op : Operator} {r : R2} {o : Val → Val → Option Val} {a b : Expr} {ma mb : ME} (ho : OpR X (binaryOp op) r) (sp : Op2 X st r o) (ha : RE X W st a ma) (hb : RE X W st b mb) : FE X W st (.BinOp a op b pos) (eBin o ma mb) := by
  obtain ⟨ta, pa, fa⟩ := ha
  obtain ⟨tb, pb, fb⟩ := hb
  refine ⟨tOp r ta tb, pe_op ho pa pb, fun H0 B Ls G S z σ H Q h hq => ?_⟩
  refine fa H0 B Ls G S z σ H _ h (hq.bind fun x z1 H1 _ x1 hz1 hq1 v hv => ?_)
  refine fb H0 B Ls G S z1 σ H1 _ (h.grow x1 hz1) (hq1.bind fun y z2 H2 _ x2 hz2 hq2 w hw => ?_)
  cases e : o x y with
  | none => rw [e] at hq2; exact hq2.elim
  | some u =>
    rw [e] at hq2
    exact sp H2 v w x y u Q (hv.mono x2.hid) hw e fun v' H' G' s ow nd fr => Ct.fin ((h.grow x1 hz1).grow x2 hz2) hq2 s ow nd fr
theorem fe_cmp {op : CmpOp} {r : R2} {o : Val → Val → Option Val} {a b : Expr} {ma mb : ME} (ho : OpR X (compareOp op) r) (sp : Op2 X st r o) (ha : RE X W st a ma) (hb : RE X W st b mb) (hm : behindInMarks op b = false := by first | exact nomark _ | rfl) : FE X W st (.Compare a [op] [b] pos) (eBin o ma mb) := by
  obtain ⟨ta, pa, fa⟩ := ha
  obtain ⟨tb, pb, fb⟩ := hb
  refine ⟨tOp r ta tb, pe_cmpR ho pa pb hm, fun H0 B Ls G S z σ H Q h hq => ?_⟩
  refine fa H0 B Ls G S z σ H _ h (hq.bind fun x z1 H1 _ x1 hz1 hq1 v hv => ?_)
  refine fb H0 B Ls G S z1 σ H1 _ (h.grow x1 hz1) (hq1.bind fun y z2 H2 _ x2 hz2 hq2 w hw => ?_)
  cases e : o x y with
  | none => rw [e] at hq2; exact hq2.elim
  | some u =>
    rw [e] at hq2
    exact sp H2 v w x y u Q (hv.mono x2.hid) hw e fun v' H' G' s ow nd fr => Ct.fin ((h.grow x1 hz1).grow x2 hz2) hq2 s ow nd fr
/-- a value's truth, where it is a bool -/
@[simp] def asB (x : Val) (z : Zs) : Rs Bool := match x with
  | .im (.bl b) => .ok b z
  | _ => .no
@[simp] def tCp (o : Val → Val → Option Val) (ma mb : ME) : MT := fun S z => ((ma S z).bind fun x z => (mb S z).bind fun y z => lft (o x y) z).bind asB
theorem rt_cmp {op : CmpOp} {r : R2} {o : Val → Val → Option Val} {a b : Expr} {ma mb : ME} (ho : OpR X (compareOp op) r) (sp : Op2 X st r o) (ha : RE X W st a ma) (hb : RE X W st b mb) (hm : behindInMarks op b = false := by first | exact nomark _ | rfl) : RT X W st (.Compare a [op] [b] pos) (tCp o ma mb) := by
  obtain ⟨ta, pa, fa⟩ := ha
  obtain ⟨tb, pb, fb⟩ := hb
  refine ⟨tTest (tOp r ta tb), pt_cmpR ho pa pb hm, fun H0 B Ls G S z σ H Q h hq => ?_⟩
  unfold tCp at hq
  replace hq : Ct X W st σ H ((ma S z).bind fun x z => ((mb S z).bind fun y z => lft (o x y) z).bind asB) (fun x z' H' => Q x H') := by
    cases e : ma S z <;> rw [e] at hq <;> exact hq
  refine fa H0 B Ls G S z σ H _ h (hq.bind fun x z1 H1 _ x1 hz1 hq1 v hv => ?_)
  replace hq1 : Ct X W st σ H1 ((mb S z1).bind fun y z => (lft (o x y) z).bind asB) (fun x z' H' => Q x H') := by
    cases e : mb S z1 <;> rw [e] at hq1 <;> exact hq1
  refine fb H0 B Ls G S z1 σ H1 _ (h.grow x1 hz1) (hq1.bind fun y z2 H2 _ x2 hz2 hq2 w hw => ?_)
  cases e : o x y with
  | none => rw [e] at hq2; exact hq2.elim
  | some u =>
    rw [e] at hq2
    refine sp H2 v w x y u _ (hv.mono x2.hid) hw e fun v' H' G' s ow nd fr => ?_
    cases ow with
    | im r =>
      cases r with
      | bl k => exact ⟨k, rfl, Ct.okX (k := fun x z' H' => Q x H') hq2 (.of_same s) (hz2.new s)⟩
      | _ => exact hq2.elim
    | _ => exact hq2.elim

/-! ### the operations -/
@[simp] def oII (f : Int → Int → T) (c : Int → Int → Bool) (x y : Val) : Option Val := match x, y with
  | .im (.int i), .im (.int j) => if c i j then some (.im (f i j)) else none
  | _, _ => none
theorem oII_some {f : Int → Int → T} {c : Int → Int → Bool} {x y u : Val} (h : oII f c x y = some u) : ∃ i j, x = .im (.int i) ∧ y = .im (.int j) ∧ c i j = true ∧ u = .im (f i j) := by
  unfold oII at h
  split at h
  · split at h
    · rename_i i j hc; cases h; exact ⟨i, j, rfl, rfl, hc, rfl⟩
    · cases h
  · cases h
theorem bor_int {K : PySem.W.Frag} {H : Hp} {v : V} {i : Int} (h : Bor K H v (.im (.int i))) : v = .int i := by
  cases h with | im h => cases h; rfl
theorem bor_str {K : PySem.W.Frag} {H : Hp} {v : V} {i : Str} (h : Bor K H v (.im (.str i))) : v = .str i ∧ sOk i = true := by
  cases h with | im h => cases h with | str _ h => exact ⟨rfl, h⟩
theorem bor_bl {K : PySem.W.Frag} {H : Hp} {v : V} {i : Bool} (h : Bor K H v (.im (.bl i))) : v = .bl i := by
  cases h with | im h => cases h; rfl
theorem op2_I {f : Int → Int → Int} {c : Int → Int → Bool} {C : Int → Int → Prop} (hc : ∀ i j, c i j = true → C i j) : Op2 X st (rI C fun i j => .int (f i j)) (oII (fun i j => .int (f i j)) c) := by
  intro H va vb xa xb y Q ha hb e q
  obtain ⟨i, j, rfl, rfl, hcc, rfl⟩ := oII_some e
  exact ⟨i, j, bor_int ha, bor_int hb, hc i j hcc, q _ H [] (Same.refl H) (.im (.int _)) List.nodup_nil (fun _ z => by cases z)⟩
theorem op2_I0 {f : Int → Int → Int} : Op2 X st (rI0 fun i j => .int (f i j)) (oII (fun i j => .int (f i j)) fun _ _ => true) := by
  intro H va vb xa xb y Q ha hb e q
  obtain ⟨i, j, rfl, rfl, hcc, rfl⟩ := oII_some e
  exact ⟨i, j, bor_int ha, bor_int hb, q _ H [] (Same.refl H) (.im (.int _)) List.nodup_nil (fun _ z => by cases z)⟩
theorem op2_B0 {f : Int → Int → Bool} : Op2 X st (rI0 fun i j => .bl (f i j)) (oII (fun i j => .bl (f i j)) fun _ _ => true) := by
  intro H va vb xa xb y Q ha hb e q
  obtain ⟨i, j, rfl, rfl, hcc, rfl⟩ := oII_some e
  exact ⟨i, j, bor_int ha, bor_int hb, q _ H [] (Same.refl H) (.im (.bl _)) List.nodup_nil (fun _ z => by cases z)⟩

/-! ### + of ints, texts, tuples, lists -/
theorem strOk_append {x y : Str} (hx : PyData.strOk x = true) (hy : PyData.strOk y = true) : PyData.strOk (x ++ y) = true := by
  unfold PyData.strOk at *
  show (x.cps ++ y.cps).all _ = true
  rw [Array.all_append, hx, hy]; rfl
theorem sOk_append {x y : Str} (hx : sOk x = true) (hy : sOk y = true) (hl : x.length + y.length ≤ sizeLine) : sOk (x ++ y) = true := by
  unfold sOk at *
  rw [Bool.and_eq_true] at *
  refine ⟨strOk_append hx.1 hy.1, decide_eq_true ?_⟩
  have : (x ++ y).length = x.length + y.length := by
    show (x.cps ++ y.cps).size = _
    rw [Array.size_append]; rfl
  omega
@[simp] def oAdd (x y : Val) : Option Val := match x, y with
  | .im (.int i), .im (.int j) => some (.im (.int (i + j)))
  | .im (.str i), .im (.str j) => if i.length + j.length ≤ sizeLine then some (.im (.str (i ++ j))) else none
  | .im (.tup i), .im (.tup j) => if i.length + j.length ≤ sizeLine then some (.im (.tup (i ++ j))) else none
  | .il i, .il j => if i.length + j.length ≤ sizeLine then some (.il (i ++ j)) else none
  | _, _ => none
abbrev rAddAll (K : PySem.W.Frag) : R2 := fun x y H Q => rI0 (fun i j => V.int (i + j)) x y H Q ∨ (∃ i j, x = .str i ∧ y = .str j ∧ i.length + j.length ≤ sizeLine ∧ Q (.str (i ++ j)) H) ∨ rCatA K x y H Q ∨ rCat x y H Q
theorem op_addAll : OpR X (binaryOp .Add) (rAddAll X.K) := op_add.or (op_add_str.or (op_catA.or op_cat))
theorem not_hid {st : Option Addr} {H : Hp} {a : Addr} {o : HO} (e : hid st H a = some o) : H a = some o := hid_same st H _ _ e
theorem rep_hid {K : PySem.W.Frag} {st : Option Addr} {H : Hp} {vs : List V} {ts : List T} (h : RepTs K (hid st H) vs ts) : RepTs K H vs ts := h.mono (Le.of_same (hid_same st H))
theorem repT_hid {K : PySem.W.Frag} {st : Option Addr} {H : Hp} {v : V} {t : T} (h : RepT K (hid st H) v t) : RepT K H v t := h.mono (Le.of_same (hid_same st H))
theorem sqt_hid {K : PySem.W.Frag} {st : Option Addr} {H : Hp} {a : Addr} {xs : List V} (h : SqT K (hid st H) a xs) : SqT K H a xs := (Le.of_same (hid_same st H)).sqt h
theorem op2_add : Op2 X st (rAddAll X.K) oAdd := by
  intro H va vb xa xb y Q ha hb e q
  unfold oAdd at e
  split at e
  · cases e
    exact .inl ⟨_, _, bor_int ha, bor_int hb, q _ H [] (Same.refl H) (.im (.int _)) List.nodup_nil (fun _ z => by cases z)⟩
  · rename_i i j
    split at e
    · rename_i hl
      cases e
      obtain ⟨rfl, oa⟩ := bor_str ha
      obtain ⟨rfl, ob⟩ := bor_str hb
      exact .inr (.inl ⟨_, _, rfl, rfl, hl, q _ H [] (Same.refl H) (.im (.str _ (sOk_append oa ob hl))) List.nodup_nil (fun _ z => by cases z)⟩)
    · cases e
  · rename_i i j
    split at e
    · rename_i hl
      cases e
      cases ha with
      | im ha =>
        cases ha with
        | @tup a xs _ sa ra =>
          cases hb with
          | im hb =>
            cases hb with
            | @tup b ys _ sb rb =>
              have key : ∀ p, H p = none → Q (.ref p) (upd H p (.tup (xs ++ ys))) := fun p np =>
                q _ _ [] (Same.upd_new np) (.im (.tup (.inl (.inl upd_same)) ((rep_hid (ra.append rb)).mono (Le.of_same (Same.upd_new np))))) List.nodup_nil (fun _ z => by cases z)
              refine .inr (.inr (.inl ⟨a, b, xs, ys, rfl, rfl, sqt_hid sa, sqt_hid sb, by rw [ra.length, rb.length]; exact hl, fun z => ?_, fun _ z => ?_, fun _ _ => key⟩))
              · subst z
                cases ra
                exact q _ H [] (Same.refl H) (.im (by rw [List.nil_append]; exact .tup (sqt_hid sb) (rep_hid rb))) List.nodup_nil (fun _ z => by cases z)
              · subst z
                cases rb
                exact q _ H [] (Same.refl H) (.im (by rw [List.append_nil]; exact .tup (sqt_hid sa) (rep_hid ra))) List.nodup_nil (fun _ z => by cases z)
    · cases e
  · rename_i i j
    split at e
    · rename_i hl
      cases e
      cases ha with
      | @il a xs _ sa ra =>
        cases hb with
        | @il b ys _ sb rb =>
          refine .inr (.inr (.inr ⟨a, b, xs, ys, rfl, rfl, not_hid sa, not_hid sb, by rw [ra.length, rb.length]; exact hl, fun p np => ?_⟩))
          exact q _ _ [p] (Same.upd_new np) (.il upd_same ((rep_hid (ra.append rb)).mono (Le.of_same (Same.upd_new np)))) (by simp) (fun a ha => by simp at ha; subst ha; exact np)
    · cases e
  · cases e
@[simp] def eAdd := eBin oAdd
theorem fe_add {a b : Expr} {ma mb : ME} (ha : RE X W st a ma) (hb : RE X W st b mb) : FE X W st (.BinOp a .Add b pos) (eAdd ma mb) := fe_op op_addAll op2_add ha hb
@[simp] def eSub := eBin (oII (fun i j => .int (i - j)) fun _ _ => true)
theorem fe_sub {a b : Expr} {ma mb : ME} (ha : RE X W st a ma) (hb : RE X W st b mb) : FE X W st (.BinOp a .Sub b pos) (eSub ma mb) := fe_op op_sub op2_I0 ha hb
def cMul (i j : Int) : Bool := (decide (-(2 ^ 64) < i) && decide (i < 2 ^ 64)) || (decide (-(2 ^ 64) < j) && decide (j < 2 ^ 64))
@[simp] def eMul := eBin (oII (fun i j => .int (i * j)) cMul)
theorem fe_mul {a b : Expr} {ma mb : ME} (ha : RE X W st a ma) (hb : RE X W st b mb) : FE X W st (.BinOp a .Mult b pos) (eMul ma mb) := fe_op op_mul (op2_I fun i j h => by
  unfold cMul at h
  simp only [Bool.or_eq_true, Bool.and_eq_true, decide_eq_true_eq] at h
  exact h) ha hb
def cDiv (_ j : Int) : Bool := decide (0 < j) && decide (j.natAbs.log2 < 9000)
@[simp] def eFdiv := eBin (oII (fun i j => .int (i / j)) cDiv)
@[simp] def eMod := eBin (oII (fun i j => .int (i % j)) fun _ j => decide (0 < j))
theorem fe_fdiv {a b : Expr} {ma mb : ME} (ha : RE X W st a ma) (hb : RE X W st b mb) : FE X W st (.BinOp a .FloorDiv b pos) (eFdiv ma mb) := fe_op op_fdivW (op2_I fun i j h => by
  unfold cDiv at h
  simp only [Bool.and_eq_true, decide_eq_true_eq] at h
  exact h) ha hb
theorem fe_mod {a b : Expr} {ma mb : ME} (ha : RE X W st a ma) (hb : RE X W st b mb) : FE X W st (.BinOp a .Mod b pos) (eMod ma mb) := fe_op op_mod (op2_I fun i j h => of_decide_eq_true h) ha hb
@[simp] def eLt := eBin (oII (fun i j => .bl (decide (i < j))) fun _ _ => true)
end
end MM

/-! MD: ==, in, places, slices, types, lengths. -/
namespace MM
open PySem PySem.Spec PyProof.Rows L2

mutual
def T.py : T → PyData
  | .non => .none
  | .bl b => .bool b
  | .int i => .int i
  | .str x => .str x
  | .tup ts => .tuple (T.pys ts)
  | .ls ts => .list (T.pys ts)
def T.pys : List T → List PyData
  | [] => []
  | t :: ts => t.py :: T.pys ts
end
theorem pys_map : ∀ ts : List T, T.pys ts = ts.map T.py
  | [] => rfl
  | t :: ts => by rw [T.pys, pys_map ts]; rfl
def T.eqv (a b : T) : Bool := PyData.eqv a.py b.py
def T.dep (a : T) : Nat := a.py.depth
def depS (ts : List T) : Nat := PyData.depthAll (T.pys ts)

mutual
theorem RepT.dp {K : PySem.W.Frag} {H : Hp} : ∀ {t : T} {v : V}, RepT K H v t → Dp K H v t.py ∧ t.py.canLay0 = true
  | .non, _, h => by cases h; exact ⟨by rw [T.py]; exact .non, by rw [T.py]; rfl⟩
  | .bl b, _, h => by cases h; exact ⟨by rw [T.py]; exact .bl b, by rw [T.py]; rfl⟩
  | .int i, _, h => by cases h; exact ⟨by rw [T.py]; exact .int i, by rw [T.py]; rfl⟩
  | .str x, _, h => by
    cases h with
    | str _ h =>
      unfold sOk at h
      exact ⟨by rw [T.py]; exact .str x, by rw [T.py]; simp only [PyData.canLay0]; exact (Bool.and_eq_true_iff.mp h).1⟩
  | .tup ts, _, h => by
    cases h with
    | tup h1 h2 =>
      obtain ⟨g1, g2⟩ := RepTs.dp h2
      exact ⟨by rw [T.py]; exact .tup h1 g1, by rw [T.py]; simp only [PyData.canLay0]; exact g2⟩
  | .ls ts, _, h => by
    cases h with
    | @ls a o xs _ h1 h2 =>
      obtain ⟨g1, g2⟩ := RepTs.dp h2
      exact ⟨by rw [T.py]; exact .lst (.inl (.inr ⟨o, h1⟩)) g1, by rw [T.py]; simp only [PyData.canLay0]; exact g2⟩
theorem RepTs.dp {K : PySem.W.Frag} {H : Hp} : ∀ {ts : List T} {vs : List V}, RepTs K H vs ts → DpAll K H vs (T.pys ts) ∧ PyData.canLayAll0 (T.pys ts) = true
  | [], _, h => by cases h; exact ⟨by rw [T.pys]; exact .nil, by rw [T.pys]; rfl⟩
  | t :: ts, _, h => by
    cases h with
    | cons h1 h2 =>
      obtain ⟨g1, g2⟩ := RepT.dp h1
      obtain ⟨g3, g4⟩ := RepTs.dp h2
      exact ⟨by rw [T.pys]; exact .cons g1 g3, by rw [T.pys]; simp only [PyData.canLayAll0]; rw [g2, g4]; rfl⟩
end
/-- data that == can compare: no dicts; tuples and lists of such things -/
def Val.flat : Val → Option (PyData)
  | .im t => some t.py
  | .il ts => some (.list (T.pys ts))
  | .tup vs => (flats vs).map .tuple
  | .lst vs => (flats vs).map .list
  | _ => none
where flats : List Val → Option (List PyData)
  | [] => some []
  | v :: vs => match v.flat, flats vs with
    | some a, some b => some (a :: b)
    | _, _ => none
theorem bor_dp {K : PySem.W.Frag} {H : Hp} {v : V} {x : Val} (h : Bor K H v x) : ∀ d, x.flat = some d → Dp K H v d ∧ d.canLay0 = true := by
  have all : ∀ (xs : List V) (vs : List Val) (ds : List PyData), xs.length = vs.length → (∀ (i : Nat) v x, xs[i]? = some v → vs[i]? = some x → ∀ d, x.flat = some d → Dp K H v d ∧ d.canLay0 = true) → Val.flat.flats vs = some ds → DpAll K H xs ds ∧ PyData.canLayAll0 ds = true := by
    intro xs vs
    induction vs generalizing xs with
    | nil =>
      intro ds hl _ e
      have : xs = [] := List.length_eq_zero_iff.mp hl
      subst this
      simp only [Val.flat.flats] at e
      cases e
      exact ⟨.nil, rfl⟩
    | cons y vs ih =>
      intro ds hl hi e
      cases xs with
      | nil => cases hl
      | cons w xs =>
        unfold Val.flat.flats at e
        split at e
        · rename_i a b ea eb
          cases e
          obtain ⟨h1, h2⟩ := hi 0 w y rfl rfl a ea
          obtain ⟨h3, h4⟩ := ih xs b (by simpa using hl) (fun i v x e1 e2 => hi (i + 1) v x (by simpa using e1) (by simpa using e2)) eb
          exact ⟨.cons h1 h3, by simp only [PyData.canLayAll0]; rw [h2, h4]; rfl⟩
        · cases e
  induction h with
  | im h => intro d e; simp only [Val.flat] at e; cases e; exact h.dp
  | il h g =>
    intro d e
    simp only [Val.flat] at e
    cases e
    obtain ⟨g1, g2⟩ := g.dp
    exact ⟨.lst (.of h) g1, by simp only [PyData.canLay0]; exact g2⟩
  | dk h g => intro d e; simp [Val.flat] at e
  | dt h g => intro d e; simp [Val.flat] at e
  | ob h hk hl g ih => intro d e; simp [Val.flat] at e
  | dv h hk g ih => intro d e; simp [Val.flat] at e
  | dw h hk g ih => intro d e; simp [Val.flat] at e
  | any => intro d e; simp [Val.flat] at e
  | @tup a xs vs h hl g ih =>
    intro d e
    simp only [Val.flat] at e
    cases q : Val.flat.flats vs with
    | none => rw [q] at e; cases e
    | some ds =>
      rw [q] at e; cases e
      obtain ⟨h1, h2⟩ := all xs vs ds hl ih q
      exact ⟨.tup h h1, by simp only [PyData.canLay0]; exact h2⟩
  | @lst a xs vs h hl g ih =>
    intro d e
    simp only [Val.flat] at e
    cases q : Val.flat.flats vs with
    | none => rw [q] at e; cases e
    | some ds =>
      rw [q] at e; cases e
      obtain ⟨h1, h2⟩ := all xs vs ds hl ih q
      exact ⟨.lst (.of h) h1, by simp only [PyData.canLay0]; exact h2⟩
theorem bor_hid {K : PySem.W.Frag} {st : Option Addr} {H : Hp} {v : V} {x : Val} (h : Bor K (hid st H) v x) : Bor K H v x := h.mono (hid_same st H)

section
variable {X : Cx} {W : WX} {st : Option Addr} {pos : Pos}
/-- == of any data; one side is at most 64 deep -/
def rEqW (K : PySem.W.Frag) (n : Bool) : R2 := fun x y H Q => ∃ d e, Dp K H x d ∧ Dp K H y e ∧ d.canLay0 = true ∧ e.canLay0 = true ∧ min d.depth e.depth ≤ 64 ∧ Q (.bl (if n then !PyData.eqv d e else PyData.eqv d e)) H
theorem op_eqW (hu : X.A.units + 64 < cLine) : OpR X (compareOp .Eq) (rEqW X.K false) := by
  intro pins s σ H x y v u Q I rx ry h
  obtain ⟨d, e, hd, he, sd, se, hm, q⟩ := h
  obtain ⟨as, r1⟩ := Dp.reads I d x v hd rx
  obtain ⟨bs, r2⟩ := Dp.reads I e y u he ry
  exact SeqAt.compareEq_reads r1 r2 sd se (by omega) ⟨.bl _, H, I, rfl, q⟩
theorem op_neW (hu : X.A.units + 64 < cLine) : OpR X (compareOp .NotEq) (rEqW X.K true) := by
  intro pins s σ H x y v u Q I rx ry h
  obtain ⟨d, e, hd, he, sd, se, hm, q⟩ := h
  obtain ⟨as, r1⟩ := Dp.reads I d x v hd rx
  obtain ⟨bs, r2⟩ := Dp.reads I e y u he ry
  exact SeqAt.compareNe_reads r1 r2 sd se (by omega) ⟨.bl _, H, I, rfl, q⟩
def oEq (n : Bool) (x y : Val) : Option Val := match x.flat, y.flat with
  | some d, some e => if min d.depth e.depth ≤ 64 then some (.im (.bl (if n then !PyData.eqv d e else PyData.eqv d e))) else none
  | _, _ => none
theorem op2_eq {n : Bool} : Op2 X st (rEqW X.K n) (oEq n) := by
  intro H va vb xa xb y Q ha hb e q
  unfold oEq at e
  split at e
  · rename_i d d' e1 e2
    split at e
    · rename_i hl
      cases e
      obtain ⟨h1, h2⟩ := bor_dp (bor_hid ha) d e1
      obtain ⟨h3, h4⟩ := bor_dp (bor_hid hb) d' e2
      exact ⟨d, d', h1, h3, h2, h4, hl, q _ H [] (Same.refl H) (.im (.bl _)) List.nodup_nil (fun _ z => by cases z)⟩
    · cases e
  · cases e
@[simp] def eEq := eBin (oEq false)
@[simp] def eNe := eBin (oEq true)
theorem fe_eq {a b : Expr} {ma mb : ME} (hu : X.A.units + 64 < cLine) (ha : RE X W st a ma) (hb : RE X W st b mb) : FE X W st (.Compare a [.Eq] [b] pos) (eEq ma mb) := fe_cmp (op_eqW hu) op2_eq ha hb
theorem fe_ne {a b : Expr} {ma mb : ME} (hu : X.A.units + 64 < cLine) (ha : RE X W st a ma) (hb : RE X W st b mb) : FE X W st (.Compare a [.NotEq] [b] pos) (eNe ma mb) := fe_cmp (op_neW hu) op2_eq ha hb
@[simp] def tEq := tCp (oEq false)
@[simp] def tNe := tCp (oEq true)
theorem rt_eq {a b : Expr} {ma mb : ME} (hu : X.A.units + 64 < cLine) (ha : RE X W st a ma) (hb : RE X W st b mb) : RT X W st (.Compare a [.Eq] [b] pos) (tEq ma mb) := rt_cmp (op_eqW hu) op2_eq ha hb
theorem rt_ne {a b : Expr} {ma mb : ME} (hu : X.A.units + 64 < cLine) (ha : RE X W st a ma) (hb : RE X W st b mb) : RT X W st (.Compare a [.NotEq] [b] pos) (tNe ma mb) := rt_cmp (op_neW hu) op2_eq ha hb

/-! ### <, <=, >, >= of ints -/
/-- < of data that are alike place by place -/
def rLtD (K : PySem.W.Frag) : R2 := fun x y H Q => ∃ d e, Dp K H x d ∧ Dp K H y e ∧ PySem.W.alike d e = true ∧ d ≠ .none ∧ min d.depth e.depth ≤ 64 ∧ Q (.bl (PySem.W.dataLt d e)) H
theorem op_ltD (hu : X.A.units + 64 < cLine) : OpR X (compareOp .Lt) (rLtD X.K) := by
  intro pins s σ H x y v u Q I rx ry h
  obtain ⟨d, e, hd, he, al, nn, hm, q⟩ := h
  obtain ⟨as, r1⟩ := Dp.reads I d x v hd rx
  obtain ⟨bs, r2⟩ := Dp.reads I e y u he ry
  exact PySem.W.rcLt_alike d e X.A s v u as bs r1 r2 al nn (by omega) X.prog X.w _ _ ⟨.bl _, H, I, rfl, q⟩
def nnD : PyData → Bool
  | .none => false
  | _ => true
def oLt (x y : Val) : Option Val := match x.flat, y.flat with
  | some d, some e => if PySem.W.alike d e && nnD d && decide (min d.depth e.depth ≤ 64) then some (.im (.bl (PySem.W.dataLt d e))) else none
  | _, _ => none
theorem op2_ltD : Op2 X st (rLtD X.K) oLt := by
  intro H va vb xa xb y Q ha hb e q
  unfold oLt at e
  split at e
  · rename_i d d' e1 e2
    split at e
    · rename_i hl
      cases e
      simp only [Bool.and_eq_true, decide_eq_true_eq] at hl
      obtain ⟨h1, h2⟩ := bor_dp (bor_hid ha) d e1
      obtain ⟨h3, h4⟩ := bor_dp (bor_hid hb) d' e2
      exact ⟨d, d', h1, h3, hl.1.1, fun c => by rw [c] at hl; exact absurd hl.1.2 (by decide), hl.2, q _ H [] (Same.refl H) (.im (.bl _)) List.nodup_nil (fun _ z => by cases z)⟩
    · cases e
  · cases e
@[simp] theorem oLt_int (i j : Int) : oLt (.im (.int i)) (.im (.int j)) = some (.im (.bl (decide (i < j)))) := by
  simp [oLt, Val.flat, T.py, PySem.W.alike, nnD, PyData.depth, PySem.W.dataLt_int]
theorem oLt_str (i j : Str) : oLt (.im (.str i)) (.im (.str j)) = some (.im (.bl (decide (i.cps.toList < j.cps.toList)))) := by
  simp [oLt, Val.flat, T.py, PySem.W.alike, nnD, PyData.depth, PySem.W.dataLt_str]
abbrev oLe := oII (fun i j => .bl (decide (i ≤ j))) fun _ _ => true
abbrev oGt := oII (fun i j => .bl (decide (j < i))) fun _ _ => true
abbrev oGe := oII (fun i j => .bl (decide (j ≤ i))) fun _ _ => true
theorem fe_lt {a b : Expr} {ma mb : ME} (hu : X.A.units + 64 < cLine) (ha : RE X W st a ma) (hb : RE X W st b mb) : FE X W st (.Compare a [.Lt] [b] pos) (eBin oLt ma mb) := fe_cmp (op_ltD hu) op2_ltD ha hb
theorem fe_le {a b : Expr} {ma mb : ME} (ha : RE X W st a ma) (hb : RE X W st b mb) : FE X W st (.Compare a [.LtE] [b] pos) (eBin oLe ma mb) := fe_cmp op_le op2_B0 ha hb
theorem fe_gt {a b : Expr} {ma mb : ME} (ha : RE X W st a ma) (hb : RE X W st b mb) : FE X W st (.Compare a [.Gt] [b] pos) (eBin oGt ma mb) := fe_cmp op_gt op2_B0 ha hb
theorem fe_ge {a b : Expr} {ma mb : ME} (ha : RE X W st a ma) (hb : RE X W st b mb) : FE X W st (.Compare a [.GtE] [b] pos) (eBin oGe ma mb) := fe_cmp op_ge op2_B0 ha hb
theorem rt_lt {a b : Expr} {ma mb : ME} (hu : X.A.units + 64 < cLine) (ha : RE X W st a ma) (hb : RE X W st b mb) : RT X W st (.Compare a [.Lt] [b] pos) (tCp oLt ma mb) := rt_cmp (op_ltD hu) op2_ltD ha hb
theorem rt_le {a b : Expr} {ma mb : ME} (ha : RE X W st a ma) (hb : RE X W st b mb) : RT X W st (.Compare a [.LtE] [b] pos) (tCp oLe ma mb) := rt_cmp op_le op2_B0 ha hb
theorem rt_gt {a b : Expr} {ma mb : ME} (ha : RE X W st a ma) (hb : RE X W st b mb) : RT X W st (.Compare a [.Gt] [b] pos) (tCp oGt ma mb) := rt_cmp op_gt op2_B0 ha hb
theorem rt_ge {a b : Expr} {ma mb : ME} (ha : RE X W st a ma) (hb : RE X W st b mb) : RT X W st (.Compare a [.GtE] [b] pos) (tCp oGe ma mb) := rt_cmp op_ge op2_B0 ha hb

/-! ### is None, is True -/
@[simp] def oIsN (n : Bool) (x _y : Val) : Option Val := match x with
  | .im .non => some (.im (.bl (!n)))
  | .any => none
  | _ => some (.im (.bl n))
theorem op2_isN : Op2 X st (fun x y H Q => y = .non ∧ Q (.bl (decide (x = .non))) H) (fun x y => match y with | .im .non => oIsN false x y | _ => none) := by
  intro H va vb xa xb y Q ha hb e q
  dsimp only at e
  split at e
  · cases hb with
    | im hb =>
      cases hb
      refine ⟨rfl, ?_⟩
      have fin : ∀ k, y = .im (.bl k) → Q (.bl k) H := fun k e => q _ H [] (Same.refl H) (by rw [e]; exact .im (.bl _)) List.nodup_nil (fun _ z => by cases z)
      cases ha with
      | im ha =>
        cases ha <;> (simp only [oIsN] at e; cases e; exact fin _ rfl)
      | any => simp only [oIsN] at e; cases e
      | _ => simp only [oIsN] at e; cases e; exact fin _ rfl
  · cases e
theorem op2_notN : Op2 X st (fun x y H Q => y = .non ∧ Q (.bl (!decide (x = .non))) H) (fun x y => match y with | .im .non => oIsN true x y | _ => none) := by
  intro H va vb xa xb y Q ha hb e q
  dsimp only at e
  split at e
  · cases hb with
    | im hb =>
      cases hb
      refine ⟨rfl, ?_⟩
      have fin : ∀ k, y = .im (.bl k) → Q (.bl k) H := fun k e => q _ H [] (Same.refl H) (by rw [e]; exact .im (.bl _)) List.nodup_nil (fun _ z => by cases z)
      cases ha with
      | im ha =>
        cases ha <;> (simp only [oIsN] at e; cases e; exact fin _ rfl)
      | any => simp only [oIsN] at e; cases e
      | _ => simp only [oIsN] at e; cases e; exact fin _ rfl
  · cases e
abbrev oIs : Val → Val → Option Val := fun x y => match y with | .im .non => oIsN false x y | _ => none
abbrev oIsnt : Val → Val → Option Val := fun x y => match y with | .im .non => oIsN true x y | _ => none
theorem fe_is {a b : Expr} {ma mb : ME} (ha : RE X W st a ma) (hb : RE X W st b mb) : FE X W st (.Compare a [.Is] [b] pos) (eBin oIs ma mb) := fe_cmp op_isN op2_isN ha hb
theorem rt_is {a b : Expr} {ma mb : ME} (ha : RE X W st a ma) (hb : RE X W st b mb) : RT X W st (.Compare a [.Is] [b] pos) (tCp oIs ma mb) := rt_cmp op_isN op2_isN ha hb
theorem fe_isnt {a b : Expr} {ma mb : ME} (ha : RE X W st a ma) (hb : RE X W st b mb) : FE X W st (.Compare a [.IsNot] [b] pos) (eBin oIsnt ma mb) := fe_cmp op_notN op2_notN ha hb
theorem rt_isnt {a b : Expr} {ma mb : ME} (ha : RE X W st a ma) (hb : RE X W st b mb) : RT X W st (.Compare a [.IsNot] [b] pos) (tCp oIsnt ma mb) := rt_cmp op_notN op2_notN ha hb

/-! ### in -/
def rInW (K : PySem.W.Frag) (n : Bool) : R2 := fun x y H Q => ∃ d ds, Dp K H x d ∧ (Dp K H y (.list ds) ∨ Dp K H y (.tuple ds)) ∧ d.canLay0 = true ∧ PyData.canLayAll0 ds = true ∧ min (PyData.depthAll ds) d.depth ≤ 64 ∧ Q (.bl (if n then !(ds.any fun z => PyData.eqv z d) else ds.any fun z => PyData.eqv z d)) H
theorem op_inW (hu : X.A.units + 65 < cLine) : OpR X (compareOp .In) (rInW X.K false) := by
  intro pins s σ H x y v u Q I rx ry h
  obtain ⟨d, ds, hd, he, sd, se, hm, q⟩ := h
  obtain ⟨as, r1⟩ := Dp.reads I d x v hd rx
  rcases he with he | he
  · obtain ⟨bs, r2⟩ := Dp.reads I _ y u he ry
    exact SeqAt.in_list_reads r2 r1 se sd (by omega) ⟨.bl _, H, I, rfl, q⟩
  · obtain ⟨bs, r2⟩ := Dp.reads I _ y u he ry
    exact SeqAt.in_tuple_reads r2 r1 se sd (by omega) ⟨.bl _, H, I, rfl, q⟩
theorem op_notInW (hu : X.A.units + 65 < cLine) : OpR X (compareOp .NotIn) (rInW X.K true) := by
  intro pins s σ H x y v u Q I rx ry h
  obtain ⟨d, ds, hd, he, sd, se, hm, q⟩ := h
  obtain ⟨as, r1⟩ := Dp.reads I d x v hd rx
  rcases he with he | he
  · obtain ⟨bs, r2⟩ := Dp.reads I _ y u he ry
    exact SeqAt.notIn_list_reads r2 r1 se sd (by omega) ⟨.bl _, H, I, rfl, q⟩
  · obtain ⟨bs, r2⟩ := Dp.reads I _ y u he ry
    exact SeqAt.notIn_tuple_reads r2 r1 se sd (by omega) ⟨.bl _, H, I, rfl, q⟩
end
end MM

/-! ME: in, places, slices, types, lengths, tests. -/
namespace MM
open PySem PySem.Spec PyProof.Rows L2

/-! ### keys -/
def kT : Key → T
  | .inl i => .int i
  | .inr x => .str x
def T.key? : T → Option Key
  | .int i => some (.inl i)
  | .str x => some (.inr x)
  | _ => none
def keys? : List T → Option (List Key)
  | [] => some []
  | t :: ts => match t.key?, keys? ts with
    | some k, some ks => some (k :: ks)
    | _, _ => none
theorem rep_key {K : PySem.W.Frag} {H : Hp} {v : V} {t : T} {k : Key} (h : RepT K H v t) (e : t.key? = some k) : v = kV k := by
  cases h <;> simp [T.key?] at e <;> subst e <;> rfl
theorem rep_keys {K : PySem.W.Frag} {H : Hp} : ∀ {ts : List T} {vs : List V} {ks : List Key}, RepTs K H vs ts → keys? ts = some ks → vs = ks.map kV
  | [], _, _, h, e => by cases h; cases e; rfl
  | t :: ts, _, _, h, e => by
    cases h with
    | cons h1 h2 =>
      unfold keys? at e
      split at e
      · rename_i k ks e1 e2
        cases e
        rw [rep_key h1 e1, rep_keys h2 e2]; rfl
      · cases e
/-- the value at a key, of any kind -/
def lookV {κ : Type} [DecidableEq κ] (kvs : List (κ × Val)) (k : κ) : Option Val := (kvs.find? fun kv => decide (kv.1 = k)).map (·.2)
/-- where a key stands -/
def idxV {κ : Type} [DecidableEq κ] (kvs : List (κ × Val)) (k : κ) : Option Nat := kvs.findIdx? fun kv => decide (kv.1 = k)
theorem repV_look {κ : Type} [DecidableEq κ] (k : κ) : ∀ {xs : List (κ × V)} {kvs : List (κ × Val)}, xs.map (·.1) = kvs.map (·.1) → (lookV kvs k = none → valV xs k = none ∧ idxV kvs k = none) ∧ ∀ y, lookV kvs k = some y → ∃ n v, (xs.map (·.2))[n]? = some v ∧ (kvs.map (·.2))[n]? = some y ∧ valV xs k = some v ∧ idxV kvs k = some n
  | [], [], _ => ⟨fun _ => ⟨rfl, rfl⟩, fun y e => by simp [lookV] at e⟩
  | [], _ :: _, h => by cases h
  | _ :: _, [], h => by cases h
  | q :: xs, p :: kvs, h => by
    simp only [List.map_cons, List.cons.injEq] at h
    obtain ⟨h1, h2⟩ := h
    obtain ⟨i1, i2⟩ := repV_look k h2
    unfold lookV idxV at *
    rw [List.find?_cons, List.findIdx?_cons]
    by_cases c : p.1 = k
    · rw [decide_eq_true c]
      refine ⟨fun e => (by cases e), fun y e => ?_⟩
      simp only [Option.map_some, Option.some.injEq] at e
      subst e
      exact ⟨0, q.2, rfl, rfl, valV_pos (h1.trans c), by simp⟩
    · rw [decide_eq_false c]
      dsimp only
      refine ⟨fun e => ?_, fun y e => ?_⟩
      · obtain ⟨j1, j2⟩ := i1 e
        exact ⟨by rw [valV_neg (fun z => c (h1.symm.trans z))]; exact j1, by rw [j2]; rfl⟩
      · obtain ⟨n, v, j1, j2, j3, j4⟩ := i2 y e
        exact ⟨n + 1, v, by simpa using j1, by simpa using j2, by rw [valV_neg (fun z => c (h1.symm.trans z))]; exact j3, by rw [j4]; rfl⟩
/-- the value at a key -/
def look {κ : Type} [DecidableEq κ] (kvs : List (κ × T)) (k : κ) : Option T := (kvs.find? fun kv => decide (kv.1 = k)).map (·.2)
theorem repK_look {K : PySem.W.Frag} {H : Hp} {κ : Type} [DecidableEq κ] (k : κ) : ∀ {vs : List (κ × V)} {ts : List (κ × T)}, RepK K H vs ts → match look ts k with
    | some t => ∃ v, valV vs k = some v ∧ RepT K H v t
    | none => valV vs k = none := by
  intro vs ts h
  obtain ⟨h1, h2⟩ := h
  induction ts generalizing vs with
  | nil =>
    have : vs = [] := by cases vs; rfl; cases h1
    subst this
    rfl
  | cons p ts ih =>
    cases vs with
    | nil => cases h1
    | cons q vs =>
      simp only [List.map_cons] at h1 h2
      injection h1 with e1 e2
      cases h2 with
      | cons g1 g2 =>
        unfold look
        rw [List.find?_cons]
        by_cases c : p.1 = k
        · rw [decide_eq_true c]
          exact ⟨q.2, valV_pos (e1.trans c), g1⟩
        · rw [decide_eq_false c]
          have := ih e2 g2
          rw [valV_neg (fun z => c (e1.symm.trans z))]
          exact this

section
variable {X : Cx} {W : WX} {st : Option Addr} {pos : Pos}
/-- a tuple of ints and texts is a key -/
theorem key_ofW {pins : List (Addr × Obj)} {σ : L2.St} {H : Hp} {s : Shared} {b : Addr} {ks : List Key} (I : Inv X pins σ H s) (h : SqT X.K H b (ks.map kV)) : (tupleKind (mixKind X.prog X.w)).is s.heap ks b := by
  obtain ⟨its, r, ⟨o, h1, h2, n, h3⟩, _⟩ := I.tuple h
  exact ⟨o, its.toArray, n, h1, h2, h3, by simpa using items_are r⟩
/-- what a dict holds -/
def DG (K : PySem.W.Frag) (H : Hp) (a : Addr) (y : V) (r : Option V) : Prop :=
  (∃ kvs k, Rd H a (.dK kvs) ∧ y = kV k ∧ r = valV kvs k) ∨ ∃ kvs k b, Rd H a (.dT kvs) ∧ y = .ref b ∧ SqT K H b (k.map kV) ∧ r = valV kvs k
def rDIn (K : PySem.W.Frag) (n : Bool) : R2 := fun y x H Q => ∃ a o, x = .ref a ∧ DG K H a y o ∧ Q (.bl (if n then !o.isSome else o.isSome)) H
theorem op_inDict (hu : X.A.units + 1 < cLine) : OpR X (compareOp .In) (rDIn X.K false) := by
  intro pins s σ H y x u v Q I ry rx h
  obtain ⟨a, o, rfl, g, q⟩ := h
  cases rx
  rcases g with ⟨kvs, k, e, ey, l⟩ | ⟨kvs, k, b, e, ey, eb, l⟩
  · subst ey
    obtain ⟨z, hd, vs, rel, dd⟩ := dk_rd I.hok e
    refine wpAny_in_of (kV_is ry) hd dd.mapOf ?_
    rw [← (rel.val k).isSome_eq, ← l]
    exact ⟨.bl _, H, I.tok _, rfl, q⟩
  · subst ey
    cases (show u = Value.ref b from ry)
    obtain ⟨z, hd, xs, rel, dd⟩ := dt_rd I.hok e
    refine wpAny_in_heap (tupleKind_room_in1 hu) (key_ofW I eb) hd dd ?_
    have q' := (rel.val k).isSome_eq
    rw [Option.isSome_map] at q'
    rw [← q', ← l]
    exact ⟨.bl _, H, I.tok _, rfl, q⟩
theorem op_notInDict (hu : X.A.units + 1 < cLine) : OpR X (compareOp .NotIn) (rDIn X.K true) := by
  intro pins s σ H y x u v Q I ry rx h
  obtain ⟨a, o, rfl, g, q⟩ := h
  cases rx
  rcases g with ⟨kvs, k, e, ey, l⟩ | ⟨kvs, k, b, e, ey, eb, l⟩
  · subst ey
    obtain ⟨z, hd, vs, rel, dd⟩ := dk_rd I.hok e
    refine wpAny_notIn_of (kV_is ry) hd dd.mapOf ?_
    rw [← (rel.val k).isSome_eq, ← l]
    exact ⟨.bl _, H, I.tok _, rfl, q⟩
  · subst ey
    cases (show u = Value.ref b from ry)
    obtain ⟨z, hd, xs, rel, dd⟩ := dt_rd I.hok e
    refine wpAny_notIn_heap (tupleKind_room_in1 hu) (key_ofW I eb) hd dd ?_
    have q' := (rel.val k).isSome_eq
    rw [Option.isSome_map] at q'
    rw [← q', ← l]
    exact ⟨.bl _, H, I.tok _, rfl, q⟩
def rStrIn (n : Bool) : R2 := fun x y H Q => ∃ (c : Nat) (z : Str), x = .str ⟨#[c]⟩ ∧ y = .str z ∧ Q (.bl (if n then !decide (c ∈ z.cps.toList) else decide (c ∈ z.cps.toList))) H
abbrev rInAll (K : PySem.W.Frag) (n : Bool) : R2 := fun x y H Q => rInW K n x y H Q ∨ rDIn K n x y H Q ∨ rStrIn n x y H Q
theorem op_inAll (hu : X.A.units + 65 < cLine) : OpR X (compareOp .In) (rInAll X.K false) := (op_inW hu).or ((op_inDict (by omega)).or op_in_sign)
theorem op_notInAll (hu : X.A.units + 65 < cLine) : OpR X (compareOp .NotIn) (rInAll X.K true) := (op_notInW hu).or ((op_notInDict (by omega)).or op_notIn_sign)
@[simp] def oIn (n : Bool) (x y : Val) : Option Val := match y with
  | .im (.tup ts) => match x with
    | .im t => if min (depS ts) t.dep ≤ 64 then some (.im (.bl (if n then !(ts.any fun z => T.eqv z t) else ts.any fun z => T.eqv z t))) else none
    | _ => none
  | .il ts => match x with
    | .im t => if min (depS ts) t.dep ≤ 64 then some (.im (.bl (if n then !(ts.any fun z => T.eqv z t) else ts.any fun z => T.eqv z t))) else none
    | _ => none
  | .dk kvs => match x with
    | .im t => match t.key? with
      | some k => some (.im (.bl (if n then !(look kvs k).isSome else (look kvs k).isSome)))
      | none => none
    | _ => none
  | .dt kvs => match x with
    | .im (.tup ts) => match keys? ts with
      | some k => some (.im (.bl (if n then !(look kvs k).isSome else (look kvs k).isSome)))
      | none => none
    | _ => none
  | .im (.str z) => match x with
    | .im (.str c) => if c.length = 1 then some (.im (.bl (if n then !decide (c.cps.getD 0 0 ∈ z.cps.toList) else decide (c.cps.getD 0 0 ∈ z.cps.toList)))) else none
    | _ => none
  | .dv kvs => match x with
    | .im t => match t.key? with
      | some k => some (.im (.bl (if n then !(lookV kvs k).isSome else (lookV kvs k).isSome)))
      | none => none
    | _ => none
  | .dw kvs => match x with
    | .im (.tup ts) => match keys? ts with
      | some k => some (.im (.bl (if n then !(lookV kvs k).isSome else (lookV kvs k).isSome)))
      | none => none
    | _ => none
  | _ => none
theorem any_pys (ts : List T) (t : T) : ((T.pys ts).any fun z => PyData.eqv z t.py) = ts.any fun z => T.eqv z t := by
  rw [pys_map, List.any_map]; rfl
theorem str_one {c : Str} (h : c.length = 1) : c = ⟨#[c.cps.getD 0 0]⟩ := by
  obtain ⟨cps⟩ := c
  have h' : cps.size = 1 := h
  obtain ⟨l⟩ := cps
  simp only [List.size_toArray] at h'
  match l, h' with
  | [a], _ => rfl
theorem sq_none {K : PySem.W.Frag} {H : Hp} {κ : Type} [DecidableEq κ] {vs : List (κ × V)} {ts : List (κ × T)} (k : κ) (h : RepK K H vs ts) : (valV vs k).isSome = (look ts k).isSome := by
  have := repK_look k h
  cases e : look ts k with
  | none => rw [e] at this; rw [this]; rfl
  | some t => rw [e] at this; obtain ⟨v, q, _⟩ := this; rw [q]; rfl
theorem sq_noneV {κ : Type} [DecidableEq κ] {vs : List (κ × V)} {ts : List (κ × Val)} (k : κ) (h : vs.map (·.1) = ts.map (·.1)) : (valV vs k).isSome = (lookV ts k).isSome := by
  obtain ⟨h1, h2⟩ := repV_look k h
  cases e : lookV ts k with
  | none => rw [(h1 e).1]; rfl
  | some t => obtain ⟨n, v, _, _, q, _⟩ := h2 t e; rw [q]; rfl
theorem rd_hid {st : Option Addr} {H : Hp} {a : Addr} {u : HO} (h : Rd (hid st H) a u) : Rd H a u := h.elim (fun q => .inl (not_hid q)) fun ⟨o, q⟩ => .inr ⟨o, not_hid q⟩
theorem op2_in {n : Bool} : Op2 X st (rInAll X.K n) (oIn n) := by
  intro H va vb xa xb y Q ha hb e q
  have fin : ∀ k, y = .im (.bl k) → Q (.bl k) H := fun k e => q _ H [] (Same.refl H) (by rw [e]; exact .im (.bl _)) List.nodup_nil (fun _ z => by cases z)
  unfold oIn at e
  split at e
  · rename_i ts
    split at e
    · rename_i t
      split at e
      · rename_i hm
        cases e
        have hb' := bor_hid hb
        have ha' := bor_hid ha
        cases ha' with
        | im ha' =>
          obtain ⟨d1, c1⟩ := ha'.dp
          obtain ⟨d2, c2⟩ := bor_dp hb' (.tuple (T.pys ts)) (by simp only [Val.flat, T.py])
          have c2' : PyData.canLayAll0 (T.pys ts) = true := by simpa only [PyData.canLay0] using c2
          exact .inl ⟨_, _, d1, .inr d2, c1, c2', hm, by rw [any_pys]; exact fin _ rfl⟩
      · cases e
    · cases e
  · rename_i ts
    split at e
    · rename_i t
      split at e
      · rename_i hm
        cases e
        have hb' := bor_hid hb
        have ha' := bor_hid ha
        cases ha' with
        | im ha' =>
          obtain ⟨d1, c1⟩ := ha'.dp
          obtain ⟨d2, c2⟩ := bor_dp hb' (.list (T.pys ts)) (by simp only [Val.flat])
          have c2' : PyData.canLayAll0 (T.pys ts) = true := by simpa only [PyData.canLay0] using c2
          exact .inl ⟨_, _, d1, .inl d2, c1, c2', hm, by rw [any_pys]; exact fin _ rfl⟩
      · cases e
    · cases e
  · rename_i kvs
    split at e
    · rename_i t
      split at e
      · rename_i k ek
        cases e
        cases ha with
        | im ha =>
          cases hb with
          | @dk b xs _ hb rb =>
            exact .inr (.inl ⟨b, _, rfl, .inl ⟨xs, k, rd_hid hb, rep_key ha ek, rfl⟩, by rw [sq_none k rb]; exact fin _ rfl⟩)
      · cases e
    · cases e
  · rename_i kvs
    split at e
    · rename_i ts
      split at e
      · rename_i k ek
        cases e
        cases ha with
        | im ha =>
          cases ha with
          | @tup b1 xs1 _ h1 h2 =>
            cases hb with
            | @dt b xs _ hb rb =>
              have ek' := rep_keys h2 ek
              subst ek'
              exact .inr (.inl ⟨b, _, rfl, .inr ⟨xs, k, b1, rd_hid hb, rfl, sqt_hid h1, rfl⟩, by rw [sq_none k rb]; exact fin _ rfl⟩)
      · cases e
    · cases e
  · rename_i z
    split at e
    · rename_i c
      split at e
      · rename_i hc
        cases e
        obtain ⟨rfl, _⟩ := bor_str ha
        obtain ⟨rfl, _⟩ := bor_str hb
        exact .inr (.inr ⟨c.cps.getD 0 0, z, by rw [← str_one hc], rfl, fin _ rfl⟩)
      · cases e
    · cases e
  · rename_i kvs
    split at e
    · rename_i t
      split at e
      · rename_i k ek
        cases e
        cases ha with
        | im ha =>
          cases hb with
          | @dv b xs _ hb rk g =>
            refine .inr (.inl ⟨b, _, rfl, .inl ⟨xs, k, rd_hid hb, rep_key ha ek, rfl⟩, ?_⟩)
            rw [sq_noneV k rk]; exact fin _ rfl
      · cases e
    · cases e
  · rename_i kvs
    split at e
    · rename_i ts
      split at e
      · rename_i k ek
        cases e
        cases ha with
        | im ha =>
          cases ha with
          | @tup b1 xs1 _ h1 h2 =>
            cases hb with
            | @dw b xs _ hb rk g =>
              have ek' := rep_keys h2 ek
              subst ek'
              refine .inr (.inl ⟨b, _, rfl, .inr ⟨xs, k, b1, rd_hid hb, rfl, sqt_hid h1, rfl⟩, ?_⟩)
              rw [sq_noneV k rk]; exact fin _ rfl
      · cases e
    · cases e
  · cases e
theorem fe_in {a b : Expr} {ma mb : ME} (hu : X.A.units + 65 < cLine) (ha : RE X W st a ma) (hb : RE X W st b mb) (hm : behindInMarks .In b = false := by rfl) : FE X W st (.Compare a [.In] [b] pos) (eBin (oIn false) ma mb) := fe_cmp (op_inAll hu) op2_in ha hb hm
theorem rt_in {a b : Expr} {ma mb : ME} (hu : X.A.units + 65 < cLine) (ha : RE X W st a ma) (hb : RE X W st b mb) (hm : behindInMarks .In b = false := by rfl) : RT X W st (.Compare a [.In] [b] pos) (tCp (oIn false) ma mb) := rt_cmp (op_inAll hu) op2_in ha hb hm
theorem fe_nin {a b : Expr} {ma mb : ME} (hu : X.A.units + 65 < cLine) (ha : RE X W st a ma) (hb : RE X W st b mb) (hm : behindInMarks .NotIn b = false := by rfl) : FE X W st (.Compare a [.NotIn] [b] pos) (eBin (oIn true) ma mb) := fe_cmp (op_notInAll hu) op2_in ha hb hm
theorem rt_nin {a b : Expr} {ma mb : ME} (hu : X.A.units + 65 < cLine) (ha : RE X W st a ma) (hb : RE X W st b mb) (hm : behindInMarks .NotIn b = false := by rfl) : RT X W st (.Compare a [.NotIn] [b] pos) (tCp (oIn true) ma mb) := rt_cmp (op_notInAll hu) op2_in ha hb hm

/-! ### a[b] -/
def rIxD (K : PySem.W.Frag) : R2 := fun x y H Q => ∃ a v, x = .ref a ∧ DG K H a y (some v) ∧ Q v H
theorem ix_dict (hu : X.A.units + 1 < cLine) : IxR X (rIxD X.K) := by
  intro value slice pins s σ H x y v u Q I rx ry h hs
  obtain ⟨a, z, rfl, g, q⟩ := h
  cases rx
  have hT : s.TypeIs (.ref a) "dict" := by
    rcases g with ⟨kvs, k, e, _, _⟩ | ⟨kvs, k, b, e, _, _, _⟩
    · obtain ⟨_, _, vs, _, dd⟩ := dk_rd I.hok e
      exact dd.typeIs
    · obtain ⟨_, _, xs, _, dd⟩ := dt_rd I.hok e
      exact dd.typeIs
  have go : wpAny (model X.prog X.w) X.A (getItem (.ref a) u) (EP X pins σ Q) X.xe s := by
    rcases g with ⟨kvs, k, e, ey, l⟩ | ⟨kvs, k, b, e, ey, eb, l⟩
    · subst ey
      obtain ⟨_, hd, vs, rel, dd⟩ := dk_rd I.hok e
      obtain ⟨w', hw, rw'⟩ := RelO.some_of (v := z) (o := valueAt vs k) (by rw [l]; exact rel.val k)
      exact wpAny_getItem_of (kV_is ry) dd.mapOf hw ⟨z, H, I.tok _, rw', q⟩
    · subst ey
      cases (show u = Value.ref b from ry)
      obtain ⟨_, hd, xs, rel, dd⟩ := dt_rd I.hok e
      obtain ⟨w', hw, rw'⟩ := RelO.some_of (v := z) (o := (atKey xs k).map (·.2)) (by rw [l]; exact rel.val k)
      obtain ⟨p, hp, hp2⟩ := Option.map_eq_some_iff.mp hw
      refine wpAny_getItem_heap (tupleKind_room_in1 hu) (key_ofW I eb) dd hp ?_
      rw [hp2]
      exact ⟨z, H, I.tok _, rw', q⟩
  unfold subscriptTail
  refine wpAny_bind ?_
  rw [getitemInPython_of_ne hT.not_modules]
  refine wpAny_bind (wpAny_specialOf hT PySem.F.slot_dict_getitem.lookup ?_)
  have fin : wpAny (model X.prog X.w) X.A (subscripted slice false (.ref a) u) (fun r s₃ => wpAny (model X.prog X.w) X.A (letTemporaryGo value (.ref a) r >>= fun _ => pure r) (EP X pins σ Q) X.xe s₃) X.xe s := by
    rw [hs]
    exact wpAny_operating (wpAny_mono go (fun r s₃ h₃ => wpAny_bind (wpAny_letTemporaryGo (wpAny_pure h₃))) fun _ _ x => x)
  first
    | exact wpAny_pure (wpAny_bind fin)
    | exact wpAny_bind (wpAny_pure (wpAny_bind fin))
    | exact wpAny_bind fin
abbrev rIxAll (K : PySem.W.Frag) : R2 := fun x y H Q => rIx K x y H Q ∨ rIxD K x y H Q
theorem ix_all (hu : X.A.units + 1 < cLine) : IxR X (rIxAll X.K) := ix_seq.or (ix_dict hu)
@[simp] def oIx (x y : Val) : Option Val := match x, y with
  | .im (.tup ts), .im (.int i) => (atI ts i).map .im
  | .im (.ls ts), .im (.int i) => (atI ts i).map .im
  | .il ts, .im (.int i) => (atI ts i).map .im
  | .tup vs, .im (.int i) => atI vs i
  | .lst vs, .im (.int i) => atI vs i
  | .im (.str z), .im (.int i) => (atI z.cps.toList i).map fun c => .im (.str ⟨#[c]⟩)
  | .dk kvs, .im t => match t.key? with
    | some k => (look kvs k).map .im
    | none => none
  | .dt kvs, .im (.tup ts) => match keys? ts with
    | some k => (look kvs k).map .im
    | none => none
  | .dv kvs, .im t => match t.key? with
    | some k => lookV kvs k
    | none => none
  | .dw kvs, .im (.tup ts) => match keys? ts with
    | some k => lookV kvs k
    | none => none
  | _, _ => none
theorem atI_rep {K : PySem.W.Frag} {H : Hp} {vs : List V} {ts : List T} {i : Int} {t : T} (r : RepTs K H vs ts) (h : atI ts i = some t) : ∃ v, atI vs i = some v ∧ RepT K H v t := by
  unfold atI at h ⊢
  rw [r.length]
  cases e : ixN ts.length i with
  | none => rw [e] at h; cases h
  | some j =>
    rw [e] at h
    exact r.get h
theorem atI_bor {K : PySem.W.Frag} {H : Hp} {xs : List V} {vs : List Val} {i : Int} {x : Val} (hl : xs.length = vs.length) (g : ∀ (i : Nat) v x, xs[i]? = some v → vs[i]? = some x → Bor K H v x) (h : atI vs i = some x) : ∃ v, atI xs i = some v ∧ Bor K H v x := by
  unfold atI at h ⊢
  rw [hl]
  cases e : ixN vs.length i with
  | none => rw [e] at h; cases h
  | some j =>
    rw [e] at h
    have h' : vs[j]? = some x := h
    obtain ⟨hj, _⟩ := List.getElem?_eq_some_iff.mp h'
    refine ⟨xs[j], List.getElem?_eq_getElem (by omega), g j _ x (List.getElem?_eq_getElem (by omega)) h'⟩
theorem strOk_mem {z : Str} {c : Nat} (h : PyData.strOk z = true) (hc : c ∈ z.cps.toList) : PyData.strOk ⟨#[c]⟩ = true := by
  unfold PyData.strOk at *
  have := (Array.all_eq_true_iff_forall_mem.mp h) c (by simpa using hc)
  simpa using this
theorem ixR {H : Hp} {va vb : V} {xa xb u : Val} {Q : VK} (ha : Bor X.K (hid st H) va xa) (hb : Bor X.K (hid st H) vb xb) (e : oIx xa xb = some u) (q : ∀ v, Bor X.K (hid st H) v u → Q v H) : rIxAll X.K va vb H Q := by
  unfold oIx at e
  split at e
  · rename_i ts i
    cases e1 : atI ts i with
    | none => rw [e1] at e; cases e
    | some t =>
      rw [e1] at e; cases e
      cases ha with
      | im ha =>
        cases ha with
        | @tup a xs _ h1 h2 =>
          have := bor_int hb
          subst this
          obtain ⟨v', g1, g2⟩ := atI_rep h2 e1
          exact .inl (.inr (.inl ⟨a, xs, i, v', rfl, rfl, sqt_hid h1, g1, q v' (.im g2)⟩))
  · rename_i ts i
    cases e1 : atI ts i with
    | none => rw [e1] at e; cases e
    | some t =>
      rw [e1] at e; cases e
      cases ha with
      | im ha =>
        cases ha with
        | @ls a o xs _ h1 h2 =>
          have := bor_int hb
          subst this
          obtain ⟨v', g1, g2⟩ := atI_rep h2 e1
          exact .inl (.inl ⟨a, xs, i, v', rfl, rfl, .inl (.inr ⟨o, not_hid h1⟩), g1, q v' (.im g2)⟩)
  · rename_i ts i
    cases e1 : atI ts i with
    | none => rw [e1] at e; cases e
    | some t =>
      rw [e1] at e; cases e
      cases ha with
      | @il a xs _ h1 h2 =>
        have := bor_int hb
        subst this
        obtain ⟨v', g1, g2⟩ := atI_rep h2 e1
        exact .inl (.inl ⟨a, xs, i, v', rfl, rfl, .of (not_hid h1), g1, q v' (.im g2)⟩)
  · rename_i vs i
    cases ha with
    | @tup a xs _ h1 hl g =>
      have := bor_int hb
      subst this
      obtain ⟨v', g1, g2⟩ := atI_bor hl g e
      exact .inl (.inr (.inl ⟨a, xs, i, v', rfl, rfl, sqt_hid h1, g1, q v' g2⟩))
  · rename_i vs i
    cases ha with
    | @lst a xs _ h1 hl g =>
      have := bor_int hb
      subst this
      obtain ⟨v', g1, g2⟩ := atI_bor hl g e
      exact .inl (.inl ⟨a, xs, i, v', rfl, rfl, .of (not_hid h1), g1, q v' g2⟩)
  · rename_i zz i
    cases e1 : atI zz.cps.toList i with
    | none => rw [e1] at e; cases e
    | some c =>
      rw [e1] at e; cases e
      obtain ⟨rfl, ok⟩ := bor_str ha
      have := bor_int hb
      subst this
      unfold sOk at ok
      simp only [Bool.and_eq_true, decide_eq_true_eq] at ok
      obtain ⟨j, _, hj, _⟩ := atI_get e1
      refine .inl (.inr (.inr ⟨zz, i, c, rfl, rfl, ok.2, e1, q _ (.im (.str _ ?_))⟩))
      unfold sOk
      rw [strOk_mem ok.1 (List.mem_of_getElem? hj)]
      show decide (1 ≤ sizeLine) = true
      decide
  · rename_i kvs t
    split at e
    · rename_i k ek
      cases e1 : look kvs k with
      | none => rw [e1] at e; cases e
      | some t =>
        rw [e1] at e; cases e
        cases hb with
        | im hb =>
          cases ha with
          | @dk b xs _ hd rb =>
            have := repK_look k rb
            rw [e1] at this
            obtain ⟨v', g1, g2⟩ := this
            exact .inr ⟨b, v', rfl, .inl ⟨xs, k, rd_hid hd, rep_key hb ek, g1.symm⟩, q v' (.im g2)⟩
    · cases e
  · rename_i kvs ts
    split at e
    · rename_i k ek
      cases e1 : look kvs k with
      | none => rw [e1] at e; cases e
      | some t =>
        rw [e1] at e; cases e
        cases hb with
        | im hb =>
          cases hb with
          | @tup b1 xs1 _ h1 h2 =>
            cases ha with
            | @dt b xs _ hd rb =>
              have := repK_look k rb
              rw [e1] at this
              obtain ⟨v', g1, g2⟩ := this
              have ek' := rep_keys h2 ek
              subst ek'
              exact .inr ⟨b, v', rfl, .inr ⟨xs, k, b1, rd_hid hd, rfl, sqt_hid h1, g1.symm⟩, q v' (.im g2)⟩
    · cases e
  · rename_i kvs t
    split at e
    · rename_i k ek
      cases hb with
      | im hb =>
        cases ha with
        | @dv b xs _ hd rk g =>
          obtain ⟨n, v', j1, j2, j3, _⟩ := (repV_look k rk).2 _ e
          exact .inr ⟨b, v', rfl, .inl ⟨xs, k, rd_hid hd, rep_key hb ek, j3.symm⟩, q v' (g n v' u j1 j2)⟩
    · cases e
  · rename_i kvs ts
    split at e
    · rename_i k ek
      cases hb with
      | im hb =>
        cases hb with
        | @tup b1 xs1 _ h1 h2 =>
          cases ha with
          | @dw b xs _ hd rk g =>
            obtain ⟨n, v', j1, j2, j3, _⟩ := (repV_look k rk).2 _ e
            have ek' := rep_keys h2 ek
            subst ek'
            exact .inr ⟨b, v', rfl, .inr ⟨xs, k, b1, rd_hid hd, rfl, sqt_hid h1, j3.symm⟩, q v' (g n v' u j1 j2)⟩
    · cases e
  · cases e
@[simp] def eIx := eBin oIx
theorem re_ix {a b : Expr} {ma mb : ME} (hu : X.A.units + 1 < cLine) (ha : RE X W st a ma) (hb : RE X W st b mb) (hs : PlainIx b := by exact fun _ _ => rfl) : RE X W st (.Subscript a b pos) (eIx ma mb) := by
  obtain ⟨ta, pa, fa⟩ := ha
  obtain ⟨tb, pb, fb⟩ := hb
  refine ⟨tOp _ ta tb, pe_ix (ix_all hu) pa pb hs, fun H0 B Ls G S z σ H Q h hq => ?_⟩
  refine fa H0 B Ls G S z σ H _ h (hq.bind fun x z1 H1 _ x1 hz1 hq1 v hv => ?_)
  refine fb H0 B Ls G S z1 σ H1 _ (h.grow x1 hz1) (hq1.bind fun y z2 H2 _ x2 hz2 hq2 w hw => ?_)
  cases e : oIx x y with
  | none => rw [e] at hq2; exact hq2.elim
  | some u =>
    rw [e] at hq2
    exact ixR (hv.mono x2.hid) hw e (Ct.ok hq2 hz2)
end
end MM

/-! MF: slices, built-in functions, tests, calls of the text's own defs. -/
namespace MM
open PySem PySem.Spec PyProof.Rows L2
section
variable {X : Cx} {W : WX} {st : Option Addr} {pos : Pos}

/-! ### a built-in's call -/
def Fn (X : Cx) (st : Option Addr) (r : List V → Hp → VK → Prop) (o : List Val → Option Val) : Prop := ∀ (H : Hp) (vs : List V) (xs : List Val) (y : Val) (Q : VK), BorS X.K (hid st H) vs xs → o xs = some y →
  (∀ v H' G', Same H H' → Own X.K H' v y G' → G'.Nodup → (∀ a ∈ G', H a = none) → Q v H') → r vs H Q
@[simp] def eFn (o : List Val → Option Val) (ms : MAs) : ME := fun S z => (ms S z).bind fun xs z => lft (o xs) z
theorem fe_callB {x : Str} {p : Pos} {e : Expr} {es : List Expr} {ms : MAs} {id : String} {r : List V → Hp → VK → Prop} {o : List Val → Option Val} (hc : CallR X (.builtin id) r) (sp : Fn X st r o) (hg : Gl X x) (hm : X.mg x = none) (hv : bootBuiltins x = some (.builtin id)) (ha : RA X W st (e :: es) ms)
    (hn : x ≠ "__name__" := by decide) (hdb : (x == ("__debug__" : Str)) = false := by decide)
    (he : starEach (e :: es) X.env = (false, eval e X.env) :: starEach es X.env := by rfl) (hpl : (backTo pos (starEach es X.env)).any (·.1) = false := by rfl) : FE X W st (.Call (.Name x p) (e :: es) [] pos) (eFn o ms) := by
  obtain ⟨t, pa, f⟩ := ha
  refine ⟨tCB r t, pe_callB hc hg hm hv pa hn hdb he hpl, fun H0 B Ls G S z σ H Q h hq => ?_⟩
  refine f H0 B Ls G S z σ H _ h (hq.bind fun xs z1 H1 _ x1 hz1 hq1 vs hvs => ?_)
  cases e1 : o xs with
  | none => rw [e1] at hq1; exact hq1.elim
  | some u =>
    rw [e1] at hq1
    exact sp H1 vs xs u Q hvs e1 fun v' H' G' s ow nd fr => Ct.fin (h.grow x1 hz1) hq1 s ow nd fr
theorem fe_callTy {x : Str} {p : Pos} {e : Expr} {es : List Expr} {ms : MAs} {id : String} {r : List V → Hp → VK → Prop} {o : List Val → Option Val} (hc : CallR X (.type id) r) (sp : Fn X st r o) (hg : Gl X x) (hm : X.mg x = none) (hv : bootBuiltins x = some (.type id)) (ha : RA X W st (e :: es) ms)
    (hn : x ≠ "__name__" := by decide) (hdb : (x == ("__debug__" : Str)) = false := by decide)
    (he : starEach (e :: es) X.env = (false, eval e X.env) :: starEach es X.env := by rfl) (hpl : (backTo pos (starEach es X.env)).any (·.1) = false := by rfl) : FE X W st (.Call (.Name x p) (e :: es) [] pos) (eFn o ms) := by
  obtain ⟨t, pa, f⟩ := ha
  refine ⟨tCB r t, pe_callTy hc hg hm hv pa hn hdb he hpl, fun H0 B Ls G S z σ H Q h hq => ?_⟩
  refine f H0 B Ls G S z σ H _ h (hq.bind fun xs z1 H1 _ x1 hz1 hq1 vs hvs => ?_)
  cases e1 : o xs with
  | none => rw [e1] at hq1; exact hq1.elim
  | some u =>
    rw [e1] at hq1
    exact sp H1 vs xs u Q hvs e1 fun v' H' G' s ow nd fr => Ct.fin (h.grow x1 hz1) hq1 s ow nd fr
theorem BorS.one {K : PySem.W.Frag} {H : Hp} {vs : List V} {x : Val} (h : BorS K H vs [x]) : ∃ v, vs = [v] ∧ Bor K H v x := by
  cases h with | cons h t => cases t; exact ⟨_, rfl, h⟩
theorem BorS.two {K : PySem.W.Frag} {H : Hp} {vs : List V} {x y : Val} (h : BorS K H vs [x, y]) : ∃ v w, vs = [v, w] ∧ Bor K H v x ∧ Bor K H w y := by
  cases h with | cons h t => cases t with | cons g t => cases t; exact ⟨_, _, rfl, h, g⟩
/-- int(n), int(flag) -/
@[simp] def oInt : List Val → Option Val
  | [.im (.int i)] => some (.im (.int i))
  | [.im (.bl b)] => some (.im (.int (if b then 1 else 0)))
  | _ => none
theorem fn_int : Fn X st (fun xs H Q => (∃ i, xs = [.int i] ∧ Q (.int i) H) ∨ ∃ k, xs = [.bl k] ∧ Q (.int (if k then 1 else 0)) H) oInt := by
  intro H vs xs y Q hv e q
  unfold oInt at e
  split at e
  · cases e
    obtain ⟨v, rfl, h⟩ := hv.one
    have := bor_int h
    subst this
    exact .inl ⟨_, rfl, q _ H [] (Same.refl H) (.im (.int _)) List.nodup_nil (fun _ z => by cases z)⟩
  · cases e
    obtain ⟨v, rfl, h⟩ := hv.one
    have := bor_bl h
    subst this
    exact .inr ⟨_, rfl, q _ H [] (Same.refl H) (.im (.int _)) List.nodup_nil (fun _ z => by cases z)⟩
  · cases e
@[simp] def oAbs : List Val → Option Val
  | [.im (.int i)] => some (.im (.int (if i < 0 then -i else i)))
  | _ => none
theorem fn_abs : Fn X st (fun xs H Q => ∃ i, xs = [.int i] ∧ Q (.int (if i < 0 then -i else i)) H) oAbs := by
  intro H vs xs y Q hv e q
  unfold oAbs at e
  split at e
  · cases e
    obtain ⟨v, rfl, h⟩ := hv.one
    have := bor_int h
    subst this
    exact ⟨_, rfl, q _ H [] (Same.refl H) (.im (.int _)) List.nodup_nil (fun _ z => by cases z)⟩
  · cases e
@[simp] def oMax : List Val → Option Val
  | [.im (.int i), .im (.int j)] => some (.im (.int (if j > i then j else i)))
  | _ => none
@[simp] def oMin : List Val → Option Val
  | [.im (.int i), .im (.int j)] => some (.im (.int (if j < i then j else i)))
  | _ => none
theorem fn_max : Fn X st (fun xs H Q => ∃ i j, xs = [.int i, .int j] ∧ Q (.int (if j > i then j else i)) H) oMax := by
  intro H vs xs y Q hv e q
  unfold oMax at e
  split at e
  · cases e
    obtain ⟨v, w, rfl, h, g⟩ := hv.two
    have := bor_int h
    have := bor_int g
    subst_vars
    exact ⟨_, _, rfl, q _ H [] (Same.refl H) (.im (.int _)) List.nodup_nil (fun _ z => by cases z)⟩
  · cases e
theorem fn_min : Fn X st (fun xs H Q => ∃ i j, xs = [.int i, .int j] ∧ Q (.int (if j < i then j else i)) H) oMin := by
  intro H vs xs y Q hv e q
  unfold oMin at e
  split at e
  · cases e
    obtain ⟨v, w, rfl, h, g⟩ := hv.two
    have := bor_int h
    have := bor_int g
    subst_vars
    exact ⟨_, _, rfl, q _ H [] (Same.refl H) (.im (.int _)) List.nodup_nil (fun _ z => by cases z)⟩
  · cases e
/-- len -/
@[simp] def oLen : List Val → Option Val
  | [.im (.ls ts)] => some (.im (.int ts.length))
  | [.im (.tup ts)] => some (.im (.int ts.length))
  | [.il ts] => some (.im (.int ts.length))
  | [.im (.str x)] => some (.im (.int x.length))
  | [.tup vs] => some (.im (.int vs.length))
  | [.lst vs] => some (.im (.int vs.length))
  | [.dk kvs] => some (.im (.int kvs.length))
  | [.dv kvs] => some (.im (.int kvs.length))
  | _ => none
theorem call_len_dict : CallR X (.builtin "len") (fun xs H Q => ∃ p kvs, xs = [.ref p] ∧ Rd H p (.dK kvs) ∧ Q (.int kvs.length) H) := by
  intro pins s σ H xs us Q I r h
  obtain ⟨p, kvs, rfl, hd, q⟩ := h
  obtain ⟨u, rfl, ru⟩ := Vals.one r
  obtain rfl : u = Value.ref p := ru
  exact d_len I hd fun t s' I' => ⟨.int _, H, I', ⟨t, rfl⟩, q⟩
abbrev rLenAll (K : PySem.W.Frag) : List V → Hp → VK → Prop := fun xs H Q => (∃ p ys, xs = [.ref p] ∧ (SqL K H p ys ∨ SqT K H p ys) ∧ Q (.int ys.length) H) ∨ (∃ z, xs = [.str z] ∧ z.length ≤ sizeLine ∧ Q (.int z.length) H) ∨ ∃ p kvs, xs = [.ref p] ∧ Rd H p (.dK kvs) ∧ Q (.int kvs.length) H
theorem call_lenAll : CallR X (.builtin "len") (rLenAll X.K) := call_len_seq.or (call_len_str.or call_len_dict)
theorem fn_len : Fn X st (rLenAll X.K) oLen := by
  intro H vs xs y Q hv e q
  have fin : ∀ n : Nat, y = .im (.int n) → Q (.int n) H := fun n e => q _ H [] (Same.refl H) (by rw [e]; exact .im (.int _)) List.nodup_nil (fun _ z => by cases z)
  unfold oLen at e
  split at e
  · cases e
    obtain ⟨v, rfl, h⟩ := hv.one
    cases h with | im h => cases h with | @ls a o xs _ h1 h2 => exact .inl ⟨_, _, rfl, .inl (.inl (.inr ⟨o, not_hid h1⟩)), by rw [h2.length]; exact fin _ rfl⟩
  · cases e
    obtain ⟨v, rfl, h⟩ := hv.one
    cases h with | im h => cases h with | tup h1 h2 => exact .inl ⟨_, _, rfl, .inr (sqt_hid h1), by rw [h2.length]; exact fin _ rfl⟩
  · cases e
    obtain ⟨v, rfl, h⟩ := hv.one
    cases h with | il h1 h2 => exact .inl ⟨_, _, rfl, .inl (.of (not_hid h1)), by rw [h2.length]; exact fin _ rfl⟩
  · cases e
    obtain ⟨v, rfl, h⟩ := hv.one
    obtain ⟨rfl, ok⟩ := bor_str h
    unfold sOk at ok
    simp only [Bool.and_eq_true, decide_eq_true_eq] at ok
    exact .inr (.inl ⟨_, rfl, ok.2, fin _ rfl⟩)
  · cases e
    obtain ⟨v, rfl, h⟩ := hv.one
    cases h with | tup h1 hl g => exact .inl ⟨_, _, rfl, .inr (sqt_hid h1), by rw [hl]; exact fin _ rfl⟩
  · cases e
    obtain ⟨v, rfl, h⟩ := hv.one
    cases h with | lst h1 hl g => exact .inl ⟨_, _, rfl, .inl (.of (not_hid h1)), by rw [hl]; exact fin _ rfl⟩
  · cases e
    obtain ⟨v, rfl, h⟩ := hv.one
    cases h with
    | dk h1 h2 =>
      have := congrArg List.length h2.1
      rw [List.length_map, List.length_map] at this
      exact .inr (.inr ⟨_, _, rfl, rd_hid h1, by rw [this]; exact fin _ rfl⟩)
  · cases e
    obtain ⟨v, rfl, h⟩ := hv.one
    cases h with
    | dv h1 h2 _ =>
      have := congrArg List.length h2
      rw [List.length_map, List.length_map] at this
      exact .inr (.inr ⟨_, _, rfl, rd_hid h1, by rw [this]; exact fin _ rfl⟩)
  · cases e
/-- tuple(xs), list(xs) -/
@[simp] def oTuple : List Val → Option Val
  | [.im (.tup ts)] => some (.im (.tup ts))
  | [.il ts] => some (.im (.tup ts))
  | _ => none
theorem fn_tuple : Fn X st (fun xs H Q => ∃ p ys, xs = [.ref p] ∧ ((SqL X.K H p ys ∧ ∀ l, H l = none → Q (.ref l) (upd H l (.tup ys))) ∨ (SqT X.K H p ys ∧ Q (.ref p) H))) oTuple := by
  intro H vs xs y Q hv e q
  unfold oTuple at e
  split at e
  · cases e
    obtain ⟨v, rfl, h⟩ := hv.one
    cases h with | im h => cases h with | tup h1 h2 => exact ⟨_, _, rfl, .inr ⟨sqt_hid h1, q _ H [] (Same.refl H) (.im (.tup (sqt_hid h1) (rep_hid h2))) List.nodup_nil (fun _ z => by cases z)⟩⟩
  · cases e
    obtain ⟨v, rfl, h⟩ := hv.one
    cases h with
    | il h1 h2 => exact ⟨_, _, rfl, .inl ⟨.of (not_hid h1), fun l nl => q _ _ [] (Same.upd_new nl) (.im (.tup (.inl (.inl upd_same)) ((rep_hid h2).mono (Le.of_same (Same.upd_new nl))))) List.nodup_nil (fun _ z => by cases z)⟩⟩
  · cases e
@[simp] def oList : List Val → Option Val
  | [.im (.tup ts)] => some (.il ts)
  | [.il ts] => some (.il ts)
  | _ => none
theorem fn_list : Fn X st (fun xs H Q => ∃ p ys, xs = [.ref p] ∧ (SqL X.K H p ys ∨ SqT X.K H p ys) ∧ ∀ l, H l = none → Q (.ref l) (upd H l (.lst ys))) oList := by
  intro H vs xs y Q hv e q
  unfold oList at e
  split at e
  · cases e
    obtain ⟨v, rfl, h⟩ := hv.one
    cases h with
    | im h => cases h with | tup h1 h2 => exact ⟨_, _, rfl, .inr (sqt_hid h1), fun l nl => q _ _ [l] (Same.upd_new nl) (.il upd_same ((rep_hid h2).mono (Le.of_same (Same.upd_new nl)))) (by simp) (fun a ha => by simp at ha; subst ha; exact nl)⟩
  · cases e
    obtain ⟨v, rfl, h⟩ := hv.one
    cases h with
    | il h1 h2 => exact ⟨_, _, rfl, .inl (.of (not_hid h1)), fun l nl => q _ _ [l] (Same.upd_new nl) (.il upd_same ((rep_hid h2).mono (Le.of_same (Same.upd_new nl)))) (by simp) (fun a ha => by simp at ha; subst ha; exact nl)⟩
  · cases e
@[simp] def eInt := eFn oInt
@[simp] def eAbs := eFn oAbs
@[simp] def eMax := eFn oMax
@[simp] def eMin := eFn oMin
@[simp] def eLen := eFn oLen
@[simp] def eTuple := eFn oTuple
@[simp] def eList := eFn oList
section
variable {p : Pos} {e : Expr} {es : List Expr} {ms : MAs}
theorem fe_len (hg : Gl X "len") (hm : X.mg "len" = none) (ha : RA X W st [e] ms) (he : starEach [e] X.env = (false, eval e X.env) :: starEach [] X.env := by rfl) : FE X W st (.Call (.Name "len" p) [e] [] pos) (eLen ms) := fe_callB call_lenAll fn_len hg hm PySem.boot_len ha (he := he)
theorem fe_int (hg : Gl X "int") (hm : X.mg "int" = none) (ha : RA X W st [e] ms) (he : starEach [e] X.env = (false, eval e X.env) :: starEach [] X.env := by rfl) : FE X W st (.Call (.Name "int" p) [e] [] pos) (eInt ms) := fe_callTy call_int1 fn_int hg hm (by decide +kernel) ha (he := he)
theorem fe_abs (hg : Gl X "abs") (hm : X.mg "abs" = none) (ha : RA X W st [e] ms) (he : starEach [e] X.env = (false, eval e X.env) :: starEach [] X.env := by rfl) : FE X W st (.Call (.Name "abs" p) [e] [] pos) (eAbs ms) := fe_callB call_abs fn_abs hg hm (by decide +kernel) ha (he := he)
theorem fe_tuple (hg : Gl X "tuple") (hm : X.mg "tuple" = none) (ha : RA X W st [e] ms) (he : starEach [e] X.env = (false, eval e X.env) :: starEach [] X.env := by rfl) : FE X W st (.Call (.Name "tuple" p) [e] [] pos) (eTuple ms) := fe_callTy call_tuple_of fn_tuple hg hm (by decide +kernel) ha (he := he)
theorem fe_list (hg : Gl X "list") (hm : X.mg "list" = none) (ha : RA X W st [e] ms) (he : starEach [e] X.env = (false, eval e X.env) :: starEach [] X.env := by rfl) : FE X W st (.Call (.Name "list" p) [e] [] pos) (eList ms) := fe_callTy call_list_of fn_list hg hm (by decide +kernel) ha (he := he)
theorem fe_max {e2 : Expr} (hc : X.calm = true) (hg : Gl X "max") (hm : X.mg "max" = none) (ha : RA X W st [e, e2] ms) (he : starEach [e, e2] X.env = (false, eval e X.env) :: starEach [e2] X.env := by rfl) (hpl : (backTo pos (starEach [e2] X.env)).any (·.1) = false := by rfl) : FE X W st (.Call (.Name "max" p) [e, e2] [] pos) (eMax ms) := fe_callB (call_max2 hc) fn_max hg hm (by decide +kernel) ha (he := he) (hpl := hpl)
theorem fe_min {e2 : Expr} (hc : X.calm = true) (hg : Gl X "min") (hm : X.mg "min" = none) (ha : RA X W st [e, e2] ms) (he : starEach [e, e2] X.env = (false, eval e X.env) :: starEach [e2] X.env := by rfl) (hpl : (backTo pos (starEach [e2] X.env)).any (·.1) = false := by rfl) : FE X W st (.Call (.Name "min" p) [e, e2] [] pos) (eMin ms) := fe_callB (call_min2 hc) fn_min hg hm (by decide +kernel) ha (he := he) (hpl := hpl)
end

/-! ### isinstance -/
inductive Ty where
  | int | bool | str | tuple | list | dict
def Ty.nm : Ty → String
  | .int => "int" | .bool => "bool" | .str => "str" | .tuple => "tuple" | .list => "list" | .dict => "dict"
@[simp] def isi (c : Ty) (x : Val) : Bool := match c, x with
  | .int, .im (.int _) => true
  | .int, .im (.bl _) => true
  | .bool, .im (.bl _) => true
  | .str, .im (.str _) => true
  | .tuple, .im (.tup _) => true
  | .tuple, .tup _ => true
  | .list, .il _ => true
  | .list, .im (.ls _) => true
  | .list, .lst _ => true
  | .dict, .dk _ => true
  | .dict, .dt _ => true
  | .dict, .dv _ => true
  | .dict, .dw _ => true
  | _, _ => false
def tyN : Val → String
  | .im .non => "NoneType" | .im (.bl _) => "bool" | .im (.int _) => "int" | .im (.str _) => "str" | .im (.tup _) => "tuple" | .im (.ls _) => "list"
  | .il _ => "list" | .lst _ => "list" | .tup _ => "tuple" | .dk _ => "dict" | .dt _ => "dict" | .dv _ => "dict" | .dw _ => "dict" | .ob _ _ => "NoneType" | .any => "NoneType"
theorem kit_facts : ∀ c : Ty, kitB "NoneType" c.nm = some false ∧ kitB "bool" c.nm = some (match c with | .int | .bool => true | _ => false) ∧ kitB "int" c.nm = some (match c with | .int => true | _ => false) ∧
    kitB "str" c.nm = some (match c with | .str => true | _ => false) ∧ kitB "tuple" c.nm = some (match c with | .tuple => true | _ => false) ∧ kitB "list" c.nm = some (match c with | .list => true | _ => false) ∧ kitB "dict" c.nm = some (match c with | .dict => true | _ => false) := by
  intro c
  cases c <;> decide +kernel
theorem isi_kit (c : Ty) (x : Val) : kitB (tyN x) c.nm = some (isi c x) := by
  obtain ⟨h0, h1, h2, h3, h4, h5, h6⟩ := kit_facts c
  cases x with
  | im t => cases t <;> (unfold tyN; first | (rw [h0]; cases c <;> rfl) | (rw [h1]; cases c <;> rfl) | (rw [h2]; cases c <;> rfl) | (rw [h3]; cases c <;> rfl) | (rw [h4]; cases c <;> rfl) | (rw [h5]; cases c <;> rfl))
  | il ts => unfold tyN; rw [h5]; cases c <;> rfl
  | lst ts => unfold tyN; rw [h5]; cases c <;> rfl
  | tup ts => unfold tyN; rw [h4]; cases c <;> rfl
  | dk ts => unfold tyN; rw [h6]; cases c <;> rfl
  | dt ts => unfold tyN; rw [h6]; cases c <;> rfl
  | dv ts => unfold tyN; rw [h6]; cases c <;> rfl
  | dw ts => unfold tyN; rw [h6]; cases c <;> rfl
  | ob k ts => unfold tyN; rw [h0]; cases c <;> rfl
  | any => unfold tyN; rw [h0]; cases c <;> rfl
/-- its type is known by its form -/
@[simp] def hasTy : Val → Bool
  | .dt _ => false
  | .dw _ => false
  | .ob _ _ => false
  | .any => false
  | _ => true
theorem sqt_ty {K : PySem.W.Frag} {H : Hp} {a : Addr} {xs : List V} (h : SqT K H a xs) : TyX K H (.ref a) (.type "tuple") := by
  rcases h with (h | ⟨o, h⟩) | ⟨o, its, n, h, hc, _⟩
  · exact .base (.tup h)
  · exact .fTuple h
  · exact .kTuple h hc
theorem bor_ty {K : PySem.W.Frag} {H : Hp} {v : V} {x : Val} (h : Bor K H v x) (ne : hasTy x = true) : TyX K H v (.type (tyN x)) := by
  cases h with
  | im h =>
    cases h with
    | non => exact (.base .non)
    | bl b => exact (.base (.bl b))
    | int i => exact (.base (.int i))
    | str x _ => exact (.base (.str x))
    | tup h1 _ => exact (sqt_ty h1)
    | ls h1 _ => exact (.base (.frz h1))
  | il h _ => exact (.base (.lst h))
  | lst h _ _ => exact (.base (.lst h))
  | tup h _ _ => exact (sqt_ty h)
  | dk h _ =>
    rcases h with h | ⟨o, h⟩
    · exact (.base (.dK h))
    · exact (.fDict h)
  | dv h _ _ =>
    rcases h with h | ⟨o, h⟩
    · exact (.base (.dK h))
    · exact (.fDict h)
  | dt h _ => cases ne
  | dw h _ _ => cases ne
  | ob h _ _ _ => cases ne
  | any => cases ne
@[simp] def eIsi (c : Ty) (m : ME) : ME := fun S z => (m S z).bind fun x z => match x with
  | .dt _ => .no
  | .dw _ => .no
  | .ob _ _ => .no
  | .any => .no
  | x => .ok (.im (.bl (isi c x))) z
theorem fe_isi (c : Ty) {x : Str} {p q : Pos} {e : Expr} {m : ME} (hg : Gl X "isinstance") (hm : X.mg "isinstance" = none) (hg2 : Gl X x) (hm2 : X.mg x = none) (hv2 : bootBuiltins x = some (.type c.nm)) (ha : RE X W st e m) (hn : x ≠ "__name__" := by decide) (hd : (x == ("__debug__" : Str)) = false := by decide)
    (he : starEach [e, .Name x q] X.env = (false, eval e X.env) :: starEach [.Name x q] X.env := by rfl) (hpl : (backTo pos (starEach [.Name x q] X.env)).any (·.1) = false := by rfl) (he2 : starEach [Expr.Name x q] X.env = (false, eval (.Name x q) X.env) :: starEach [] X.env := by rfl) : FE X W st (.Call (.Name "isinstance" p) [e, .Name x q] [] pos) (eIsi c m) := by
  obtain ⟨t, pa, f⟩ := ha
  refine ⟨tCB (rIsi X.K) (tCons t (tCons (tC (.ty c.nm)) tNil)), pe_callB call_isi hg hm (by decide +kernel) (pa_cons pa (pa_cons (pe_bltn hg2 hm2 hv2 rfl hn hd) pa_nil he2) he) (he := he) (hpl := hpl), fun H0 B Ls G S z σ H Q h hq => ?_⟩
  refine f H0 B Ls G S z σ H _ h (hq.bind fun y z1 H1 _ x1 hz1 hq1 v hv => ?_)
  have go : hasTy y = true → Ct X W st σ H1 (.ok (.im (.bl (isi c y))) z1) (fun x z' H' => ∀ (v : V) (G' : List Addr), Own X.K H' v x G' → Stt X.K st H0 B Ls (G' ++ G) S z' σ H' → Q v H') → rIsi X.K [v, .ty c.nm] H1 Q := fun ne hq1 => by
    refine ⟨v, .ty c.nm, .type (tyN y), .type c.nm, isi c y, rfl, ?_, ?_, kit_ty (isi_kit c y), ?_⟩
    · first | exact .ty _ | exact ClsV.ty | constructor
    · exact bor_ty (bor_hid hv) ne
    · exact hq1.ok hz1 _ [] (.im (.bl _)) (h.grow x1 hz1)
  cases y with
  | dt ts => exact hq1.elim
  | dw ts => exact hq1.elim
  | ob k ts => exact hq1.elim
  | any => exact hq1.elim
  | im u => exact go rfl hq1
  | il u => exact go rfl hq1
  | dk u => exact go rfl hq1
  | dv u => exact go rfl hq1
  | tup u => exact go rfl hq1
  | lst u => exact go rfl hq1

/-! ### slices -/
abbrev MPo := List Sv → Zs → Rs (Option Int)
def RPo (X : Cx) (W : WX) (st : Option Addr) (e : Option Expr) (m : MPo) : Prop := ∃ t, PO X e t ∧ ∀ H0 B Ls G S z σ H Q, Stt X.K st H0 B Ls G S z σ H →
  Ct X W st σ H (m S z) (fun x z' H' => Q x H') → t σ H Q
@[simp] def pNone : MPo := fun _ z => .ok none z
@[simp] def asI (x : Val) (z : Zs) : Rs (Option Int) := match x with
  | .im (.int i) => .ok (some i) z
  | _ => .no
@[simp] def pSome (m : ME) : MPo := fun S z => (m S z).bind asI
theorem rpo_none : RPo X W st none pNone := ⟨tNoPart, po_none, fun H0 B Ls G S z σ H Q h hq => hq.ok h.zr⟩
theorem rpo_some {e : Expr} {m : ME} (he : RE X W st e m) : RPo X W st (some e) (pSome m) := by
  obtain ⟨t, p, f⟩ := he
  refine ⟨tPart t, po_some p, fun H0 B Ls G S z σ H Q h hq => ?_⟩
  refine f H0 B Ls G S z σ H _ h (hq.bind fun x z1 H1 _ x1 hz1 hq1 v hv => ?_)
  unfold asI at hq1
  split at hq1
  · have := bor_int hv
    subst this
    exact ⟨_, rfl, Ct.ok (k := fun x z' H' => Q x H') hq1 hz1⟩
  · exact hq1.elim

/-- the whole of a tuple is the tuple itself -/
def rSlTw (K : PySem.W.Frag) : V → Option Int → Option Int → Hp → VK → Prop := fun x lo hi H Q => ∃ a xs, x = .ref a ∧ SqT K H a xs ∧ (HT.sIx xs.length 0 lo = 0 ∧ HT.sIx xs.length xs.length hi = xs.length) ∧ Q (.ref a) H
theorem whole_tup {prog : Program} {w : World} {A : Around} {E : Value → Shared → Prop} {s : Shared} {t sl : Addr} {items : Array Value} {vl vu : Value} {lo hi : Option Int} {Q : Value → Shared → Prop} (ht : IsTup s.heap t items) (hs : s.heap.IsSliceOf sl vl vu .none) (pl : IsPart vl lo) (pu : IsPart vu hi)
    (hw : HT.sIx items.size 0 lo = 0 ∧ HT.sIx items.size items.size hi = items.size) (h : Q (.ref t) s) : wpAny (model prog w) A (getItem (.ref t) (.ref sl)) Q E s := by
  obtain ⟨os, hos, hcs, hds⟩ := id hs
  have hTs : s.TypeIs (.ref sl) "slice" := ⟨os, hos, hcs⟩
  unfold getItem
  try with_reducible refine wpAny_holding ?_
  first | refine wpAny_bind (wpAny_pure ?_) | skip
  refine wpAny_bind (wpAny_sequenceKey ht.typeIs (by decide) ?_)
  refine wpAny_bind (wpAny_callSpecial?_slot (name := Str.ofString "__getitem__") ht.typeIs PyProof.Rows.slot_tuple_getitem
    (wpAny_call_entry PyProof.Rows.slot_tuple_getitem ht.typeIs entry_tuple_getitem ?_ (args_tuple_getitem _ _)))
  show wpAny _ _ (Builtin.Tuple.tupleItemsOf (.ref t) >>= _) _ _ s
  refine wpAny_bind (tupleItemsOf_ ht ?_)
  refine wpAny_bind (wpAny_typeOf hTs ?_)
  rw [if_pos (by decide)]
  refine wpAny_bind (HT.sliceApplied_gen hs pl pu ?_)
  have yes : (((HT.sIx items.size 0 lo : Nat) : Int) == 0 && (1 : Int) == 1 && (HT.sIx items.size items.size hi - HT.sIx items.size 0 lo) == items.size) = true := by
    rw [hw.1, hw.2]
    simp
  show wpAny _ _ (if (((HT.sIx items.size 0 lo : Nat) : Int) == 0 && (1 : Int) == 1 && (HT.sIx items.size items.size hi - HT.sIx items.size 0 lo) == items.size) = true then _ else _) _ _ s
  rw [if_pos yes]
  have hx : wpAny (model prog w) A.in1 (Builtin.Tuple.tupleIsExact (.ref t)) (fun b s' => b = true ∧ s' = s) E s := by
    unfold Builtin.Tuple.tupleIsExact
    exact wpAny_bind (wpAny_typeOf ht.typeIs (wpAny_pure ⟨by decide, rfl⟩))
  refine wpAny_bind (thn hx fun b s' hb => ?_)
  obtain ⟨rfl, rfl⟩ := hb
  rw [if_pos rfl]
  exact wpAny_bind (wpAny_rule (wpAny_pure ⟨_, rfl, wpAny_pure h⟩))
theorem sl_tupw : SlR X (rSlTw X.K) := by
  intro pins s σ H x v vl vu lo hi sl Q I rx hs pl pu h
  obtain ⟨a, xs, rfl, hx, hw, q⟩ := h
  cases rx
  obtain ⟨its, r, ht, hz⟩ := I.tuple hx
  have hlen : its.toArray.size = xs.length := by rw [List.size_toArray]; exact r.length.symm
  refine ⟨"tuple", _, PyProof.Rows.slot_tuple_getitem.lookup, ht.typeIs, ?_⟩
  exact whole_tup ht hs pl pu (by rw [hlen]; exact hw) ⟨.ref a, H, I, rfl, q⟩
abbrev rSlAll (K : PySem.W.Frag) : V → Option Int → Option Int → Hp → VK → Prop := fun x lo hi H Q => rSlT K x lo hi H Q ∨ rSlTw K x lo hi H Q ∨ rSlL K x lo hi H Q ∨ rSlS x lo hi H Q
theorem sl_all : SlR X (rSlAll X.K) := sl_tup.or (sl_tupw.or (sl_list.or sl_str))
/-- the items of ts[lo:hi] -/
def cut {α : Type} (xs : List α) (lo hi : Option Int) : List α := (xs.drop (HT.sIx xs.length 0 lo)).take (HT.sIx xs.length xs.length hi - HT.sIx xs.length 0 lo)
@[simp] def oSl (x : Val) (lo hi : Option Int) : Option Val := match x with
  | .im (.tup ts) => some (.im (.tup (cut ts lo hi)))
  | .il ts => some (.il (cut ts lo hi))
  | .im (.str z) => some (.im (.str (cutS z lo hi)))
  | .im (.ls ts) => some (.il (cut ts lo hi))
  | _ => none
theorem rep_cut {K : PySem.W.Frag} {H : Hp} {vs : List V} {ts : List T} (h : RepTs K H vs ts) (lo hi : Option Int) : RepTs K H (cutV vs lo hi) (cut ts lo hi) := by
  unfold cutV cut
  rw [h.length]
  exact (h.drop _).take _
theorem sOk_cut {z : Str} (h : sOk z = true) (lo hi : Option Int) : sOk (cutS z lo hi) = true := by
  unfold sOk at *
  simp only [Bool.and_eq_true, decide_eq_true_eq] at *
  refine ⟨?_, Nat.le_trans (cutS_length z lo hi) h.2⟩
  have h1 := h.1
  unfold PyData.strOk at *
  rw [Array.all_eq_true_iff_forall_mem] at *
  intro c hc
  refine h1 c ?_
  have : c ∈ ((z.cps.toList.drop (HT.sIx z.length 0 lo)).take (HT.sIx z.length z.length hi - HT.sIx z.length 0 lo)) := by
    have hc' := Array.mem_toList_iff.mpr hc
    exact hc'
  exact Array.mem_toList_iff.mp (List.mem_of_mem_drop (List.mem_of_mem_take this))
@[simp] def eSl (m : ME) (ml mh : MPo) : ME := fun S z => (m S z).bind fun x z => (ml S z).bind fun lo z => (mh S z).bind fun hi z => lft (oSl x lo hi) z
theorem fe_sl {e : Expr} {lo hi : Option Expr} {p2 : Pos} {m : ME} {ml mh : MPo} (he : RE X W st e m) (hl : RPo X W st lo ml) (hh : RPo X W st hi mh) : FE X W st (.Subscript e (.Slice lo hi none p2) pos) (eSl m ml mh) := by
  obtain ⟨t, p, f⟩ := he
  obtain ⟨tl, pl, fl⟩ := hl
  obtain ⟨th, ph, fh⟩ := hh
  refine ⟨tSl _ t tl th, pe_slice sl_all p pl ph, fun H0 B Ls G S z σ H Q h hq => ?_⟩
  refine f H0 B Ls G S z σ H _ h (hq.bind fun x z1 H1 _ x1 hz1 hq1 v hv => ?_)
  have h1 := h.grow x1 hz1
  refine fl H0 B Ls G S z1 σ H1 _ h1 (hq1.bind fun lo z2 H2 _ x2 hz2 hq2 => ?_)
  have h2 := h1.grow x2 hz2
  refine fh H0 B Ls G S z2 σ H2 _ h2 (hq2.bind fun hi z3 H3 _ x3 hz3 hq3 => ?_)
  have h3 := h2.grow x3 hz3
  have hv := (hv.mono x2.hid).mono x3.hid
  cases x with
  | im u =>
    cases u with
    | tup ts =>
      cases hv with
      | im hv =>
        cases hv with
        | @tup a xs _ s1 s2 =>
          by_cases c : HT.sIx xs.length 0 lo = 0 ∧ HT.sIx xs.length xs.length hi = xs.length
          · refine .inr (.inl ⟨a, xs, rfl, sqt_hid s1, c, ?_⟩)
            refine Ct.fin h3 hq3 (v := .ref a) (G' := []) (Same.refl H3) (.im ?_) List.nodup_nil (fun _ z => by cases z)
            have e : cut ts lo hi = ts := by
              unfold cut
              rw [← s2.length, c.1, c.2, List.drop_zero, Nat.sub_zero, s2.length, List.take_length]
            rw [e]
            exact .tup (sqt_hid s1) (rep_hid s2)
          · refine .inl ⟨a, xs, rfl, sqt_hid s1, c, fun p np => ?_⟩
            exact Ct.fin h3 hq3 (v := .ref p) (G' := []) (Same.upd_new np) (.im (.tup (.inl (.inl upd_same)) ((rep_hid (rep_cut s2 lo hi)).mono (Le.of_same (Same.upd_new np))))) List.nodup_nil (fun _ z => by cases z)
    | str zz =>
      obtain ⟨rfl, ok⟩ := bor_str hv
      have ok2 := ok
      unfold sOk at ok2
      simp only [Bool.and_eq_true, decide_eq_true_eq] at ok2
      exact .inr (.inr (.inr ⟨zz, rfl, ok2.2, Ct.fin h3 hq3 (G' := []) (Same.refl H3) (.im (.str _ (sOk_cut ok lo hi))) List.nodup_nil (fun _ z => by cases z)⟩))
    | ls ts =>
      cases hv with
      | im hv =>
        cases hv with
        | @ls a o xs _ s1 s2 =>
          refine .inr (.inr (.inl ⟨a, xs, rfl, .inl (.inr ⟨o, not_hid s1⟩), fun p np => ?_⟩))
          exact Ct.fin h3 hq3 (v := .ref p) (G' := [p]) (Same.upd_new np) (.il upd_same ((rep_hid (rep_cut s2 lo hi)).mono (Le.of_same (Same.upd_new np)))) (by simp) (fun a ha => by simp at ha; subst ha; exact np)
    | _ => exact hq3.elim
  | il ts =>
    cases hv with
    | @il a xs _ s1 s2 =>
      refine .inr (.inr (.inl ⟨a, xs, rfl, .of (not_hid s1), fun p np => ?_⟩))
      exact Ct.fin h3 hq3 (v := .ref p) (G' := [p]) (Same.upd_new np) (.il upd_same ((rep_hid (rep_cut s2 lo hi)).mono (Le.of_same (Same.upd_new np)))) (by simp) (fun a ha => by simp at ha; subst ha; exact np)
  | _ => exact hq3.elim

/-! ### tests -/
@[simp] def tB' (m : ME) : MT := fun S z => (m S z).bind asB
theorem bor_asB {x : Val} {z z1 : Zs} {k : Bool} (h : asB x z = .ok k z1) : x = .im (.bl k) ∧ z1 = z := by
  unfold asB at h
  split at h
  · cases h; exact ⟨rfl, rfl⟩
  · cases h
/-- an expression whose value is a bool -/
theorem rt_val {e : Expr} {m : ME} (he : RE X W st e m) (hw : ∀ whole, isTrue e X.env whole = (do let v ← whole; standAt e.pos; holding [v] (truthy v)) := by intro _; rfl) : RT X W st e (tB' m) := by
  obtain ⟨t, p, f⟩ := he
  refine ⟨tB t, pt_val p hw, fun H0 B Ls G S z σ H Q h hq => ?_⟩
  refine f H0 B Ls G S z σ H _ h (hq.bind fun x z1 H1 _ x1 hz1 hq1 v hv => ?_)
  unfold asB at hq1
  split at hq1
  · exact ⟨_, bor_bl hv, Ct.ok (k := fun x z' H' => Q x H') hq1 hz1⟩
  · exact hq1.elim
/-- by its truth -/
@[simp] def tru (x : Val) (z : Zs) : Rs Bool := match x with
  | .im .non => .ok false z
  | .im (.bl b) => .ok b z
  | .im (.int i) => .ok (i != 0) z
  | .im (.str s) => .ok ((s.length : Int) != 0) z
  | .im (.tup ts) => .ok (!ts.isEmpty) z
  | .il ts => .ok (!ts.isEmpty) z
  | .lst ts => .ok (!ts.isEmpty) z
  | .im (.ls ts) => .ok (!ts.isEmpty) z
  | _ => .no
@[simp] def tTru (m : ME) : MT := fun S z => (m S z).bind tru
theorem isEmpty_len {α β : Type} : ∀ {xs : List α} {ys : List β}, xs.length = ys.length → xs.isEmpty = ys.isEmpty
  | [], [], _ => rfl
  | _ :: _, _ :: _, _ => rfl
theorem rt_tru {e : Expr} {m : ME} (he : RE X W st e m) (hw : ∀ whole, isTrue e X.env whole = (do let v ← whole; standAt e.pos; holding [v] (truthy v)) := by intro _; rfl) : RT X W st e (tTru m) := by
  obtain ⟨t, p, f⟩ := he
  refine ⟨_, pt_truth p hw, fun H0 B Ls G S z σ H Q h hq => ?_⟩
  refine f H0 B Ls G S z σ H _ h (hq.bind fun x z1 H1 _ x1 hz1 hq1 v hv => ?_)
  have hv := bor_hid hv
  unfold tru at hq1
  split at hq1
  · cases hv with | im hv => cases hv; exact ⟨_, rfl, Ct.ok (k := fun x z' H' => Q x H') hq1 hz1⟩
  · cases hv with | im hv => cases hv; exact ⟨_, rfl, Ct.ok (k := fun x z' H' => Q x H') hq1 hz1⟩
  · cases hv with | im hv => cases hv; exact ⟨_, rfl, Ct.ok (k := fun x z' H' => Q x H') hq1 hz1⟩
  · obtain ⟨rfl, ok⟩ := bor_str hv
    unfold sOk at ok
    simp only [Bool.and_eq_true, decide_eq_true_eq] at ok
    exact ⟨_, ⟨ok.2, rfl⟩, Ct.ok (k := fun x z' H' => Q x H') hq1 hz1⟩
  · cases hv with
    | im hv => cases hv with | @tup a xs _ h1 h2 => exact ⟨_, .inr (.inl ⟨xs, h1, by rw [isEmpty_len h2.length]⟩), Ct.ok (k := fun x z' H' => Q x H') hq1 hz1⟩
  · cases hv with
    | @il a xs _ h1 h2 => exact ⟨_, .inl ⟨xs, .of h1, by rw [isEmpty_len h2.length]⟩, Ct.ok (k := fun x z' H' => Q x H') hq1 hz1⟩
  · cases hv with
    | @lst a xs _ h1 hl h2 => exact ⟨_, .inl ⟨xs, .of h1, by rw [isEmpty_len hl]⟩, Ct.ok (k := fun x z' H' => Q x H') hq1 hz1⟩
  · cases hv with
    | im hv => cases hv with | @ls a o xs _ h1 h2 => exact ⟨_, .inl ⟨xs, .inl (.inr ⟨o, h1⟩), by rw [isEmpty_len h2.length]⟩, Ct.ok (k := fun x z' H' => Q x H') hq1 hz1⟩
  · exact hq1.elim
@[simp] def tNt (m : MT) : MT := fun S z => (m S z).bind fun b z => .ok (!b) z
theorem rt_not {e : Expr} {m : MT} (he : RT X W st e m) : RT X W st (.UnaryOp .Not e pos) (tNt m) := by
  obtain ⟨t, p, f⟩ := he
  refine ⟨tNot t, pt_not p, fun H0 B Ls G S z σ H Q h hq => ?_⟩
  exact f H0 B Ls G S z σ H _ h (hq.bind fun b z1 H1 _ x1 hz1 hq1 => Ct.ok (k := fun x z' H' => Q x H') hq1 hz1)
def RW (X : Cx) (W : WX) (st : Option Addr) (e : Expr) (m : MT) : Prop := ∃ t, PW X e t ∧ ∀ H0 B Ls G S z σ H Q, Stt X.K st H0 B Ls G S z σ H →
  Ct X W st σ H (m S z) (fun x z' H' => Q x H') → t σ H Q
theorem rt_rw {e : Expr} {m : MT} (h : RW X W st e m) : RT X W st e m := let ⟨t, p, f⟩ := h; ⟨t, p.pt, f⟩
@[simp] def tAn (a b : MT) : MT := fun S z => (a S z).bind fun c z => if c = true then b S z else .ok false z
@[simp] def tOr' (a b : MT) : MT := fun S z => (a S z).bind fun c z => if c = true then .ok true z else b S z
section
variable {a b : Expr} {ma mb : MT} {rest : List Expr}
theorem rw_and1 (ha : RT X W st a ma) : RW X W st (.BoolOp .And [a] pos) ma := let ⟨t, p, f⟩ := ha; ⟨t, pw_and1 p, f⟩
theorem rw_or1 (ha : RT X W st a ma) : RW X W st (.BoolOp .Or [a] pos) ma := let ⟨t, p, f⟩ := ha; ⟨t, pw_or1 p, f⟩
theorem rw_and (ha : RT X W st a ma) (hb : RW X W st (.BoolOp .And (b :: rest) pos) mb) : RW X W st (.BoolOp .And (a :: b :: rest) pos) (tAn ma mb) := by
  obtain ⟨t, p, f⟩ := ha
  obtain ⟨u, q, g⟩ := hb
  refine ⟨tAnd t u, pw_and p q, fun H0 B Ls G S z σ H Q h hq => ?_⟩
  refine f H0 B Ls G S z σ H _ h (hq.bind fun c z1 H1 _ x1 hz1 hq1 => ?_)
  cases c with
  | true => exact iteT (g H0 B Ls G S z1 σ H1 Q (h.grow x1 hz1) hq1)
  | false => exact iteF (Ct.ok (k := fun x z' H' => Q x H') hq1 hz1)
theorem rw_or (ha : RT X W st a ma) (hb : RW X W st (.BoolOp .Or (b :: rest) pos) mb) : RW X W st (.BoolOp .Or (a :: b :: rest) pos) (tOr' ma mb) := by
  obtain ⟨t, p, f⟩ := ha
  obtain ⟨u, q, g⟩ := hb
  refine ⟨tOr t u, pw_or p q, fun H0 B Ls G S z σ H Q h hq => ?_⟩
  refine f H0 B Ls G S z σ H _ h (hq.bind fun c z1 H1 _ x1 hz1 hq1 => ?_)
  cases c with
  | false => exact iteF (g H0 B Ls G S z1 σ H1 Q (h.grow x1 hz1) hq1)
  | true => exact iteT (Ct.ok (k := fun x z' H' => Q x H') hq1 hz1)
end
/-! .. as values -/
@[simp] def eNot (m : ME) : ME := fun S z => ((m S z).bind asB).bind fun b z => .ok (.im (.bl (!b))) z
@[simp] def eAn (a b : ME) : ME := fun S z => ((a S z).bind asB).bind fun c z => if c = true then b S z else .ok (.im (.bl false)) z
@[simp] def eOr (a b : ME) : ME := fun S z => ((a S z).bind asB).bind fun c z => if c = true then .ok (.im (.bl true)) z else b S z
theorem Ct.asB {α : Type} {σ : L2.St} {H : Hp} {r : Rs Val} {f : Bool → Zs → Rs α} {k : α → Zs → Hp → Prop} {k' : Val → Zs → Hp → Prop} (h : Ct X W st σ H ((r.bind MM.asB).bind f) k)
    (g : ∀ b z1 H1, SameX st H H1 → Zr X.K st z1 H1 → Ct X W st σ H1 (f b z1) k → k' (.im (.bl b)) z1 H1) : Ct X W st σ H r k' := by
  cases r with
  | ok x z =>
    simp only [Rs.bind_ok] at h
    unfold MM.asB at h
    split at h
    · exact fun H' x hz => g _ _ H' x hz (Ct.grow h x)
    · exact h.elim
  | ex c z => exact h
  | no => exact h
section
variable {a b : Expr} {ma mb : ME} {rest : List Expr}
theorem fe_not (ha : RE X W st a ma) : FE X W st (.UnaryOp .Not a pos) (eNot ma) := by
  obtain ⟨t, p, f⟩ := ha
  refine ⟨tNotV t, pe_not p, fun H0 B Ls G S z σ H Q h hq => ?_⟩
  refine f H0 B Ls G S z σ H _ h (Ct.asB hq fun c z1 H1 x1 hz1 hq1 v hv => ?_)
  exact ⟨c, bor_bl hv, Ct.fin (h.grow x1 hz1) hq1 (G' := []) (Same.refl H1) (.im (.bl _)) List.nodup_nil (fun _ z => by cases z)⟩
theorem fe_one {op} (ha : FE X W st a ma) : FE X W st (.BoolOp op [a] pos) ma := let ⟨t, p, f⟩ := ha; ⟨t, pe_one p, f⟩
theorem fe_and (ha : RE X W st a ma) (hb : FE X W st (.BoolOp .And (b :: rest) pos) mb) : FE X W st (.BoolOp .And (a :: b :: rest) pos) (eAn ma mb) := by
  obtain ⟨t, p, f⟩ := ha
  obtain ⟨u, q, g⟩ := hb
  refine ⟨tAndV t u, pe_and p q, fun H0 B Ls G S z σ H Q h hq => ?_⟩
  refine f H0 B Ls G S z σ H _ h (Ct.asB hq fun c z1 H1 x1 hz1 hq1 v hv => ⟨c, bor_bl hv, ?_⟩)
  cases c with
  | true => exact iteT (g H0 B Ls G S z1 σ H1 Q (h.grow x1 hz1) hq1)
  | false => exact iteF (Ct.fin (h.grow x1 hz1) hq1 (G' := []) (Same.refl H1) (.im (.bl _)) List.nodup_nil (fun _ z => by cases z))
theorem fe_or (ha : RE X W st a ma) (hb : FE X W st (.BoolOp .Or (b :: rest) pos) mb) : FE X W st (.BoolOp .Or (a :: b :: rest) pos) (eOr ma mb) := by
  obtain ⟨t, p, f⟩ := ha
  obtain ⟨u, q, g⟩ := hb
  refine ⟨tOrV t u, pe_or p q, fun H0 B Ls G S z σ H Q h hq => ?_⟩
  refine f H0 B Ls G S z σ H _ h (Ct.asB hq fun c z1 H1 x1 hz1 hq1 v hv => ⟨c, bor_bl hv, ?_⟩)
  cases c with
  | false => exact iteF (g H0 B Ls G S z1 σ H1 Q (h.grow x1 hz1) hq1)
  | true => exact iteT (Ct.fin (h.grow x1 hz1) hq1 (G' := []) (Same.refl H1) (.im (.bl _)) List.nodup_nil (fun _ z => by cases z))
@[simp] def eIf (c : MT) (a b : ME) : ME := fun S z => (c S z).bind fun k z => if k = true then a S z else b S z
theorem fe_if {c : Expr} {mc : MT} (hc : RT X W st c mc) (ha : FE X W st a ma) (hb : FE X W st b mb) : FE X W st (.IfExp c a b pos) (eIf mc ma mb) := by
  obtain ⟨t, p, f⟩ := hc
  obtain ⟨ta, pa, fa⟩ := ha
  obtain ⟨tb, pb, fb⟩ := hb
  refine ⟨tIf t ta tb, pe_ifExp p pa pb, fun H0 B Ls G S z σ H Q h hq => ?_⟩
  refine f H0 B Ls G S z σ H _ h (hq.bind fun c z1 H1 _ x1 hz1 hq1 => ?_)
  cases c with
  | true => exact iteT (fa H0 B Ls G S z1 σ H1 Q (h.grow x1 hz1) hq1)
  | false => exact iteF (fb H0 B Ls G S z1 σ H1 Q (h.grow x1 hz1) hq1)
end
/-! a < b < c, of ints -/
@[simp] def eCh (o o' : Val → Val → Option Val) (ma mb mc : ME) : ME := fun S z => (ma S z).bind fun x z => (mb S z).bind fun y z => ((lft (o x y) z).bind asB).bind fun k z =>
  if k = true then (mc S z).bind fun w z => lft (o' y w) z else .ok (.im (.bl false)) z
section
variable {a b c : Expr} {ma mb mc : ME} {op op' : CmpOp} {r r' : R2} {o o' : Val → Val → Option Val}
theorem chain_core (sp : Op2 X st r o) (sp' : Op2 X st r' o') {ta tb tc : TE}
    (fa : ∀ H0 B Ls G S z σ H Q, Stt X.K st H0 B Ls G S z σ H → Ct X W st σ H (ma S z) (fun x z' H' => ∀ v, Bor X.K (hid st H') v x → Q v H') → ta σ H Q)
    (fb : ∀ H0 B Ls G S z σ H Q, Stt X.K st H0 B Ls G S z σ H → Ct X W st σ H (mb S z) (fun x z' H' => ∀ v, Bor X.K (hid st H') v x → Q v H') → tb σ H Q)
    (fc : ∀ H0 B Ls G S z σ H Q, Stt X.K st H0 B Ls G S z σ H → Ct X W st σ H (mc S z) (fun x z' H' => ∀ v, Bor X.K (hid st H') v x → Q v H') → tc σ H Q)
    {H0 B Ls G S z σ H Q} (h : Stt X.K st H0 B Ls G S z σ H)
    (hq : Ct X W st σ H (eCh o o' ma mb mc S z) (fun x z' H' => ∀ v G', Own X.K H' v x G' → Stt X.K st H0 B Ls (G' ++ G) S z' σ H' → Q v H')) : tChain r r' ta tb tc σ H Q := by
  refine fa H0 B Ls G S z σ H _ h (hq.bind fun x z1 H1 _ x1 hz1 hq1 v hv => ?_)
  have h1 := h.grow x1 hz1
  refine fb H0 B Ls G S z1 σ H1 _ h1 (hq1.bind fun y z2 H2 _ x2 hz2 hq2 w hw => ?_)
  have h2 := h1.grow x2 hz2
  cases e : o x y with
  | none => rw [e] at hq2; exact hq2.elim
  | some u =>
    rw [e] at hq2
    refine sp H2 v w x y u _ (hv.mono x2.hid) hw e fun v' H' G' s ow nd fr => ?_
    have hz' := hz2.new s
    have h3 := h2.grow (.of_same s) hz'
    cases ow with
    | im rr =>
      cases rr with
      | bl k =>
        refine ⟨k, rfl, ?_⟩
        cases k with
        | false => exact iteF (Ct.fin (H1 := H') h3 (Ct.grow hq2 (.of_same s)) (G' := []) (Same.refl H') (.im (.bl _)) List.nodup_nil (fun _ z => by cases z))
        | true =>
          have hq3 : Ct X W st σ H' ((mc S z2).bind fun w z => lft (o' y w) z) (fun x z' H' => ∀ v G', Own X.K H' v x G' → Stt X.K st H0 B Ls (G' ++ G) S z' σ H' → Q v H') := Ct.grow hq2 (.of_same s)
          refine iteT (fc H0 B Ls G S z2 σ H' _ h3 (hq3.bind fun t z4 H4 _ x4 hz4 hq4 vt ht => ?_))
          cases e' : o' y t with
          | none => rw [e'] at hq4; exact hq4.elim
          | some u' =>
            rw [e'] at hq4
            exact sp' H4 w vt y t u' Q ((hw.mono (SameX.of_same (st := st) s).hid).mono x4.hid) ht e' fun v'' H'' G'' s' ow' nd' fr' => Ct.fin (h3.grow x4 hz4) hq4 s' ow' nd' fr'
      | _ => exact hq2.elim
    | _ => exact hq2.elim
theorem fe_chain (ho : OpR X (compareOp op) r) (ho' : OpR X (compareOp op') r') (sp : Op2 X st r o) (sp' : Op2 X st r' o') (ha : RE X W st a ma) (hb : RE X W st b mb) (hc : RE X W st c mc)
    (hm : lastMarks [op, op'] [b, c] = false := by with_unfolding_all rfl) : FE X W st (.Compare a [op, op'] [b, c] pos) (eCh o o' ma mb mc) := by
  obtain ⟨ta, pa, fa⟩ := ha
  obtain ⟨tb, pb, fb⟩ := hb
  obtain ⟨tc, pc, fc⟩ := hc
  exact ⟨tChain r r' ta tb tc, pe_chain ho ho' pa pb pc hm, fun H0 B Ls G S z σ H Q h hq => chain_core sp sp' fa fb fc h hq⟩
theorem rt_chain (ho : OpR X (compareOp op) r) (ho' : OpR X (compareOp op') r') (sp : Op2 X st r o) (sp' : Op2 X st r' o') (ha : RE X W st a ma) (hb : RE X W st b mb) (hc : RE X W st c mc)
    (hm : lastMarks [op, op'] [b, c] = false := by with_unfolding_all rfl) : RT X W st (.Compare a [op, op'] [b, c] pos) (tB' (eCh o o' ma mb mc)) := by
  obtain ⟨ta, pa, fa⟩ := ha
  obtain ⟨tb, pb, fb⟩ := hb
  obtain ⟨tc, pc, fc⟩ := hc
  refine ⟨tTest (tChain r r' ta tb tc), pt_chain ho ho' pa pb pc hm, fun H0 B Ls G S z σ H Q h hq => ?_⟩
  refine chain_core (Q := fun x H' => ∃ k, x = .bl k ∧ Q k H') sp sp' fa fb fc h (hq.bind fun x z1 H1 _ x1 hz1 hq1 v G' ow h1 => ?_)
  unfold asB at hq1
  split at hq1
  · exact ⟨_, bor_bl ow.bor, Ct.ok (k := fun x z' H' => Q x H') hq1 hz1⟩
  · exact hq1.elim
end
end
end MM

/-! MG: what a def promises, calls; statements. -/
namespace MM
open PySem PySem.Spec PyProof.Rows L2

abbrev MF := List Val → Rs Val
abbrev MZ := List Val → Zs → Rs Val
/-- a def without a stream -/
def spP (K : PySem.W.Frag) (mg : Str → Option Value) (m : MF) : Sp := fun vs H Q E => ∃ xs, BorS K H vs xs ∧ match m xs with
  | .ok x _ => ∀ v H' G, Same H H' → Own K H' v x G → G.Nodup → (∀ a ∈ G, H a = none) → Q v H'
  | .ex c _ => ∀ cv d H', Same H H' → ExR K mg c cv d H' → E cv d H'
  | .no => False
/-- a def whose first argument is the stream -/
def spZ (K : PySem.W.Frag) (mg : Str → Option Value) (m : MZ) : Sp := fun vs H Q E => ∃ a ws z xs, vs = .ref a :: ws ∧ Zr K (some a) z H ∧ BorS K (hid (some a) H) ws xs ∧ match m xs z with
  | .ok x z' => ∀ v H' G, SameX (some a) H H' → Zr K (some a) z' H' → Own K H' v x G → G.Nodup → (∀ b ∈ G, H b = none) → Q v H'
  | .ex c z' => ∀ cv d H', SameX (some a) H H' → Zr K (some a) z' H' → ExR K mg c cv d H' → E cv d H'
  | .no => False

section
variable {X : Cx} {W : WX} {st : Option Addr} {pos : Pos}
theorem BorS.hid {K : PySem.W.Frag} {st : Option Addr} {H : Hp} {vs : List V} {xs : List Val} (h : BorS K (hid st H) vs xs) : BorS K H vs xs := h.mono (hid_same st H)
@[simp] def eCall (m : MF) (ms : MAs) : ME := fun S z => (ms S z).bind fun xs z => match m xs with
  | .ok x _ => .ok x z
  | .ex c _ => .ex c z
  | .no => .no
section
variable {k : Nat} {f : Addr} {fd : FuncData} {ps : List Str} {x : Str} {p : Pos} {e : Expr} {es : List Expr} {ms : MAs}
theorem fe_call {m : MF} (F : FnOk X.prog X.w X.K X.mg X.base (L2.CX X.prog X.w) k f fd ps (spP X.K X.mg m)) (hr : Room k X.A) (hg : Gl X x) (hm : X.mg x = some (.ref f)) (hk : PySem.W.keepIn X.K (.ref f) = true) (hb : Binds X.K fd ps []) (tk : Takes X W)
    (ha : RA X W st (e :: es) ms) (hdb : (x == ("__debug__" : Str)) = false := by decide) (he : starEach (e :: es) X.env = (false, eval e X.env) :: starEach es X.env := by rfl) (hpl : (backTo pos (starEach es X.env)).any (·.1) = false := by rfl) :
    FE X W st (.Call (.Name x p) (e :: es) [] pos) (eCall m ms) := by
  obtain ⟨t, pa, g⟩ := ha
  refine ⟨tCallS _ (WE W) t, pe_callS F hr hg hm hk hb (fun σ => passAt tk σ) pa hdb he hpl, fun H0 B Ls G S z σ H Q h hq => ?_⟩
  refine g H0 B Ls G S z σ H _ h (hq.bind fun xs z1 H1 _ x1 hz1 hq1 vs hvs => ?_)
  refine ⟨xs, hvs.hid, ?_⟩
  have h1 := h.grow x1 hz1
  split at hq1
  · rename_i y _ em
    exact fun v H' G' s ow nd fr => Ct.fin h1 hq1 s ow nd fr
  · rename_i c _ em
    exact fun cv d H' s xr => hq1 cv d H' (.of_same s) (hz1.new s) xr
  · exact hq1.elim
theorem fe_call0 {m : MF} (F : FnOk X.prog X.w X.K X.mg X.base (L2.CX X.prog X.w) k f fd ps (spP X.K X.mg m)) (hr : Room k X.A) (hg : Gl X x) (hm : X.mg x = some (.ref f)) (hk : PySem.W.keepIn X.K (.ref f) = true) (hb : Binds X.K fd ps [])
    (hne : ∀ c z, m [] ≠ .ex c z) (hdb : (x == ("__debug__" : Str)) = false := by decide) : FE X W st (.Call (.Name x p) [] [] pos) (eCall m aNil) := by
  refine ⟨tCall _ [] E0 tNil, pe_call0 F hr hg hm hk hb .nil passL hdb, fun H0 B Ls G S z σ H Q h hq => ?_⟩
  refine ⟨[], .nil, ?_⟩
  unfold eCall aNil at hq
  simp only [Rs.bind_ok] at hq
  split at hq
  · rename_i y _ em
    exact fun v H' G' s ow nd fr => Ct.fin h hq s ow nd fr
  · rename_i c _ em
    exact absurd em (hne _ _)
  · exact hq.elim
/-- with the stream at slot i -/
@[simp] def eCallZ (i : Nat) (m : MZ) (ms : MAs) : ME := fun S z => match S[i]? with
  | some .s => (ms S z).bind m
  | _ => .no
theorem fe_callZ {m : MZ} (i : Nat) {y : Str} {q : Pos} (F : FnOk X.prog X.w X.K X.mg X.base (L2.CX X.prog X.w) k f fd ps (spZ X.K X.mg m)) (hr : Room k X.A) (hg : Gl X x) (hm : X.mg x = some (.ref f)) (hk : PySem.W.keepIn X.K (.ref f) = true) (hb : Binds X.K fd ps []) (tk : Takes X W)
    (ha : RA X W st es ms) (hN : X.N[i]? = some y := by rfl) (hv : Vis X.env.scope y := by first | exact Or.inl rfl | exact Or.inr (Or.inl rfl) | exact Or.inr (Or.inr rfl)) (hd : (y == ("__debug__" : Str)) = false := by decide)
    (hcd : (y == ("__classdict__" : Str)) = false := by decide) (hdb : (x == ("__debug__" : Str)) = false := by decide) (he : starEach (.Name y q :: es) X.env = (false, eval (.Name y q) X.env) :: starEach es X.env := by rfl) (hpl : (backTo pos (starEach es X.env)).any (·.1) = false := by rfl) :
    FE X W st (.Call (.Name x p) (.Name y q :: es) [] pos) (eCallZ i m ms) := by
  obtain ⟨t, pa, g⟩ := ha
  refine ⟨tCallS _ (WE W) (tCons (tVar i) t), pe_callS F hr hg hm hk hb (fun σ => passAt tk σ) (pa_cons (pe_var hN hv hd hcd) pa he) hdb he hpl, fun H0 B Ls G S z σ H Q h hq => ?_⟩
  unfold eCallZ at hq
  split at hq
  · rename_i e1
    obtain ⟨Gs, hs, _⟩ := h.ex
    obtain ⟨a, ea, est⟩ := hs.get_s e1
    refine ⟨.ref a, ea, ?_⟩
    refine g H0 B Ls G S z σ H _ h (hq.bind fun xs z1 H1 _ x1 hz1 hq1 vs hvs => ?_)
    have h1 := h.grow x1 hz1
    subst est
    refine ⟨a, vs, z1, xs, rfl, hz1, hvs, ?_⟩
    cases em : m xs z1 with
    | ok y z2 =>
      rw [em] at hq1
      exact fun v H' G' s hz' ow nd fr => hq1.okX s hz' v G' ow (h1.add s hz' nd fr ow.there)
    | ex c z2 =>
      rw [em] at hq1
      exact fun cv d H' s hz' xr => hq1 cv d H' s hz' xr
    | no => rw [em] at hq1; exact hq1
  · exact hq.elim
end

/-! ### statements -/
inductive Ro where
  | nx (S : List Sv) (z : Zs) | rt (x : Val) (z : Zs) | bk (S : List Sv) (z : Zs) | ct (S : List Sv) (z : Zs) | xc (c : Exc) (S : List Sv) (z : Zs) | ro (x : Val) (S : List Sv) (z : Zs) | no
abbrev MS := List Sv → Zs → Ro
/-- an outcome's wish -/
def Cs (X : Cx) (W : WX) (st : Option Addr) (H0 B : Hp) (Ls : List (Option (V × Val))) (D : Ends) : Ro → Prop
  | .nx S z => ∀ σ H, Stt X.K st H0 B Ls [] S z σ H → D.nx σ H
  | .rt x z => ∀ v H G, SameX st H0 H → Same B H → Zr X.K st z H → Own X.K H v x G → G.Nodup → (∀ a ∈ G, H0 a = none) → D.rt v H
  | .bk S z => ∀ σ H, Stt X.K st H0 B Ls [] S z σ H → D.bk σ H
  | .ct S z => ∀ σ H, Stt X.K st H0 B Ls [] S z σ H → D.ct σ H
  | .xc c S z => ∀ cv d σ H, Stt X.K st H0 B Ls [] S z σ H → ExR X.K X.mg c cv d H → W cv d σ H
  | .ro x S z => ∀ v σ H G, Stt X.K st H0 B Ls G S z σ H → Own X.K H v x G → D.rt v H
  | .no => False
def SE (X : Cx) (W : WX) (st : Option Addr) (s : Stmt) (m : MS) : Prop := ∃ t, PS X s t ∧ ∀ H0 B Ls S z σ H D, Stt X.K st H0 B Ls [] S z σ H → Cs X W st H0 B Ls D (m S z) → t D σ H
def SEs (X : Cx) (W : WX) (st : Option Addr) (s : List Stmt) (m : MS) : Prop := ∃ t, PSs X s t ∧ ∀ H0 B Ls S z σ H D, Stt X.K st H0 B Ls [] S z σ H → Cs X W st H0 B Ls D (m S z) → t D σ H
def Rs.go {α : Type} (r : Rs α) (S : List Sv) (f : α → Zs → Ro) : Ro := match r with
  | .ok a z => f a z
  | .ex c z => .xc c S z
  | .no => .no
@[simp] theorem Rs.go_ok {α : Type} {a : α} {z : Zs} {S : List Sv} {f : α → Zs → Ro} : (Rs.ok a z).go S f = f a z := rfl
@[simp] theorem Rs.go_ex {α : Type} {c : Exc} {z : Zs} {S : List Sv} {f : α → Zs → Ro} : (Rs.ex c z : Rs α).go S f = .xc c S z := rfl
@[simp] theorem Rs.go_no {α : Type} {S : List Sv} {f : α → Zs → Ro} : (Rs.no : Rs α).go S f = .no := rfl
/-- an expression within a statement -/
theorem Cs.go {α : Type} {H0 B H : Hp} {Ls : List (Option (V × Val))} {D : Ends} {S : List Sv} {z : Zs} {σ : L2.St} {r : Rs α} {f : α → Zs → Ro} {k' : α → Zs → Hp → Prop} (h : Stt X.K st H0 B Ls [] S z σ H) (hq : Cs X W st H0 B Ls D (r.go S f))
    (g : ∀ a z1 H1, r = .ok a z1 → SameX st H H1 → Zr X.K st z1 H1 → Cs X W st H0 B Ls D (f a z1) → k' a z1 H1) : Ct X W st σ H r k' := by
  cases r with
  | ok a z => exact fun H' y hz => g a z H' rfl y hz hq
  | ex c z1 => exact fun cv d H' y hz xr => hq cv d σ H' (h.grow y hz) xr
  | no => exact hq
@[simp] def sSeq (a b : MS) : MS := fun S z => match a S z with
  | .nx S z => b S z
  | r => r
@[simp] def sNil : MS := fun S z => .nx S z
theorem ss_nil : SEs X W st [] sNil := ⟨tNext, pss_nil, fun H0 B Ls S z σ H D h hq => hq σ H h⟩
theorem ss_one {s : Stmt} {m : MS} (h : SE X W st s m) : SEs X W st [s] m := let ⟨t, p, f⟩ := h; ⟨t, pss_one p, f⟩
theorem ss_cons {s : Stmt} {r : List Stmt} {a b : MS} (h : SE X W st s a) (hr : SEs X W st r b) : SEs X W st (s :: r) (sSeq a b) := by
  obtain ⟨t, p, f⟩ := h
  obtain ⟨u, q, g⟩ := hr
  refine ⟨tSeq t u, pss_cons p q, fun H0 B Ls S z σ H D h hq => ?_⟩
  refine f H0 B Ls S z σ H { D with nx := u D } h ?_
  unfold sSeq at hq
  cases e : a S z with
  | nx S1 z1 => rw [e] at hq; exact fun σ1 H1 h1 => g H0 B Ls S1 z1 σ1 H1 D h1 hq
  | rt x z1 => rw [e] at hq; exact hq
  | ro x S1 z1 => rw [e] at hq; exact hq
  | bk S1 z1 => rw [e] at hq; exact hq
  | ct S1 z1 => rw [e] at hq; exact hq
  | xc c S1 z1 => rw [e] at hq; exact hq
  | no => rw [e] at hq; exact hq
theorem se_pass : SE X W st (.Pass pos) sNil := ⟨tNext, ps_pass, fun H0 B Ls S z σ H D h hq => hq σ H h⟩
theorem se_break : SE X W st (.Break pos) (fun S z => .bk S z) := ⟨tBreak, ps_break, fun H0 B Ls S z σ H D h hq => hq σ H h⟩
theorem se_continue : SE X W st (.Continue pos) (fun S z => .ct S z) := ⟨tCont, ps_continue, fun H0 B Ls S z σ H D h hq => hq σ H h⟩
@[simp] def sBk : MS := fun S z => .bk S z
@[simp] def sCt : MS := fun S z => .ct S z
/-- if -/
@[simp] def sIf (c : MT) (a b : MS) : MS := fun S z => (c S z).go S fun k z => if k = true then a S z else b S z
theorem se_if {c : Expr} {a b : List Stmt} {mc : MT} {ma mb : MS} (hc : RT X W st c mc) (ha : SEs X W st a ma) (hb : SEs X W st b mb) : SE X W st (.If c a b pos) (sIf mc ma mb) := by
  obtain ⟨tc, pc, fc⟩ := hc
  obtain ⟨ta, pa, fa⟩ := ha
  obtain ⟨tb, pb, fb⟩ := hb
  refine ⟨tIfS tc ta tb, ps_if pc pa pb, fun H0 B Ls S z σ H D h hq => ?_⟩
  refine fc H0 B Ls [] S z σ H _ h (Cs.go h hq fun k z1 H1 _ x1 hz1 hq1 => ?_)
  cases k with
  | true => exact iteT (fa H0 B Ls S z1 σ H1 D (h.grow x1 hz1) hq1)
  | false => exact iteF (fb H0 B Ls S z1 σ H1 D (h.grow x1 hz1) hq1)
/-- an expression alone -/
@[simp] def sExpr (m : ME) : MS := fun S z => (m S z).go S fun _ z => .nx S z
theorem Stt.drop {K : PySem.W.Frag} {H0 B H : Hp} {Ls : List (Option (V × Val))} {G G' : List Addr} {S : List Sv} {z : Zs} {σ : L2.St} (h : Stt K st H0 B Ls (G' ++ G) S z σ H) : Stt K st H0 B Ls G S z σ H := by
  obtain ⟨Gs, hs, nd, fr⟩ := h.ex
  rw [List.append_assoc] at nd fr
  exact ⟨h.fr, h.zr, h.ble, h.z0, h.bst, fun a ha => h.gt a (List.mem_append_right _ ha), h.lks, Gs, hs, (List.nodup_append.mp nd).2.1, fun a ha => fr a (List.mem_append_right _ ha)⟩
theorem se_expr {e : Expr} {m : ME} (he : FE X W st e m) (hs : swapsWith e none pos.line X.env = pure false := by rfl) : SE X W st (.Expr e pos) (sExpr m) := by
  obtain ⟨t, p, f⟩ := he
  refine ⟨tDrop t, ps_expr p hs, fun H0 B Ls S z σ H D h hq => ?_⟩
  exact f H0 B Ls [] S z σ H _ h (Cs.go h hq fun x z1 H1 _ x1 hz1 hq1 v G' ow h1 => hq1 σ H1 h1.drop)
/-- return -/
@[simp] def sRet (m : ME) : MS := fun S z => (m S z).go S fun x z => .rt x z
theorem se_ret {e : Expr} {m : ME} (he : FE X W st e m) : SE X W st (.Return (some e) pos) (sRet m) := by
  obtain ⟨t, p, f⟩ := he
  refine ⟨tRet t, ps_ret p, fun H0 B Ls S z σ H D h hq => ?_⟩
  refine f H0 B Ls [] S z σ H _ h (Cs.go h hq fun x z1 H1 _ x1 hz1 hq1 v G' ow h1 => ?_)
  obtain ⟨Gs, hs, nd, fr⟩ := h1.ex
  rw [List.append_nil] at nd fr
  exact hq1 v H1 G' h1.fr h1.ble hz1 ow (List.nodup_append.mp nd).1 fun a ha => (fr a (List.mem_append_left _ ha)).1
@[simp] def sRetN : MS := fun _ z => .rt (.im .non) z
theorem se_retN : SE X W st (.Return none pos) sRetN := ⟨tRetN, ps_retN, fun H0 B Ls S z σ H D h hq => hq _ H [] h.fr h.ble h.zr (.im .non) List.nodup_nil (fun _ z => by cases z)⟩
/-- return of a slot: what it owns goes with it -/
@[simp] def sRetV (i : Nat) : MS := fun S z => match S[i]? with
  | some (.o x) => .rt x z
  | some (.b (.im t)) => .rt (.im t) z
  | some (.lk (.im t)) => .rt (.im t) z
  | _ => .no
theorem se_retV (i : Nat) {x : Str} {p : Pos} (hN : X.N[i]? = some x := by rfl) (hv : Vis X.env.scope x := by first | exact Or.inl rfl | exact Or.inr (Or.inl rfl) | exact Or.inr (Or.inr rfl)) (hd : (x == ("__debug__" : Str)) = false := by decide)
    (hcd : (x == ("__classdict__" : Str)) = false := by decide) : SE X W st (.Return (some (.Name x p)) pos) (sRetV i) := by
  refine ⟨tRet (tVar i), ps_ret (pe_var hN hv hd hcd), fun H0 B Ls S z σ H D h hq => ?_⟩
  obtain ⟨Gs, hs, nd, fr⟩ := h.ex
  rw [List.nil_append] at nd fr
  unfold sRetV at hq
  split at hq
  · rename_i y e
    obtain ⟨v, G1, Ga, Gb, e1, ow, eg, _⟩ := hs.get_o e
    refine ⟨v, e1, hq v H G1 h.fr h.ble h.zr ow ?_ fun a ha => (fr a (by rw [eg]; simp [ha])).1⟩
    rw [eg] at nd
    exact (List.nodup_append.mp (List.nodup_append.mp nd).1).2.1
  · rename_i t e
    obtain ⟨v, e1, bw⟩ := hs.get_b e
    cases bw with
    | im r => exact ⟨v, e1, hq v H [] h.fr h.ble h.zr (.im ((r.mono (Le.of_same h.fr.hid)).mono (Le.of_same (hid_same st H)))) List.nodup_nil (fun _ z => by cases z)⟩
  · rename_i t e
    obtain ⟨v, e1, el⟩ := hs.get_lk e
    cases h.lks i v _ el with
    | im r => exact ⟨v, e1, hq v H [] h.fr h.ble h.zr (.im (r.mono (Le.of_same h.ble))) List.nodup_nil (fun _ z => by cases z)⟩
  · exact hq.elim
/-- name = e -/
@[simp] def sSet (i : Nat) (m : ME) : MS := fun S z => if i < S.length then (m S z).go S fun x z => .nx (S.set i (.o x)) z else .no
theorem nodup_mid {α : Type} {G' Ga Gm Gb : List α} (h : (G' ++ (Ga ++ Gm ++ Gb)).Nodup) : (Ga ++ G' ++ Gb).Nodup := by
  have h1 : (G' ++ (Ga ++ Gb)).Nodup := h.sublist (List.Sublist.append_left (List.Sublist.append_right (List.sublist_append_left Ga Gm) Gb) G')
  have p : List.Perm (G' ++ (Ga ++ Gb)) (Ga ++ G' ++ Gb) := by
    rw [← List.append_assoc]
    exact List.Perm.append_right Gb List.perm_append_comm
  exact p.nodup_iff.mp h1
theorem Stt.put {K : PySem.W.Frag} {H0 B H : Hp} {Ls : List (Option (V × Val))} {G' G : List Addr} {S : List Sv} {z : Zs} {σ : L2.St} {v : V} {x : Val} {i : Nat} (h : Stt K st H0 B Ls (G' ++ G) S z σ H) (ow : Own K H v x G') (hi : i < S.length) : Stt K st H0 B Ls G (S.set i (.o x)) z (σ.set i (some v)) H := by
  obtain ⟨Gs, hs, nd, fr⟩ := h.ex
  obtain ⟨Ga, Gm, Gb, e, q⟩ := hs.set hi (y := .o x) (w := some v) (G2 := G') fun l => by simpa using SlS.o (l := l) ow .nil
  refine ⟨h.fr, h.zr, h.ble, h.z0, h.bst, fun a ha => h.gt a (List.mem_append_right _ ha), h.lks, _, q, ?_, fun a ha => fr a ?_⟩
  · rw [e] at nd
    have nd2 : (G' ++ (G ++ (Ga ++ Gm ++ Gb))).Nodup := by rw [← List.append_assoc]; exact nd
    have nd3 := nodup_mid (G' := G') (Ga := G ++ Ga) (Gm := Gm) (Gb := Gb) (by simpa only [List.append_assoc] using nd2)
    simpa only [List.append_assoc] using nd3
  · rw [e]
    simp only [List.mem_append] at ha ⊢
    rcases ha with q | (q | q) | q
    · exact .inl (.inr q)
    · exact .inr (.inl (.inl q))
    · exact .inl (.inl q)
    · exact .inr (.inr q)
theorem se_set (i : Nat) {x : Str} {e : Expr} {m : ME} {pos' : Pos} (hN : X.N.Nodup) (hi : X.N[i]? = some x) (hx : Loc X.env.scope x) (he : FE X W st e m) (hs : swapsWith e (some (.Name x pos')) pos.line X.env = pure false := by rfl) (hf : X.fn x = true ∨ X.env.scope.names.lookup x = some .local := by first | exact .inl rfl | exact .inr rfl | assumption) :
    SE X W st (.Assign [.Name x pos'] e pos) (sSet i m) := by
  obtain ⟨t, p, f⟩ := he
  refine ⟨tAsg t (gName i), ps_set hN hi hx p hs hf, fun H0 B Ls S z σ H D h hq => ?_⟩
  unfold sSet at hq
  split at hq
  · rename_i hl
    refine f H0 B Ls [] S z σ H _ h (Cs.go h hq fun y z1 H1 _ x1 hz1 hq1 v G' ow h1 => ?_)
    exact hq1 _ H1 (h1.put ow hl)
  · exact hq.elim
end
end MM

/-! MH: statements that change a list or a dict of the frame; loops. -/
namespace MM
open PySem PySem.AutoSeq1
theorem ext_tup (l : Addr) (items : Array Value) (n : Nat) (b : Addr) (items2 : Array Value) (n2 : Nat) (dd : Option Addr) (sl : Array (Option Value)) (h0 : ¬(!items.isEmpty && Builtin.List.listTooLong (items.size + items2.size)) = true) (h1 : items.size ≤ sizeLine) (h2 : items.size + items2.size ≤ sizeLine + 1) :
    Meets (Builtin.«list.extend» ⟨[.ref l, .ref b], []⟩) (fun _ R s => s.heap.get? l = some { cls := .type "list", dict := none, data := .seq items n, slots := #[] } ∧ s.heap.get? b = some { cls := .type "tuple", dict := dd, data := .seq items2 n2, slots := sl } ∧
      R (.ok (.ret Value.none)) { s with heap := s.heap.update l (Obj.mapSeq fun x => x ++ items2), toks := s.toks }) :=
  .of_wp fun prog w A R s h => by
    obtain ⟨hp, g, d, tk, os⟩ := s
    obtain ⟨hl, hb, h⟩ := h
    have f1 := idx_int
    have f2 := sub_tuple_tuple
    have f3 := sub_list_list
    have f4 := sub_tuple_list
    have f5 := sub_list_tuple
    have hz' : (items ++ items2).size ≤ sizeLine + 1 := by rw [Array.size_append]; exact h2
    wp_walk using (wpAny_updateSeq hl rfl (hz := h1) (_hz' := hz')), wpAny_loadPart' hl, wpAny_loadPart' hb
    exact ⟨_, rfl, h⟩
end MM
namespace MM
open PySem PySem.Spec PyProof.Rows L2
/-- xs.extend(t), t a tuple -/
def rExtT (K : PySem.W.Frag) : V → List V → Hp → VK → Prop := fun x vs H Q => ∃ l b xs zs, x = .ref l ∧ vs = [.ref b] ∧ H l = some (.lst xs) ∧ SqT K H b zs ∧ xs.length + zs.length ≤ sizeLine ∧ Q .non (upd H l (.lst (xs ++ zs)))
theorem mt_extT {X : Cx} : MtM X "list.extend" (rExtT X.K) := by
  intro pins s σ H x vs v us Q I rx rv h
  obtain ⟨l, b, xs, zs, rfl, rfl, hH, hB, hz, q⟩ := h
  cases rx
  obtain ⟨u, rfl, ru⟩ := L2.Vals.one rv
  cases ru
  obtain ⟨z, its, n, r, hl, e⟩ := I.lstM hH
  obtain ⟨its2, r2, ⟨⟨oc, od, odat, osl⟩, e2, hc, n2, hdat⟩, hl2⟩ := I.tuple hB
  simp only at hc hdat
  subst hc hdat
  have k1 := r.length
  have k2 := r2.length
  have hsz : its.toArray.size + its2.toArray.size ≤ sizeLine := by rw [List.size_toArray, List.size_toArray]; omega
  have hlong : ¬ (!its.toArray.isEmpty && Builtin.List.listTooLong (its.toArray.size + its2.toArray.size)) = true := by
    rw [notLongL hsz, Bool.and_false]
    exact Bool.false_ne_true
  refine call_meets PySem.F.slot_list_extend ⟨_, e, rfl⟩ PySem.F.entry_list_extend (PySem.F.args_list_extend_2 _ _)
    (ext_tup l its.toArray n b its2.toArray n2 od osl hlong (by rw [List.size_toArray]; omega) (by omega)) ⟨e, e2, ?_⟩
  refine ⟨.non, _, I.lset (its' := its ++ its2) hH e (by simp) (r.append r2) ?_, rfl, q⟩
  rw [List.length_append]
  omega
theorem MtM.or {X : Cx} {id : String} {r r' : V → List V → Hp → VK → Prop} (h : MtM X id r) (h' : MtM X id r') : MtM X id (fun x xs H Q => r x xs H Q ∨ r' x xs H Q) := fun pins s σ H x xs v us Q I rx rs q => q.elim (h pins s σ H x xs v us Q I rx rs) (h' pins s σ H x xs v us Q I rx rs)

section
variable {X : Cx} {W : WX} {st : Option Addr} {pos : Pos}
theorem Mu.ntup {u : HO} (m : Mu u) : (∀ xs, u ≠ .tup xs) ∧ (∀ ob xs, u ≠ .frz ob (.tup xs)) ∧ ∀ ob xs, u ≠ .frz ob (.lst xs) := by
  refine ⟨fun xs e => ?_, fun ob xs e => ?_, fun ob xs e => ?_⟩
  · rw [e] at m; exact m
  · rw [e] at m; exact m
  · rw [e] at m; exact m
/-- an object that is owned is changed -/
theorem SameX.upd {K : PySem.W.Frag} {H0 B H : Hp} {Ls : List (Option (V × Val))} {G : List Addr} {S : List Sv} {z : Zs} {σ : L2.St} (h : Stt K st H0 B Ls G S z σ H) {l : Addr} (o : HO) (h0 : H0 l = none) : SameX st H0 (L2.upd H l o) ∧ Zr K st z (L2.upd H l o) := by
  have nl := h.nst h0
  refine ⟨⟨fun a u n e => ?_, fun a x r e ha => ?_⟩, fun a e => ?_⟩
  · rw [upd_ne (ne_of_none e h0)]
    exact h.fr.k a u n e
  · rw [upd_ne (ne_of_none ha h0)]
    exact h.fr.l a x r e ha
  · obtain ⟨z0, hz0⟩ := h.z0
    obtain ⟨l0, q0, q1, q2, _⟩ := hz0 a e
    obtain ⟨r', q3⟩ := h.fr.l a _ _ e q0
    obtain ⟨l1, p0, p1, p2, p3⟩ := h.zr a e
    rw [q3] at p0
    injection p0 with p0
    injection p0 with p0
    injection p0 with p0 p4
    injection p0 with p0
    subst p0
    refine ⟨l0, ?_, p1, ?_, p3⟩
    · rw [upd_ne (ne_of_none q0 h0), q3, p4]
    · rw [upd_ne (ne_of_none q2 h0)]; exact p2
theorem Le.upd_mu {H : Hp} {l : Addr} {o u : HO} (e : H l = some u) (m : Mu u) : Le H (L2.upd H l o) := Le.upd e m.ntup.1 m.ntup.2.1 m.ntup.2.2
/-- the root object of an owned slot is changed -/
theorem Stt.chg {K : PySem.W.Frag} {H0 B H : Hp} {Ls : List (Option (V × Val))} {G : List Addr} {S : List Sv} {z : Zs} {σ : L2.St} (h : Stt K st H0 B Ls G S z σ H) {i : Nat} {l : Addr} {x y : Val} {o u : HO}
    (e : S[i]? = some (.o x)) (hl : ∀ v G1, σ[i]? = some (some v) → Own K H v x G1 → v = .ref l ∧ G1 = [l]) (hu : H l = some u) (mu : Mu u) (mo : Mu o) (ow : Own K (L2.upd H l o) (.ref l) y [l]) : Stt K st H0 B Ls G (S.set i (.o y)) z σ (L2.upd H l o) := by
  obtain ⟨Gs, hs, nd, fr⟩ := h.ex
  obtain ⟨v, G1, Ga, Gb, e1, o1, eg, put⟩ := hs.get_o e
  obtain ⟨rfl, rfl⟩ := hl v G1 e1 o1
  have fl := fr l (by rw [eg]; simp)
  obtain ⟨sx, zr⟩ := SameX.upd h o fl.1
  have nd' := nd
  rw [eg] at nd'
  have nin : ∀ a, a ∈ G ∨ a ∈ Ga ∨ a ∈ Gb → a ≠ l := fun a ha c => by
    subst c
    have p : List.Perm (G ++ (Ga ++ [a] ++ Gb)) (a :: (G ++ Ga ++ Gb)) := by
      have : G ++ (Ga ++ [a] ++ Gb) = (G ++ Ga) ++ a :: Gb := by simp
      rw [this]
      exact List.perm_middle
    have nd2 := p.nodup_iff.mp nd'
    have := (List.nodup_cons.mp nd2).1
    exact this (by simp only [List.mem_append]; rcases ha with q | q | q; exact .inl (.inl q); exact .inl (.inr q); exact .inr q)
  have li : i < Ls.length := by
    have := hs.length
    have h2 : Ls.length = S.length := hs.lengthL
    rw [h2]
    exact (List.getElem?_eq_some_iff.mp e).1
  have put' := put (hid st H0) (L2.upd H l o) Ls[i] (.o y) (some (.ref l)) ([l] ++ []) (fun _ _ q => q) (Le.upd_mu hu mu) (fun a ha u' q => by rw [upd_ne (nin a (by simp only [List.mem_append] at ha; exact .inr ha))]; exact q) (.o ow .nil)
  have es : σ.set i (some (.ref l)) = σ := by
    apply List.ext_getElem?
    intro k
    rw [List.getElem?_set]
    split
    · rename_i c
      subst c
      split
      · exact e1.symm
      · rename_i c; rw [List.getElem?_eq_none (by omega)]
    · rfl
  have el : Ls.set i Ls[i] = Ls := by simp
  rw [es, el] at put'
  refine ⟨sx, zr, fun a u' q => ?_, h.z0, h.bst, fun a ha => ?_, h.lks, Ga ++ ([l] ++ []) ++ Gb, put', ?_, ?_⟩
  · rw [upd_ne (ne_of_none q fl.2)]; exact h.ble a u' q
  · obtain ⟨u', q, m⟩ := h.gt a ha
    exact ⟨u', by rw [upd_ne (nin a (.inl ha))]; exact q, m⟩
  · simpa using nd'
  · intro a ha
    refine fr a ?_
    rw [eg]
    simpa using ha

/-! ### xs.append(e), xs.extend(e) -/
@[simp] def sApp (i : Nat) (m : ME) : MS := fun S z => match S[i]? with
  | some (.o (.il ts)) => (m S z).go S fun x z => match x with
    | .im t => if ts.length < sizeLine then .nx (S.set i (.o (.il (ts ++ [t])))) z else .no
    | _ => .no
  | _ => .no
theorem own_il {K : PySem.W.Frag} {H : Hp} {v : V} {ts : List T} {G : List Addr} (h : Own K H v (.il ts) G) : ∃ a xs, v = .ref a ∧ G = [a] ∧ H a = some (.lst xs) ∧ RepTs K H xs ts := by
  cases h with | il h g => exact ⟨_, _, rfl, rfl, h, g⟩
theorem get_il {K : PySem.W.Frag} {H0 B H : Hp} {Ls : List (Option (V × Val))} {G : List Addr} {S : List Sv} {z : Zs} {σ : L2.St} {i : Nat} {ts : List T} (h : Stt K st H0 B Ls G S z σ H) (e : S[i]? = some (.o (.il ts))) :
    ∃ l xs, σ[i]? = some (some (.ref l)) ∧ H l = some (.lst xs) ∧ RepTs K H xs ts ∧ (∀ v G1, σ[i]? = some (some v) → Own K H v (.il ts) G1 → v = .ref l ∧ G1 = [l]) := by
  obtain ⟨Gs, hs, nd, fr⟩ := h.ex
  obtain ⟨v, G1, Ga, Gb, e1, o1, eg, put⟩ := hs.get_o e
  obtain ⟨a, xs, rfl, rfl, h1, h2⟩ := own_il o1
  refine ⟨a, xs, e1, h1, h2, fun v G1 e2 o2 => ?_⟩
  rw [e1] at e2
  cases e2
  obtain ⟨b, ys, q1, q2, _⟩ := own_il o2
  cases q1
  exact ⟨rfl, q2⟩
/-- what a method's call with one argument wants of the text -/
structure Cl1 (X : Cx) (x n : Str) (p ap cp : Pos) (e : Expr) : Prop where
  base : attributeBase (.Name x p) n X.env (eval (.Name x p) X.env) = eval (.Name x p) X.env
  few : ((backTo cp (starEach [e] X.env)).all (fun x => !x.1) && (backToKw cp (keywordEach [] X.env)).all (fun x => x.1.isSome)
      && decide (([e] : List Expr).length + ([] : List Keyword).length + (if ([] : List Keyword).isEmpty then 0 else 1) < 30)) = true
  line : (ap.endLine == cp.line) = true
  star : starEach [e] X.env = (false, eval e X.env) :: starEach [] X.env
  plain : (backTo cp (starEach [] X.env)).any (·.1) = false
section
variable {x : Str} {p ap cp : Pos} {e : Expr} {m : ME}
theorem tyL {K : PySem.W.Frag} {H : Hp} {l : Addr} {xs : List V} (h : H l = some (.lst xs)) : tyV K "list" (.ref l) H := .inl ⟨rfl, _, .of h⟩
theorem se_app (i : Nat) (he : RE X W st e m) (c : Cl1 X x "append" p ap cp e := by exact ⟨rfl, rfl, rfl, rfl, rfl⟩) (hN : X.N[i]? = some x := by rfl) (hv : Vis X.env.scope x := by first | exact Or.inl rfl | exact Or.inr (Or.inl rfl) | exact Or.inr (Or.inr rfl)) (hd : (x == ("__debug__" : Str)) = false := by decide)
    (hcd : (x == ("__classdict__" : Str)) = false := by decide)
    (hs : swapsWith (.Call (.Attribute (.Name x p) "append" ap) [e] [] cp) none pos.line X.env = pure false := by rfl) :
    SE X W st (.Expr (.Call (.Attribute (.Name x p) "append" ap) [e] [] cp) pos) (sApp i m) := by
  obtain ⟨t, pe, f⟩ := he
  refine ⟨_, ps_expr (pe_bm PySem.F.plainAttrs_list PySem.F.slot_list_append PySem.F.type_list_append mt_append (pe_var hN hv hd hcd) (pa_cons pe pa_nil c.star) c.base c.few c.line c.star c.plain) hs, fun H0 B Ls S z σ H D h hq => ?_⟩
  unfold sApp at hq
  split at hq
  · rename_i ts es
    obtain ⟨l, xs, e1, h1, h2, own⟩ := get_il h es
    refine ⟨.ref l, e1, tyL h1, ?_⟩
    refine f H0 B Ls [] S z σ H _ h (Cs.go h hq fun y z1 H1 _ x1 hz1 hq1 v hv => ?_)
    have g1 := h.grow x1 hz1
    obtain ⟨l', ys, e2, h3, h4, own2⟩ := get_il g1 es
    rw [e1] at e2
    cases e2
    cases y with
    | im t =>
      dsimp only at hq1
      split at hq1
      · rename_i hl
        cases hv with
        | im hv =>
          refine ⟨l, ys, v, rfl, rfl, h3, by rw [h4.length]; exact hl, ?_⟩
          have le : Le H1 (L2.upd H1 l (.lst (ys ++ [v]))) := Le.upd_lst h3
          exact hq1 σ _ (g1.chg es own2 h3 True.intro True.intro (.il upd_same ((h4.append (.one (repT_hid hv))).mono le)))
      · exact hq1.elim
    | _ => exact hq1.elim
  · exact hq.elim
/-- what extend takes -/
@[simp] def items : Val → Option (List T)
  | .im (.tup ts) => some ts
  | .il ts => some ts
  | _ => none
@[simp] def sExt (i : Nat) (m : ME) : MS := fun S z => match S[i]? with
  | some (.o (.il ts)) => (m S z).go S fun x z => match items x with
    | some us => if ts.length + us.length ≤ sizeLine then .nx (S.set i (.o (.il (ts ++ us)))) z else .no
    | none => .no
  | _ => .no
theorem se_ext (i : Nat) (he : RE X W st e m) (c : Cl1 X x "extend" p ap cp e := by exact ⟨rfl, rfl, rfl, rfl, rfl⟩) (hN : X.N[i]? = some x := by rfl) (hv : Vis X.env.scope x := by first | exact Or.inl rfl | exact Or.inr (Or.inl rfl) | exact Or.inr (Or.inr rfl)) (hd : (x == ("__debug__" : Str)) = false := by decide)
    (hcd : (x == ("__classdict__" : Str)) = false := by decide)
    (hs : swapsWith (.Call (.Attribute (.Name x p) "extend" ap) [e] [] cp) none pos.line X.env = pure false := by rfl) :
    SE X W st (.Expr (.Call (.Attribute (.Name x p) "extend" ap) [e] [] cp) pos) (sExt i m) := by
  obtain ⟨t, pe, f⟩ := he
  refine ⟨_, ps_expr (pe_bm PySem.F.plainAttrs_list PySem.F.slot_list_extend PySem.F.type_list_extend (MtM.or mt_extend mt_extT) (pe_var hN hv hd hcd) (pa_cons pe pa_nil c.star) c.base c.few c.line c.star c.plain) hs, fun H0 B Ls S z σ H D h hq => ?_⟩
  unfold sExt at hq
  split at hq
  · rename_i ts es
    obtain ⟨l, xs, e1, h1, h2, own⟩ := get_il h es
    refine ⟨.ref l, e1, tyL h1, ?_⟩
    refine f H0 B Ls [] S z σ H _ h (Cs.go h hq fun y z1 H1 _ x1 hz1 hq1 v hv => ?_)
    have g1 := h.grow x1 hz1
    obtain ⟨l', ys, e2, h3, h4, own2⟩ := get_il g1 es
    rw [e1] at e2
    cases e2
    have hv := bor_hid hv
    have fin : ∀ (us : List T) (ws : List V), RepTs X.K H1 ws us → items y = some us → ts.length + us.length ≤ sizeLine ∧ D.nx σ (L2.upd H1 l (.lst (ys ++ ws))) := fun us ws r e => by
      rw [e] at hq1
      dsimp only at hq1
      split at hq1
      · rename_i hl
        exact ⟨hl, hq1 σ _ (g1.chg es own2 h3 True.intro True.intro (.il upd_same ((h4.append r).mono (Le.upd_lst h3))))⟩
      · exact hq1.elim
    cases y with
    | im t =>
      cases t with
      | tup us =>
        cases hv with
        | im hv =>
          cases hv with
          | @tup b ws _ s1 s2 =>
            obtain ⟨hl, q⟩ := fin us ws s2 rfl
            exact .inr ⟨l, b, ys, ws, rfl, rfl, h3, s1, by rw [h4.length, s2.length]; exact hl, q⟩
      | _ => exact hq1.elim
    | il us =>
      cases hv with
      | @il b ws _ s1 s2 =>
        obtain ⟨hl, q⟩ := fin us ws s2 rfl
        exact .inl ⟨l, b, ys, ws, rfl, rfl, h3, s1, by rw [h4.length, s2.length]; exact hl, q⟩
    | _ => exact hq1.elim
  · exact hq.elim
end
/-! ### xs[i] = e, d[k] = e -/
def putT {κ : Type} [DecidableEq κ] (kvs : List (κ × T)) (k : κ) (v : T) : List (κ × T) :=
  if (kvs.any fun kv => decide (kv.1 = k)) = true then kvs.map fun kv => if kv.1 = k then (kv.1, v) else kv else kvs ++ [(k, v)]

theorem repK_any {K : PySem.W.Frag} {H : Hp} {κ : Type} [DecidableEq κ] (k : κ) : ∀ {vs : List (κ × V)} {ts : List (κ × T)}, vs.map (·.1) = ts.map (·.1) → (vs.any fun kv => decide (kv.1 = k)) = ts.any fun kv => decide (kv.1 = k) := by
  intro vs ts h
  have a1 : (vs.any fun kv => decide (kv.1 = k)) = (vs.map (·.1)).any fun j => decide (j = k) := by rw [List.any_map]; rfl
  have a2 : (ts.any fun kv => decide (kv.1 = k)) = (ts.map (·.1)).any fun j => decide (j = k) := by rw [List.any_map]; rfl
  rw [a1, a2, h]
theorem repK_put {K : PySem.W.Frag} {H : Hp} {κ : Type} [DecidableEq κ] {k : κ} {v : V} {t : T} (r : RepT K H v t) {vs : List (κ × V)} {ts : List (κ × T)} (h : RepK K H vs ts) : RepK K H (putK vs k v) (putT ts k t) := by
  have ea := repK_any (K := K) (H := H) k h.1
  unfold putK putT
  rw [ea]
  split
  · obtain ⟨h1, h2⟩ := h
    clear ea
    rename_i ht
    clear ht
    induction ts generalizing vs with
    | nil =>
      have : vs = [] := by cases vs; rfl; cases h1
      subst this
      exact ⟨rfl, .nil⟩
    | cons p ts ih =>
      cases vs with
      | nil => cases h1
      | cons q vs =>
        simp only [List.map_cons] at h1 h2
        injection h1 with e1 e2
        cases h2 with
        | cons g1 g2 =>
          obtain ⟨i1, i2⟩ := ih e2 g2
          refine ⟨?_, ?_⟩
          · simp only [List.map_cons]
            rw [i1]
            congr 1
            rw [e1]
            split <;> first | exact e1 | rfl
          · simp only [List.map_cons]
            refine .cons ?_ i2
            rw [e1]
            split
            · exact r
            · exact g1
  · refine ⟨by simp [h.1], ?_⟩
    rw [List.map_append, List.map_append]
    exact h.2.append (.one r)
theorem RepT.set' {K : PySem.W.Frag} {H : Hp} {v : V} {t : T} (r : RepT K H v t) {ts : List T} {vs : List V} (h : RepTs K H vs ts) (i : Nat) : RepTs K H (vs.set i v) (ts.set i t) := RepTs.set r i h
/-- o[i] = v of a list, of a dict of ints and texts -/
def rPut : TSet := fun o i v H Q => rSetL o i v H Q ∨ ∃ a kvs k, o = .ref a ∧ i = kV k ∧ H a = some (.dK kvs) ∧ kvs.length < sizeLine ∧ Q (L2.upd H a (.dK (putK kvs k v)))
theorem set_put (hu : X.A.units + 1 < cLine) : PSet X rPut := by
  intro pins s σ H o i v ov iv u Q I ro ri rv h
  rcases h with h | ⟨a, kvs, k, rfl, rfl, e, hl, q⟩
  · exact set_list pins s σ H o i v ov iv u Q I ro ri rv h
  · cases ro
    exact d_setItem hu I (DPut.k e hl) ri rv fun s' I' => ⟨_, I', q⟩
theorem own_dk {K : PySem.W.Frag} {H : Hp} {v : V} {ts : List (Key × T)} {G : List Addr} (h : Own K H v (.dk ts) G) : ∃ a xs, v = .ref a ∧ G = [a] ∧ H a = some (.dK xs) ∧ RepK K H xs ts := by
  cases h with | dk h g => exact ⟨_, _, rfl, rfl, h, g⟩
theorem get_dk {K : PySem.W.Frag} {H0 B H : Hp} {Ls : List (Option (V × Val))} {G : List Addr} {S : List Sv} {z : Zs} {σ : L2.St} {i : Nat} {ts : List (Key × T)} (h : Stt K st H0 B Ls G S z σ H) (e : S[i]? = some (.o (.dk ts))) :
    ∃ l xs, σ[i]? = some (some (.ref l)) ∧ H l = some (.dK xs) ∧ RepK K H xs ts ∧ (∀ v G1, σ[i]? = some (some v) → Own K H v (.dk ts) G1 → v = .ref l ∧ G1 = [l]) := by
  obtain ⟨Gs, hs, nd, fr⟩ := h.ex
  obtain ⟨v, G1, Ga, Gb, e1, o1, eg, put⟩ := hs.get_o e
  obtain ⟨a, xs, rfl, rfl, h1, h2⟩ := own_dk o1
  refine ⟨a, xs, e1, h1, h2, fun v G1 e2 o2 => ?_⟩
  rw [e1] at e2
  cases e2
  obtain ⟨b, ys, q1, q2, _⟩ := own_dk o2
  cases q1
  exact ⟨rfl, q2⟩
@[simp] def putV (x k v : Val) : Option Val := match x, k, v with
  | .il ts, .im (.int i), .im t => (ixN ts.length i).map fun j => .il (ts.set j t)
  | .dk kvs, .im k, .im t => match k.key? with
    | some k => if kvs.length < sizeLine then some (.dk (putT kvs k t)) else none
    | none => none
  | _, _, _ => none
theorem put_case {xo k v y : Val} (ep : putV xo k v = some y) : (∃ ts n t j, xo = .il ts ∧ k = .im (.int n) ∧ v = .im t ∧ ixN ts.length n = some j ∧ y = .il (ts.set j t)) ∨ ∃ kvs u kk t, xo = .dk kvs ∧ k = .im u ∧ u.key? = some kk ∧ v = .im t ∧ kvs.length < sizeLine ∧ y = .dk (putT kvs kk t) := by
  unfold putV at ep
  split at ep
  · rename_i ts n t
    cases ei : ixN ts.length n with
    | none => rw [ei] at ep; cases ep
    | some j => rw [ei] at ep; cases ep; exact .inl ⟨ts, n, t, j, rfl, rfl, rfl, ei, rfl⟩
  · rename_i kvs u t
    split at ep
    · rename_i kk ek
      split at ep
      · rename_i hl; cases ep; exact .inr ⟨kvs, u, kk, t, rfl, rfl, ek, rfl, hl, rfl⟩
      · cases ep
    · cases ep
  · cases ep
@[simp] def sPut (i : Nat) (mk mv : ME) : MS := fun S z => match S[i]? with
  | some (.o x) => (mv S z).go S fun v z => (mk S z).go S fun k z => match putV x k v with
    | some y => .nx (S.set i (.o y)) z
    | none => .no
  | _ => .no
theorem se_put (i : Nat) {x : Str} {k e : Expr} {mk mv : ME} {p sp : Pos} (hu : X.A.units + 1 < cLine) (hk : RE X W st k mk) (he : RE X W st e mv) (hN : X.N[i]? = some x := by rfl) (hv : Vis X.env.scope x := by first | exact Or.inl rfl | exact Or.inr (Or.inl rfl) | exact Or.inr (Or.inr rfl)) (hd : (x == ("__debug__" : Str)) = false := by decide)
    (hcd : (x == ("__classdict__" : Str)) = false := by decide) (ha : ∀ v, assign (.Subscript (.Name x p) k sp) X.env v = (do
      let ov ← holding [v] (eval (.Name x p) X.env)
      let iv ← holding [v, ov] (eval k X.env)
      standAt sp
      holding [v, ov, iv] (setItem ov iv v)
      release [v, ov, iv] []) := by intro _; rfl)
    (hs : swapsWithSole [.Subscript (.Name x p) k sp] e pos.line X.env = pure false := by rfl) (hw : swappedStores [.Subscript (.Name x p) k sp] e X.env = pure none := by rfl)
    (h1 : (assignEach [.Subscript (.Name x p) k sp] X.env).map (·.2) = [assign (.Subscript (.Name x p) k sp) X.env] := by rfl) :
    SE X W st (.Assign [.Subscript (.Name x p) k sp] e pos) (sPut i mk mv) := by
  obtain ⟨tk, pk, fk⟩ := hk
  obtain ⟨te, pe, fe⟩ := he
  refine ⟨_, ps_asg pe (pg_sub (pe_var hN hv hd hcd) pk (set_put hu) ha) hs hw h1, fun H0 B Ls S z σ H D h hq => ?_⟩
  unfold sPut at hq
  split at hq
  · rename_i xo es
    refine fe H0 B Ls [] S z σ H _ h (Cs.go h hq fun v z1 H1 _ x1 hz1 hq1 vv hvv => ?_)
    have g1 := h.grow x1 hz1
    obtain ⟨Gs, hs1, nd1, fr1⟩ := g1.ex
    obtain ⟨w, G1, Ga, Gb, e1, o1, eg, _⟩ := hs1.get_o es
    refine ⟨w, e1, ?_⟩
    refine fk H0 B Ls [] S z1 σ H1 _ g1 (Cs.go g1 hq1 fun k z2 H2 _ x2 hz2 hq2 vk hvk => ?_)
    have g2 := g1.grow x2 hz2
    have hvv := hvv.mono x2.hid
    cases ep : putV xo k v with
    | none => rw [ep] at hq2; exact hq2.elim
    | some y =>
      rw [ep] at hq2
      rcases put_case ep with ⟨ts, n, t, j, rfl, rfl, rfl, ei, rfl⟩ | ⟨kvs, u, kk, t, rfl, rfl, ek, rfl, hl, rfl⟩
      · obtain ⟨l, ys, e2, h3, h4, own⟩ := get_il g2 es
        rw [e1] at e2
        cases e2
        have := bor_int hvk
        subst this
        cases hvv with
        | im hvv =>
          refine .inl ⟨l, ys, n, j, rfl, rfl, h3, by rw [h4.length]; exact ei, ?_⟩
          exact hq2 σ _ (g2.chg es own h3 True.intro True.intro (.il upd_same (((repT_hid hvv).mono (Le.upd_lst h3)).set' (h4.mono (Le.upd_lst h3)) j)))
      · obtain ⟨l, ys, e2, h3, h4, own⟩ := get_dk g2 es
        rw [e1] at e2
        cases e2
        cases hvk with
        | im hvk =>
          cases hvv with
          | im hvv =>
            have le : Le H2 (L2.upd H2 l (.dK (putK ys kk vv))) := Le.upd_dK h3
            have hlen := congrArg List.length h4.1
            rw [List.length_map, List.length_map] at hlen
            refine .inr ⟨l, ys, kk, rfl, rep_key hvk ek, h3, by rw [hlen]; exact hl, ?_⟩
            exact hq2 σ _ (g2.chg es own h3 True.intro True.intro (.dk upd_same (repK_put ((repT_hid hvv).mono le) (h4.mono le))))
  · exact hq.elim
end
end MM

/-! MI: displays of lists, op=, unpacking, while, for. -/
namespace MM
open PySem PySem.Spec PyProof.Rows L2
section
variable {X : Cx} {W : WX} {st : Option Addr} {pos : Pos}

/-! ### [a, b], {} -/
@[simp] def oLst (xs : List Val) (z : Zs) : Rs Val := match imS xs with
  | some ts => if ts.length ≤ sizeLine then .ok (.il ts) z else .no
  | none => .no
@[simp] def eLst (ms : MAs) : ME := fun S z => (ms S z).bind oLst
theorem fe_lst {es : List Expr} {ms : MAs} (ha : RA X W st es ms) : FE X W st (.List es pos) (eLst ms) := by
  obtain ⟨t, p, f⟩ := ha
  refine ⟨tLst t, pe_lst p, fun H0 B Ls G S z σ H Q h hq => ?_⟩
  refine f H0 B Ls G S z σ H _ h (hq.bind fun xs z1 H1 _ x1 hz1 hq1 vs hvs => ?_)
  unfold oLst at hq1
  split at hq1
  · rename_i ts e
    split at hq1
    · rename_i hl
      have r := imS_rep hvs e
      refine ⟨by rw [r.length]; exact hl, fun p np => ?_⟩
      exact Ct.fin (h.grow x1 hz1) hq1 (v := .ref p) (G' := [p]) (Same.upd_new np) (.il upd_same ((rep_hid r).mono (Le.of_same (Same.upd_new np)))) (by simp) (fun a ha => by simp at ha; subst ha; exact np)
    · exact hq1.elim
  · exact hq1.elim
@[simp] def eDk : ME := fun _ z => .ok (.dk []) z
theorem fe_dk : FE X W st (.Dict [] [] pos) eDk := by
  refine ⟨tDNewK, pe_dnewK, fun H0 B Ls G S z σ H Q h hq p np => ?_⟩
  exact Ct.fin h hq (v := .ref p) (G' := [p]) (Same.upd_new np) (.dk upd_same ⟨rfl, .nil⟩) (by simp) (fun a ha => by simp at ha; subst ha; exact np)
/-- {} whose keys will be tuples -/
@[simp] def eDt : ME := fun _ z => .ok (.dt []) z
theorem fe_dt : FE X W st (.Dict [] [] pos) eDt := by
  refine ⟨tDNewT, pe_dnewT, fun H0 B Ls G S z σ H Q h hq p np => ?_⟩
  exact Ct.fin h hq (v := .ref p) (G' := [p]) (Same.upd_new np) (.dt upd_same ⟨rfl, .nil⟩) (by simp) (fun a ha => by simp at ha; subst ha; exact np)

/-! ### x op= e -/
@[simp] def sAug (o : Val → Val → Option Val) (i : Nat) (m : ME) : MS := fun S z => (eV i S z).go S fun x _ => (m S z).go S fun y z => match o x y with
  | some (.im t) => .nx (S.set i (.o (.im t))) z
  | _ => .no
theorem SlS.val {K : PySem.W.Frag} {B H : Hp} {Ls : List (Option (V × Val))} {S : List Sv} {σ : L2.St} {Gs : List Addr} {i : Nat} {x : Val} {z z' : Zs} (hs : SlS K st B H Ls σ S Gs) (e : eV i S z = .ok x z') : ∃ v, σ[i]? = some (some v) ∧ z' = z ∧ i < S.length ∧ ((S[i]? = some (.b x) ∧ Bor K B v x) ∨ (S[i]? = some (.lk x) ∧ Ls[i]? = some (some (v, x))) ∨ ∃ G1, (S[i]? = some (.o x) ∨ S[i]? = some (.a x)) ∧ Own K H v x G1 ∧ ∀ a ∈ G1, a ∈ Gs) := by
  unfold eV at e
  split at e
  · rename_i y e1; cases e
    obtain ⟨v, g1, g2⟩ := hs.get_b e1
    exact ⟨v, g1, rfl, (List.getElem?_eq_some_iff.mp e1).1, .inl ⟨e1, g2⟩⟩
  · rename_i y e1; cases e
    obtain ⟨v, G1, Ga, Gb, g1, g2, g3, _⟩ := hs.get_o e1
    exact ⟨v, g1, rfl, (List.getElem?_eq_some_iff.mp e1).1, .inr (.inr ⟨G1, .inl e1, g2, fun a ha => by rw [g3]; simp [ha]⟩)⟩
  · rename_i y e1; cases e
    obtain ⟨v, g1, g2⟩ := hs.get_lk e1
    exact ⟨v, g1, rfl, (List.getElem?_eq_some_iff.mp e1).1, .inr (.inl ⟨e1, g2⟩)⟩
  · rename_i y e1; cases e
    obtain ⟨v, x0, G1, Ga, Gb, g1, _, g2, g3, _⟩ := hs.get_a e1
    exact ⟨v, g1, rfl, (List.getElem?_eq_some_iff.mp e1).1, .inr (.inr ⟨G1, .inr e1, g2, fun a ha => by rw [g3]; simp [ha]⟩)⟩
  · cases e
theorem Stt.val {K : PySem.W.Frag} {H0 B H : Hp} {Ls : List (Option (V × Val))} {G : List Addr} {S : List Sv} {z z' z2 : Zs} {σ : L2.St} {i : Nat} {x : Val} (h : Stt K st H0 B Ls G S z σ H) (e : eV i S z2 = .ok x z') : ∃ v, σ[i]? = some (some v) ∧ Bor K (hid st H) v x ∧ i < S.length := by
  obtain ⟨Gs, hs, nd, fr⟩ := h.ex
  obtain ⟨v, e1, _, hi, h1 | h1 | ⟨G1, h1⟩⟩ := hs.val e
  · exact ⟨v, e1, h1.2.mono h.fr.hid, hi⟩
  · exact ⟨v, e1, (h.lks i v x h1.2).mono h.bhid, hi⟩
  · exact ⟨v, e1, h.own_bor h1.2.1 fun a ha => h.nst (fr a (List.mem_append_right _ (h1.2.2 a ha))).1, hi⟩
theorem se_aug {op : Operator} {r : R2} {o : Val → Val → Option Val} (i : Nat) {x : Str} {e : Expr} {m : ME} {pos' : Pos} (ho : OpR X (inplaceOp op) r) (sp : Op2 X st r o) (hN : X.N.Nodup) (hi : X.N[i]? = some x) (hx : Loc X.env.scope x) (he : RE X W st e m)
    (hf : X.fn x = true ∨ X.env.scope.names.lookup x = some .local := by first | exact .inl rfl | exact .inr rfl | assumption) : SE X W st (.AugAssign (.Name x pos') op e pos) (sAug o i m) := by
  obtain ⟨t, p, f⟩ := he
  refine ⟨tAug i t r, ps_aug hN hi hx p (fun pins s σ H x y v u Q I rx ry q => ho pins s σ H x y v u Q I rx ry q) hf, fun H0 B Ls S z σ H D h hq => ?_⟩
  unfold sAug at hq
  cases ev : eV i S z with
  | no => rw [ev] at hq; exact hq.elim
  | ex c z1 =>
    exfalso
    unfold eV at ev
    split at ev <;> cases ev
  | ok xv z1 =>
    rw [ev] at hq
    simp only [Rs.go_ok] at hq
    obtain ⟨v, e1, b1, hl⟩ := h.val ev
    refine ⟨v, e1, ?_⟩
    refine f H0 B Ls [] S z σ H _ h (Cs.go h hq fun y z2 H1 _ x1 hz1 hq1 w hw => ?_)
    have g1 := h.grow x1 hz1
    cases eo : o xv y with
    | none => rw [eo] at hq1; exact hq1.elim
    | some u =>
      rw [eo] at hq1
      cases u with
      | im u =>
        refine sp H1 v w xv y _ _ (b1.mono x1.hid) hw eo fun v' H' G' s ow nd fr => ?_
        have g2 := g1.add (G' := G') (.of_same s) (hz1.new s) nd fr ow.there
        exact hq1 _ H' (g2.put ow hl)
      | _ => exact hq1.elim
@[simp] def oAddI (x y : Val) : Option Val := match x, y with
  | .im (.int i), .im (.int j) => some (.im (.int (i + j)))
  | .im (.str i), .im (.str j) => if i.length + j.length ≤ sizeLine then some (.im (.str (i ++ j))) else none
  | _, _ => none
theorem op2_addI : Op2 X st (fun x y H Q => rI0 (fun i j => V.int (i + j)) x y H Q ∨ (∃ i j, x = .str i ∧ y = .str j ∧ i.length + j.length ≤ sizeLine ∧ Q (.str (i ++ j)) H)) oAddI := by
  intro H va vb xa xb y Q ha hb e q
  unfold oAddI at e
  split at e
  · cases e
    exact .inl ⟨_, _, bor_int ha, bor_int hb, q _ H [] (Same.refl H) (.im (.int _)) List.nodup_nil (fun _ z => by cases z)⟩
  · split at e
    · rename_i hl
      cases e
      obtain ⟨rfl, oa⟩ := bor_str ha
      obtain ⟨rfl, ob⟩ := bor_str hb
      exact .inr ⟨_, _, rfl, rfl, hl, q _ H [] (Same.refl H) (.im (.str _ (sOk_append oa ob hl))) List.nodup_nil (fun _ z => by cases z)⟩
    · cases e
  · cases e
section
variable {x : Str} {e : Expr} {m : ME} {pos' : Pos}
theorem se_augAdd (i : Nat) (hN : X.N.Nodup) (hi : X.N[i]? = some x) (hx : Loc X.env.scope x) (he : RE X W st e m) (hf : X.fn x = true ∨ X.env.scope.names.lookup x = some .local := by first | exact .inl rfl | exact .inr rfl | assumption) :
    SE X W st (.AugAssign (.Name x pos') .Add e pos) (sAug oAddI i m) := se_aug i (iop_add.or iop_add_str) op2_addI hN hi hx he hf
abbrev oSub := oII (fun i j => .int (i - j)) fun _ _ => true
theorem se_augSub (i : Nat) (hN : X.N.Nodup) (hi : X.N[i]? = some x) (hx : Loc X.env.scope x) (he : RE X W st e m) (hf : X.fn x = true ∨ X.env.scope.names.lookup x = some .local := by first | exact .inl rfl | exact .inr rfl | assumption) :
    SE X W st (.AugAssign (.Name x pos') .Sub e pos) (sAug oSub i m) := se_aug i iop_sub op2_I0 hN hi hx he hf
end

/-! ### targets -/
abbrev MGt := T → List Sv → Option (List Sv)
def GE (X : Cx) (st : Option Addr) (tg : Expr) (g : MGt) : Prop := ∃ t, PG X tg t ∧ ∀ H0 B Ls S z σ H v u S' (Q : L2.St → Hp → Prop), Stt X.K st H0 B Ls [] S z σ H → RepT X.K H v u → g u S = some S' → (∀ σ', Stt X.K st H0 B Ls [] S' z σ' H → Q σ' H) → t v σ H Q
def GEs (X : Cx) (st : Option Addr) (tg : List Expr) (g : List T → List Sv → Option (List Sv)) : Prop := ∃ t, PGs X tg t ∧ ∀ H0 B Ls S z σ H vs us S' (Q : L2.St → Hp → Prop), Stt X.K st H0 B Ls [] S z σ H → RepTs X.K H vs us → g us S = some S' → (∀ σ', Stt X.K st H0 B Ls [] S' z σ' H → Q σ' H) → t vs σ H Q
@[simp] def gN (i : Nat) : MGt := fun u S => if i < S.length then some (S.set i (.o (.im u))) else none
theorem ge_name (i : Nat) {x : Str} (hN : X.N.Nodup) (hi : X.N[i]? = some x) (hx : Loc X.env.scope x) (hf : X.fn x = true ∨ X.env.scope.names.lookup x = some .local := by first | exact .inl rfl | exact .inr rfl | assumption) : GE X st (.Name x pos) (gN i) := by
  refine ⟨gName i, pg_name hN hi hx hf, fun H0 B Ls S z σ H v u S' Q h r e q => ?_⟩
  unfold gN at e
  split at e
  · rename_i hl
    cases e
    exact q _ (Stt.put (G' := []) (G := []) h (.im r) hl)
  · cases e
@[simp] def gsNil : List T → List Sv → Option (List Sv) := fun us S => match us with
  | [] => some S
  | _ => none
@[simp] def gsCons (g : MGt) (gs : List T → List Sv → Option (List Sv)) : List T → List Sv → Option (List Sv) := fun us S => match us with
  | u :: us => match g u S with
    | some S' => gs us S'
    | none => none
  | [] => none
theorem ges_nil : GEs X st [] gsNil := by
  refine ⟨gNil, pgs_nil, fun H0 B Ls S z σ H vs us S' Q h r e q => ?_⟩
  cases us with
  | nil => cases e; cases r; exact ⟨rfl, q σ h⟩
  | cons u us => cases e
theorem ges_cons {e : Expr} {es : List Expr} {g : MGt} {gs : List T → List Sv → Option (List Sv)} (h1 : GE X st e g) (h2 : GEs X st es gs)
    (hs : (assignEach (e :: es) X.env).map (·.2) = assign e X.env :: (assignEach es X.env).map (·.2) := by rfl) : GEs X st (e :: es) (gsCons g gs) := by
  obtain ⟨t, p, f⟩ := h1
  obtain ⟨ts, ps, fs⟩ := h2
  refine ⟨gCons t ts, pgs_cons p ps hs, fun H0 B Ls S z σ H vs us S' Q h r e q => ?_⟩
  cases us with
  | nil => cases e
  | cons u us =>
    cases r with
    | cons r1 r2 =>
      simp only [gsCons] at e
      split at e
      · rename_i S1 e1
        exact ⟨_, _, rfl, f H0 B Ls S z σ H _ u S1 _ h r1 e1 fun σ1 h1 => fs H0 B Ls S1 z σ1 H _ us S' Q h1 r2 e q⟩
      · cases e
@[simp] def gT (gs : List T → List Sv → Option (List Sv)) : MGt := fun u S => match u with
  | .tup us => gs us S
  | _ => none
theorem gs_len {es : List Expr} {gs : List T → List Sv → Option (List Sv)} : True := trivial
theorem ge_tup {es : List Expr} {k n : Nat} {gs : List T → List Sv → Option (List Sv)} (hc : X.calm = true) (h : GEs X st es gs) (hl : ∀ us S S', gs us S = some S' → us.length = n)
    (hn : (assignEach es X.env).length = n := by rfl) (hst : (assignEach es X.env).findIdx? (·.1) = none := by rfl) : GE X st (.Tuple es k pos) (gT gs) := by
  obtain ⟨t, p, f⟩ := h
  refine ⟨gTup X.K n t, pg_tup hc p hn hst, fun H0 B Ls S z σ H v u S' Q h r e q => ?_⟩
  cases u with
  | tup us =>
    cases r with
    | tup r1 r2 => exact ⟨_, _, rfl, r1, by rw [r2.length]; exact hl us S S' e, f H0 B Ls S z σ H _ us S' Q h r2 e q⟩
  | _ => cases e
/-- a, b = e -/
@[simp] def sAsg (g : MGt) (gl : List T → List Sv → Option (List Sv)) (m : ME) : MS := fun S z => (m S z).go S fun x z => match x with
  | .im u => match g u S with
    | some S' => .nx S' z
    | none => .no
  | .il us => match gl us S with
    | some S' => .nx S' z
    | none => .no
  | _ => .no
theorem se_unp {es : List Expr} {k n : Nat} {tp : Pos} {e : Expr} {gs : List T → List Sv → Option (List Sv)} {m : ME} (hc : X.calm = true) (he : RE X W st e m) (h : GEs X st es gs) (hl : ∀ us S S', gs us S = some S' → us.length = n)
    (hn : (assignEach es X.env).length = n := by rfl) (hst : (assignEach es X.env).findIdx? (·.1) = none := by rfl)
    (hs : swapsWithSole [.Tuple es k tp] e pos.line X.env = pure false := by rfl) (hw : swappedStores [.Tuple es k tp] e X.env = pure none := by rfl)
    (h1 : (assignEach [.Tuple es k tp] X.env).map (·.2) = [assign (.Tuple es k tp) X.env] := by rfl) : SE X W st (.Assign [.Tuple es k tp] e pos) (sAsg (gT gs) gs m) := by
  obtain ⟨t, p, f⟩ := he
  obtain ⟨tg, pg, fg⟩ := h
  have both : PG X (.Tuple es k tp) (fun v σ H Q => gTup X.K n tg v σ H Q ∨ gLst X.K n tg v σ H Q) := ⟨fun pins s σ H v u Q I r q => q.elim ((pg_tup hc pg hn hst).run pins s σ H v u Q I r) ((pg_lst hc pg hn hst).run pins s σ H v u Q I r)⟩
  refine ⟨_, ps_asg p both hs hw h1, fun H0 B Ls S z σ H D h hq => ?_⟩
  refine f H0 B Ls [] S z σ H _ h (Cs.go h hq fun x z1 H1 _ x1 hz1 hq1 v hv => ?_)
  have g1 := h.grow x1 hz1
  have hv := bor_hid hv
  cases x with
  | im u =>
    cases u with
    | tup us =>
      dsimp only [gT] at hq1
      split at hq1
      · rename_i S' e
        cases hv with
        | im hv =>
          cases hv with
          | tup r1 r2 => exact .inl ⟨_, _, rfl, r1, by rw [r2.length]; exact hl us S S' e, fg H0 B Ls S z1 σ H1 _ us S' _ g1 r2 e fun σ' h' => hq1 σ' H1 h'⟩
      · exact hq1.elim
    | _ => exact hq1.elim
  | il us =>
    dsimp only at hq1
    split at hq1
    · rename_i S' e
      cases hv with
      | il r1 r2 => exact .inr ⟨_, _, rfl, .of r1, by rw [r2.length]; exact hl us S S' e, fg H0 B Ls S z1 σ H1 _ us S' _ g1 r2 e fun σ' h' => hq1 σ' H1 h'⟩
    · exact hq1.elim
  | _ => exact hq1.elim

/-! ### while -/
def whN (c : MT) (b : MS) : Nat → MS
  | 0, _, _ => .no
  | n + 1, S, z => (c S z).go S fun k z => if k = true then match b S z with
    | .nx S z => whN c b n S z
    | .ct S z => whN c b n S z
    | .bk S z => .nx S z
    | r => r
    else .nx S z
theorem whN_more {c : MT} {b : MS} : ∀ {n : Nat} {S : List Sv} {z : Zs}, whN c b n S z ≠ .no → whN c b (n + 1) S z = whN c b n S z
  | 0, S, z, h => absurd rfl h
  | n + 1, S, z, h => by
    unfold whN at h ⊢
    cases e : c S z with
    | no => rfl
    | ex d z1 => rfl
    | ok k z1 =>
      rw [e] at h
      simp only [Rs.go_ok] at h ⊢
      cases k with
      | false => rfl
      | true =>
        simp only [if_true] at h ⊢
        cases e2 : b S z1 with
        | nx S2 z2 => rw [e2] at h; exact whN_more h
        | ct S2 z2 => rw [e2] at h; exact whN_more h
        | _ => rfl
theorem whN_ge {c : MT} {b : MS} {n m : Nat} {S : List Sv} {z : Zs} (h : whN c b n S z ≠ .no) (hm : n ≤ m) : whN c b m S z = whN c b n S z := by
  induction m with
  | zero => have : n = 0 := by omega
            subst this; rfl
  | succ m ih =>
    by_cases e : n = m + 1
    · subst e; rfl
    · have := ih (by omega)
      rw [← this]
      exact whN_more (by rw [this]; exact h)
open Classical in
noncomputable def sWh (c : MT) (b : MS) : MS := fun S z => if h : ∃ n, whN c b n S z ≠ .no then whN c b (Classical.choose h) S z else .no
theorem sWh_of {c : MT} {b : MS} {n : Nat} {S : List Sv} {z : Zs} (h : whN c b n S z ≠ .no) : sWh c b S z = whN c b n S z := by
  have hx : ∃ n, whN c b n S z ≠ .no := ⟨n, h⟩
  unfold sWh
  rw [dif_pos hx]
  have q := Classical.choose_spec hx
  rcases Nat.le_total n (Classical.choose hx) with hm | hm
  · exact whN_ge h hm
  · exact (whN_ge q hm).symm
theorem sWh_ex {c : MT} {b : MS} {S : List Sv} {z : Zs} (h : sWh c b S z ≠ .no) : ∃ n, whN c b n S z = sWh c b S z := by
  by_cases hx : ∃ n, whN c b n S z ≠ .no
  · obtain ⟨n, hn⟩ := hx
    exact ⟨n, (sWh_of hn).symm⟩
  · unfold sWh at h
    rw [dif_neg hx] at h
    exact absurd rfl h
/-- one turn -/
theorem sWh_eq (c : MT) (b : MS) (S : List Sv) (z : Zs) : sWh c b S z = (c S z).go S fun k z => if k = true then match b S z with
    | .nx S z => sWh c b S z
    | .ct S z => sWh c b S z
    | .bk S z => .nx S z
    | r => r
    else .nx S z := by
  cases e : c S z with
  | no =>
    by_cases hx : ∃ n, whN c b n S z ≠ .no
    · obtain ⟨n, hn⟩ := hx
      cases n with
      | zero => exact absurd rfl hn
      | succ n => unfold whN at hn; rw [e] at hn; exact absurd rfl hn
    · unfold sWh; rw [dif_neg hx]; rfl
  | ex d z1 =>
    have : whN c b 1 S z = .xc d S z1 := by unfold whN; rw [e]; rfl
    rw [sWh_of (n := 1) (by rw [this]; intro q; cases q), this]; rfl
  | ok k z1 =>
    simp only [Rs.go_ok]
    cases k with
    | false =>
      have : whN c b 1 S z = .nx S z1 := by unfold whN; rw [e]; rfl
      rw [sWh_of (n := 1) (by rw [this]; intro q; cases q), this]; rfl
    | true =>
      simp only [if_true]
      have step : ∀ n, whN c b (n + 1) S z = match b S z1 with
          | .nx S z => whN c b n S z
          | .ct S z => whN c b n S z
          | .bk S z => .nx S z
          | r => r := fun n => by rw [whN, e]; rfl
      have rec2 : ∀ S2 z2, (∀ n, whN c b (n + 1) S z = whN c b n S2 z2) → sWh c b S z = sWh c b S2 z2 := fun S2 z2 hs => by
        by_cases hx : ∃ n, whN c b n S2 z2 ≠ .no
        · obtain ⟨n, hn⟩ := hx
          rw [sWh_of hn, sWh_of (n := n + 1) (by rw [hs]; exact hn), hs]
        · have : ¬ ∃ n, whN c b n S z ≠ .no := fun ⟨n, hn⟩ => by
            cases n with
            | zero => exact hn rfl
            | succ n => exact hx ⟨n, by rw [← hs]; exact hn⟩
          unfold sWh
          rw [dif_neg hx, dif_neg this]
      have fin : ∀ r, r ≠ Ro.no → (∀ n, whN c b (n + 1) S z = r) → sWh c b S z = r := fun r hr hs => by
        rw [sWh_of (n := 1) (by rw [hs]; exact hr), hs]
      cases e2 : b S z1 with
      | nx S2 z2 => exact rec2 S2 z2 fun n => by rw [step, e2]
      | ct S2 z2 => exact rec2 S2 z2 fun n => by rw [step, e2]
      | bk S2 z2 => exact fin _ (by intro q; cases q) fun n => by rw [step, e2]
      | rt x z2 => exact fin _ (by intro q; cases q) fun n => by rw [step, e2]
      | ro x S2 z2 => exact fin _ (by intro q; cases q) fun n => by rw [step, e2]
      | xc d S2 z2 => exact fin _ (by intro q; cases q) fun n => by rw [step, e2]
      | no =>
        have : ¬ ∃ n, whN c b n S z ≠ .no := fun ⟨n, hn⟩ => by
          cases n with
          | zero => exact hn rfl
          | succ n => rw [step, e2] at hn; exact hn rfl
        unfold sWh
        rw [dif_neg this]
theorem se_while {c : Expr} {body : List Stmt} {mc : MT} {mb : MS} (hp : PassesOwn (model X.prog X.w) X.A X.env X.xe) (hc : RT X W st c mc) (hb : SEs X W st body mb) : SE X W st (.While c body [] pos) (sWh mc mb) := by
  obtain ⟨tc, pc, fc⟩ := hc
  obtain ⟨tb, pb, fb⟩ := hb
  refine ⟨tWhile tc tb, ps_while hp pc pb, fun H0 B Ls S z σ H D h hq => ?_⟩
  have ne : sWh mc mb S z ≠ .no := fun q => by rw [q] at hq; exact hq
  obtain ⟨n0, hn0⟩ := sWh_ex ne
  rw [← hn0] at hq
  refine ⟨fun m σ H => ∃ S z, Stt X.K st H0 B Ls [] S z σ H ∧ Cs X W st H0 B Ls D (whN mc mb m S z), ⟨n0, S, z, h, hq⟩, ?_⟩
  rintro m σ1 H1 ⟨S1, z1, h1, q1⟩
  cases m with
  | zero => exact q1.elim
  | succ m =>
    unfold whN at q1
    refine fc H0 B Ls [] S1 z1 σ1 H1 _ h1 (Cs.go h1 q1 fun k z2 H2 _ x2 hz2 hq2 => ?_)
    have g2 := h1.grow x2 hz2
    cases k with
    | false => exact iteF (hq2 σ1 H2 g2)
    | true =>
      refine iteT ⟨fun σ' H' => ∃ S z, Stt X.K st H0 B Ls [] S z σ' H' ∧ Cs X W st H0 B Ls D (whN mc mb m S z), fun σ' H' q => ⟨m, Nat.lt_succ_self m, q⟩, ?_⟩
      refine fb H0 B Ls S1 z2 σ1 H2 _ g2 ?_
      simp only [if_true] at hq2
      cases e2 : mb S1 z2 with
      | nx S2 z3 => rw [e2] at hq2; exact fun σ3 H3 h3 => ⟨S2, z3, h3, hq2⟩
      | ct S2 z3 => rw [e2] at hq2; exact fun σ3 H3 h3 => ⟨S2, z3, h3, hq2⟩
      | bk S2 z3 => rw [e2] at hq2; exact hq2
      | rt x z3 => rw [e2] at hq2; exact hq2
      | ro x S2 z3 => rw [e2] at hq2; exact hq2
      | xc d S2 z3 => rw [e2] at hq2; exact hq2
      | no => rw [e2] at hq2; exact hq2
end
end MM

/-! MJ: for over lists and tuples, over ranges, two at once. -/
namespace MM
open PySem PySem.Spec PyProof.Rows L2
section
variable {X : Cx} {W : WX} {st : Option Addr} {pos : Pos}
/-- a list or a tuple that is walked -/
def iAny (K : PySem.W.Frag) (tl : TE) : TI := fun σ H R => tl σ H fun x H1 => (∃ a, x = .ref a ∧ (∃ xs, SqL K H1 a xs) ∧ R (Itl K a) H1) ∨ ∃ a, x = .ref a ∧ (∃ xs, SqT K H1 a xs) ∧ R (Itt K a) H1
theorem pi_any {tg l : Expr} {tl : TE} (hl : PE X l tl) : PI X tg l (iAny X.K tl) := by
  refine ⟨fun pins s σ H R I h => ?_⟩
  refine thn (hl.run pins s σ H _ I h) fun v s1 ⟨x, H1, I1, r1, q1⟩ => ?_
  have one : ∀ {b : Addr}, b ∈ [s1.heap.objs.size] → FpOk X pins H1 b := fun {b} hb => by
    have e : b = s1.heap.objs.size := by simpa using hb
    subst e
    exact I1.fpOk (Nat.le_refl _) (I1.hok.fresh (Nat.le_refl _))
  rcases q1 with ⟨a, e, ⟨xs, hq⟩, q⟩ | ⟨a, e, ⟨xs, hq⟩, q⟩
  · subst e
    cases r1
    obtain ⟨its, rv, p, hz⟩ := I1.list hq
    refine wpAny_pyIter_list p.isList ?_
    exact ⟨s1.heap.objs.size, [s1.heap.objs.size], _, _, H1, rfl, I1.kept (t' := s1.toks) fun b o e => Heap.get?_push_of_some _ e, turn_list a _, ⟨_, Heap.get?_push_size _ rfl, rfl, rfl⟩, fun b hb => one hb, q⟩
  · subst e
    cases r1
    obtain ⟨its, rv, p, hz⟩ := I1.tuple hq
    refine wpAny_pyIter_tuple (show s1.heap.IsTuple a its.toArray from p) ?_
    exact ⟨s1.heap.objs.size, [s1.heap.objs.size], _, _, H1, rfl, I1.kept (t' := s1.toks) fun b o e => Heap.get?_push_of_some _ e, turn_tuple a _, ⟨_, Heap.get?_push_size _ rfl, rfl, rfl⟩, fun b hb => one hb, q⟩

/-- the turns -/
@[simp] def sTurns (g : MGt) (body : MS) : List T → MS
  | [], S, z => .nx S z
  | t :: ts, S, z => match g t S with
    | some S1 => match body S1 z with
      | .nx S2 z2 => sTurns g body ts S2 z2
      | .ct S2 z2 => sTurns g body ts S2 z2
      | .bk S2 z2 => .nx S2 z2
      | r => r
    | none => .no
/-- the exit of a loop -/
def Ro.map (f : List Sv → Option (List Sv)) : Ro → Ro
  | .nx S z => match f S with
    | some S => .nx S z
    | none => .no
  | .bk S z => match f S with
    | some S => .bk S z
    | none => .no
  | .ct S z => match f S with
    | some S => .ct S z
    | none => .no
  | .xc c S z => match f S with
    | some S => .xc c S z
    | none => .no
  | .rt x z => .rt x z
  | .ro _ _ _ => .no
  | .no => .no
/-- slot i is walked no more -/
@[simp] def unlk (i : Nat) (S : List Sv) : Option (List Sv) := match S[i]? with
  | some (.lk x) => some (S.set i (.o x))
  | _ => none
/-- over what a slot holds -/
@[simp] def sForV (i : Nat) (g : MGt) (body : MS) : MS := fun S z => match S[i]? with
  | some (.o (.il ts)) => (sTurns g body ts (S.set i (.lk (.il ts))) z).map (unlk i)
  | some (.b (.il ts)) => sTurns g body ts S z
  | some (.lk (.il ts)) => sTurns g body ts S z
  | some (.o (.im (.tup ts))) => sTurns g body ts S z
  | some (.b (.im (.tup ts))) => sTurns g body ts S z
  | some (.lk (.im (.tup ts))) => sTurns g body ts S z
  | _ => .no

/-- one turn's soundness -/
theorem turn_ok {g : MGt} {tG : TG} {tb : TS} {mb : MS} (fg : ∀ H0 B Ls S z σ H v u S' (Q : L2.St → Hp → Prop), Stt X.K st H0 B Ls [] S z σ H → RepT X.K H v u → g u S = some S' → (∀ σ', Stt X.K st H0 B Ls [] S' z σ' H → Q σ' H) → tG v σ H Q)
    (fb : ∀ H0 B Ls S z σ H D, Stt X.K st H0 B Ls [] S z σ H → Cs X W st H0 B Ls D (mb S z) → tb D σ H)
    {H0 B H : Hp} {Ls : List (Option (V × Val))} {S : List Sv} {z : Zs} {σ : L2.St} {v : V} {t : T} {ts : List T} {D : Ends} (h : Stt X.K st H0 B Ls [] S z σ H) (r : RepT X.K H v t) (hq : Cs X W st H0 B Ls D (sTurns g mb (t :: ts) S z)) :
    tG v σ H fun σ2 H2 => tb { D with nx := fun σ' H' => ∃ S z, Stt X.K st H0 B Ls [] S z σ' H' ∧ Cs X W st H0 B Ls D (sTurns g mb ts S z), ct := fun σ' H' => ∃ S z, Stt X.K st H0 B Ls [] S z σ' H' ∧ Cs X W st H0 B Ls D (sTurns g mb ts S z), bk := D.nx } σ2 H2 := by
  unfold sTurns at hq
  split at hq
  · rename_i S1 e1
    refine fg H0 B Ls S z σ H v t S1 _ h r e1 fun σ' h' => ?_
    refine fb H0 B Ls S1 z σ' H _ h' ?_
    cases e2 : mb S1 z with
    | nx S2 z3 => rw [e2] at hq; exact fun σ3 H3 h3 => ⟨S2, z3, h3, hq⟩
    | ct S2 z3 => rw [e2] at hq; exact fun σ3 H3 h3 => ⟨S2, z3, h3, hq⟩
    | bk S2 z3 => rw [e2] at hq; exact hq
    | rt x z3 => rw [e2] at hq; exact hq
    | ro x S2 z3 => rw [e2] at hq; exact hq
    | xc d S2 z3 => rw [e2] at hq; exact hq
    | no => rw [e2] at hq; exact hq
  · exact hq.elim

theorem for_core {g : MGt} {tG : TG} {tb : TS} {mb : MS} (fg : ∀ H0 B Ls S z σ H v u S' (Q : L2.St → Hp → Prop), Stt X.K st H0 B Ls [] S z σ H → RepT X.K H v u → g u S = some S' → (∀ σ', Stt X.K st H0 B Ls [] S' z σ' H → Q σ' H) → tG v σ H Q)
    (fb : ∀ H0 B Ls S z σ H D, Stt X.K st H0 B Ls [] S z σ H → Cs X W st H0 B Ls D (mb S z) → tb D σ H)
    {H0 B H : Hp} {Ls : List (Option (V × Val))} {S : List Sv} {z : Zs} {σ : L2.St} {ts : List T} {D : Ends} {a : Addr} {xs : List V} (tup : Bool) (h : Stt X.K st H0 B Ls [] S z σ H) (len : xs.length = ts.length)
    (hd : ∀ S z σ H, Stt X.K st H0 B Ls [] S z σ H → (if tup then SqT X.K H a xs else SqL X.K H a xs) ∧ RepTs X.K H xs ts) (hq : Cs X W st H0 B Ls D (sTurns g mb ts S z)) :
    ∃ W' : Nat → Nat → L2.St → Hp → Prop, (∃ m, W' 0 m σ H) ∧ ∀ i m σ H, W' i m σ H →
      ((if tup then Itt X.K a else Itl X.K a).stop i H ∧ D.nx σ H) ∨ ((if tup then Itt X.K a else Itl X.K a).go i H ∧ ∃ N : L2.St → Hp → Prop, (∀ σ' H', N σ' H' → ∃ m', m' < m ∧ W' (i + 1) m' σ' H') ∧ ∀ x H', (if tup then Itt X.K a else Itl X.K a).yld i H x H' → tG x σ H' fun σ2 H2 => tb { D with nx := N, ct := N, bk := D.nx } σ2 H2) := by
  have step : ∀ i x σ H, xs[i]? = some x → (∃ S z, Stt X.K st H0 B Ls [] S z σ H ∧ Cs X W st H0 B Ls D (sTurns g mb (ts.drop i) S z)) → tG x σ H fun σ2 H2 => tb { D with nx := fun σ H => ∃ S z, Stt X.K st H0 B Ls [] S z σ H ∧ Cs X W st H0 B Ls D (sTurns g mb (ts.drop (i + 1)) S z), ct := fun σ H => ∃ S z, Stt X.K st H0 B Ls [] S z σ H ∧ Cs X W st H0 B Ls D (sTurns g mb (ts.drop (i + 1)) S z), bk := D.nx } σ2 H2 := by
    rintro i x σ1 H1 ex ⟨S1, z1, h1, q1⟩
    obtain ⟨t, et, rt⟩ := (hd S1 z1 σ1 H1 h1).2.getV ex
    have ed : ts.drop i = t :: ts.drop (i + 1) := by
      obtain ⟨hi, e⟩ := List.getElem?_eq_some_iff.mp et
      rw [List.drop_eq_getElem_cons hi, e]
    rw [ed] at q1
    exact turn_ok fg fb h1 rt q1
  have done : ∀ σ H, (∃ S z, Stt X.K st H0 B Ls [] S z σ H ∧ Cs X W st H0 B Ls D (sTurns g mb (ts.drop xs.length) S z)) → D.nx σ H := by
    rintro σ1 H1 ⟨S1, z1, h1, q1⟩
    rw [len, List.drop_length] at q1
    exact q1 σ1 H1 h1
  cases tup with
  | true =>
    refine for_tup (K := X.K) (a := a) (xs := xs) (fun i σ H => ∃ S z, Stt X.K st H0 B Ls [] S z σ H ∧ Cs X W st H0 B Ls D (sTurns g mb (ts.drop i) S z)) ⟨S, z, h, by simpa using hq⟩ (fun i σ H _ ⟨S, z, h, _⟩ => by simpa using (hd S z σ H h).1) step done
  | false =>
    refine for_list (K := X.K) (a := a) (xs := xs) (fun i σ H => ∃ S z, Stt X.K st H0 B Ls [] S z σ H ∧ Cs X W st H0 B Ls D (sTurns g mb (ts.drop i) S z)) ⟨S, z, h, by simpa using hq⟩ (fun i σ H _ ⟨S, z, h, _⟩ => by simpa using (hd S z σ H h).1) step done
/-- the base with the tuples of H and what stands at Gs -/
noncomputable def Bex (B H : Hp) (Gs : List Addr) : Hp := fun b => if b ∈ Gs then H b else match B b with
  | some o => some o
  | none => match H b with
    | some (.tup xs) => some (.tup xs)
    | some (.frz o (.tup xs)) => some (.frz o (.tup xs))
    | some (.frz o (.lst xs)) => some (.frz o (.lst xs))
    | _ => none
theorem Bex.up {B H : Hp} {Gs : List Addr} (hB : Same B H) : Same B (Bex B H Gs) := fun a o e => by
  unfold Bex
  split
  · exact hB a o e
  · rw [e]
theorem Bex.sub {B H : Hp} {Gs : List Addr} (hB : Same B H) : Same (Bex B H Gs) H := fun a o e => by
  unfold Bex at e
  split at e
  · exact e
  · split at e
    · rename_i u q; cases e; exact hB a _ q
    · split at e
      · rename_i q; cases e; exact q
      · rename_i q; cases e; exact q
      · rename_i q; cases e; exact q
      · cases e
theorem Bex.le {B H : Hp} {Gs : List Addr} (hB : Same B H) : Le H (Bex B H Gs) := by
  refine ⟨fun a xs e => ?_, fun a o xs e => ?_, fun a o xs e => ?_⟩
  · unfold Bex
    split
    · exact e
    · split
      · rename_i u q; have := hB a u q; rw [e] at this; exact this.symm
      · rw [e]
  · unfold Bex
    split
    · exact e
    · split
      · rename_i u q; have := hB a u q; rw [e] at this; exact this.symm
      · rw [e]
  · unfold Bex
    split
    · exact e
    · split
      · rename_i u q; have := hB a u q; rw [e] at this; exact this.symm
      · rw [e]
theorem Bex.in_ {B H : Hp} {Gs : List Addr} {a : Addr} (h : a ∈ Gs) : Bex B H Gs a = H a := by unfold Bex; rw [if_pos h]
theorem Bex.none {B H : Hp} {Gs : List Addr} {a : Addr} {o : HO} (h : a ∉ Gs) (hb : B a = none) (e : H a = some o) (m : Mu o) : Bex B H Gs a = Option.none := by
  unfold Bex
  rw [if_neg h, hb, e]
  cases o <;> first | rfl | exact False.elim m

section
variable {K : PySem.W.Frag} {H0 B H : Hp} {Ls : List (Option (V × Val))} {G : List Addr} {S : List Sv} {z : Zs} {σ : L2.St}
/-- more in the base: the tuples of H, and what stands at the new objects Gx -/
theorem Stt.more {Gx : List Addr} (h : Stt K st H0 B Ls (Gx ++ G) S z σ H) : Stt K st H0 (Bex B H Gx) Ls G S z σ H := by
  obtain ⟨Gs, hs, nd, fr⟩ := h.ex
  have nin : ∀ a ∈ G ++ Gs, a ∉ Gx := fun a ha hx => by
    rw [List.append_assoc] at nd
    exact (List.nodup_append.mp nd).2.2 a hx a ha rfl
  refine ⟨h.fr, h.zr, Bex.sub h.ble, h.z0, fun a e => ?_, fun a ha => h.gt a (List.mem_append_right _ ha), fun j v x e => (h.lks j v x e).mono (Bex.up h.ble), Gs, hs, ?_, fun a ha => ⟨(fr a ?_).1, ?_⟩⟩
  · obtain ⟨l, q, _⟩ := h.zr a e
    exact Bex.none (fun hx => h.nst (fr a (by simp [hx])).1 e) (h.bst a e) q True.intro
  · rw [List.append_assoc] at nd
    exact (List.nodup_append.mp nd).2.1
  · rw [List.append_assoc]; exact List.mem_append_right _ ha
  · have hB := (fr a (by rw [List.append_assoc]; exact List.mem_append_right _ ha)).2
    rcases List.mem_append.mp ha with q | q
    · obtain ⟨o, e, m⟩ := h.gt a (List.mem_append_right _ q)
      exact Bex.none (nin a ha) hB e m
    · obtain ⟨o, e, m⟩ := hs.there a q
      exact Bex.none (nin a ha) hB e m
/-- back to less -/
theorem Stt.less {B' : Hp} (h : Stt K st H0 B' Ls G S z σ H) (hb : Same B B') (lk : ∀ (j : Nat) v x, Ls[j]? = some (some (v, x)) → Bor K B v x) : Stt K st H0 B Ls G S z σ H := by
  have nb : ∀ a, B' a = none → B a = none := fun a e => by
    cases q : B a with
    | none => rfl
    | some o => rw [hb a o q] at e; cases e
  obtain ⟨Gs, hs, nd, fr⟩ := h.ex
  exact ⟨h.fr, h.zr, fun a o e => h.ble a o (hb a o e), h.z0, fun a e => nb a (h.bst a e), h.gt, lk, Gs, hs, nd, fun a ha => ⟨(fr a ha).1, nb a (fr a ha).2⟩⟩
end
theorem Cs.less {H0 B B' : Hp} {Ls : List (Option (V × Val))} {D : Ends} {r : Ro} (hb : Same B B') (lk : ∀ (j : Nat) v x, Ls[j]? = some (some (v, x)) → Bor X.K B v x) (hq : Cs X W st H0 B Ls D r) : Cs X W st H0 B' Ls D r := by
  cases r with
  | nx S z => exact fun σ H h => hq σ H (h.less hb lk)
  | bk S z => exact fun σ H h => hq σ H (h.less hb lk)
  | ct S z => exact fun σ H h => hq σ H (h.less hb lk)
  | xc c S z => exact fun cv d σ H h => hq cv d σ H (h.less hb lk)
  | rt x z => exact fun v H G sx bl => hq v H G sx fun a o e => bl a o (hb a o e)
  | ro x S z => exact fun v σ H G h => hq v σ H G (h.less hb lk)
  | no => exact hq
/-- the tuple that an expression gives -/
@[simp] def sFor (m : ME) (g : MGt) (body : MS) : MS := fun S z => (m S z).go S fun x z => match x with
  | .im (.tup ts) => sTurns g body ts S z
  | .im (.ls ts) => sTurns g body ts S z
  | .il ts => sTurns g body ts S z
  | _ => .no
theorem se_for {tg iter : Expr} {body : List Stmt} {m : ME} {g : MGt} {mb : MS} (hp : PassesOwn (model X.prog X.w) X.A X.env X.xe) (hc : X.calm = true) (hi : FE X W st iter m) (hg : GE X st tg g) (hb : SEs X W st body mb)
    (hs : ∀ x, foldedSetIterable iter X.env x = pure x := by intro _; rfl) : SE X W st (.For tg iter body [] pos) (sFor m g mb) := by
  obtain ⟨t, p, f⟩ := hi
  obtain ⟨tG, pG, fg⟩ := hg
  obtain ⟨tb, pb, fb⟩ := hb
  refine ⟨_, ps_for hp hc (pi_any p) pG pb hs, fun H0 B Ls S z σ H D h hq => ?_⟩
  refine f H0 B Ls [] S z σ H _ h (Cs.go h hq fun x z1 H1 _ x1 hz1 hq1 v G' ow h1 => ?_)
  have up := Bex.up (Gs := G') h1.ble
  have h2 := h1.more
  have od : Own X.K (Bex B H1 G') v x G' := ow.mono (Bex.le h1.ble) fun a ha o e => by rw [Bex.in_ ha]; exact e
  cases x with
  | im u =>
    cases u with
    | tup ts =>
      cases od with
      | im r =>
        cases r with
        | @tup a xs _ r1 r2 =>
          refine .inr ⟨a, rfl, ⟨xs, (Le.of_same h2.ble).sqt r1⟩, ?_⟩
          exact for_core fg fb true h2 r2.length (fun S z σ H h => ⟨by simpa using (Le.of_same h.ble).sqt r1, r2.mono (Le.of_same h.ble)⟩) (Cs.less up h1.lks hq1)
    | ls ts =>
      cases od with
      | im r =>
        cases r with
        | @ls a o xs _ r1 r2 =>
          refine .inl ⟨a, rfl, ⟨xs, .inl (.inr ⟨o, h2.ble _ _ r1⟩)⟩, ?_⟩
          exact for_core fg fb false h2 r2.length (fun S z σ H h => ⟨by simpa using (show SqL X.K H a xs from .inl (.inr ⟨o, h.ble _ _ r1⟩)), r2.mono (Le.of_same h.ble)⟩) (Cs.less up h1.lks hq1)
    | _ => exact hq1.elim
  | il ts =>
    cases od with
    | @il a xs _ r1 r2 =>
      refine .inl ⟨a, rfl, ⟨xs, .of (h2.ble _ _ r1)⟩, ?_⟩
      exact for_core fg fb false h2 r2.length (fun S z σ H h => ⟨by simpa using SqL.of (h.ble _ _ r1), r2.mono (Le.of_same h.ble)⟩) (Cs.less up h1.lks hq1)
  | _ => exact hq1.elim

/-! ### over a slot -/
theorem SlS.setL {K : PySem.W.Frag} {B H : Hp} {Ls : List (Option (V × Val))} {S : List Sv} {σ : L2.St} {i : Nat} {Gs : List Addr} (h : SlS K st B H Ls σ S Gs) (hi : i < S.length) {l : Option (V × Val)} {y : Sv} {w : Option V} {G2 : List Addr} (s : SlS K st B H [l] [w] [y] G2) :
    ∃ Ga Gm Gb, Gs = Ga ++ Gm ++ Gb ∧ SlS K st B H (Ls.set i l) (σ.set i w) (S.set i y) (Ga ++ G2 ++ Gb) := by
  induction h generalizing i with
  | nil => simp at hi
  | un h ih =>
    cases i with
    | zero => exact ⟨[], [], _, by simp; rfl, by simpa using s.put h⟩
    | succ i =>
      obtain ⟨Ga, Gm, Gb, e, q⟩ := ih (i := i) (by simpa using hi)
      exact ⟨Ga, Gm, Gb, e, .un q⟩
  | b h g ih =>
    cases i with
    | zero => exact ⟨[], [], _, by simp; rfl, by simpa using s.put g⟩
    | succ i =>
      obtain ⟨Ga, Gm, Gb, e, q⟩ := ih (i := i) (by simpa using hi)
      exact ⟨Ga, Gm, Gb, e, .b h q⟩
  | @o l0 v0 x0 Ls0 σ0 S0 G0 Gr h g ih =>
    cases i with
    | zero => exact ⟨[], G0, Gr, by simp, by simpa using s.put g⟩
    | succ i =>
      obtain ⟨Ga, Gm, Gb, e, q⟩ := ih (i := i) (by simpa using hi)
      exact ⟨G0 ++ Ga, Gm, Gb, by rw [e]; simp, by simpa using SlS.o (l := l0) h q⟩
  | s h g ih =>
    cases i with
    | zero => exact ⟨[], [], _, by simp; rfl, by simpa using s.put g⟩
    | succ i =>
      obtain ⟨Ga, Gm, Gb, e, q⟩ := ih (i := i) (by simpa using hi)
      exact ⟨Ga, Gm, Gb, e, .s h q⟩
  | lk g ih =>
    cases i with
    | zero => exact ⟨[], [], _, by simp; rfl, by simpa using s.put g⟩
    | succ i =>
      obtain ⟨Ga, Gm, Gb, e, q⟩ := ih (i := i) (by simpa using hi)
      exact ⟨Ga, Gm, Gb, e, .lk q⟩
  | @a v0 x0 x1 Ls0 σ0 S0 G0 Gr h g ih =>
    cases i with
    | zero => exact ⟨[], G0, Gr, by simp, by simpa using s.put g⟩
    | succ i =>
      obtain ⟨Ga, Gm, Gb, e, q⟩ := ih (i := i) (by simpa using hi)
      exact ⟨G0 ++ Ga, Gm, Gb, by rw [e]; simp, by simpa using SlS.a (x0 := x1) h q⟩
theorem set_same {α : Type} {l : List α} {i : Nat} {a : α} (e : l[i]? = some a) : l.set i a = l := by
  apply List.ext_getElem?
  intro k
  rw [List.getElem?_set]
  split
  · rename_i c
    subst c
    split
    · exact e.symm
    · rename_i c; rw [List.getElem?_eq_none (by omega)]
  · rfl
/-- an owned slot is walked -/
theorem Stt.lock {K : PySem.W.Frag} {H0 B H : Hp} {Ls : List (Option (V × Val))} {S : List Sv} {z : Zs} {σ : L2.St} {i : Nat} {x : Val} (h : Stt K st H0 B Ls [] S z σ H) (e : S[i]? = some (.o x)) :
    ∃ v Gi, σ[i]? = some (some v) ∧ Own K (Bex B H Gi) v x Gi ∧ Gi.Nodup ∧ (∀ a ∈ Gi, H0 a = none ∧ B a = none) ∧ Stt K st H0 (Bex B H Gi) (Ls.set i (some (v, x))) [] (S.set i (.lk x)) z σ H := by
  obtain ⟨Gs, hs, nd, fr⟩ := h.ex
  obtain ⟨v, Gi, Ga, Gb, e1, o1, eg, put⟩ := hs.get_o e
  rw [List.nil_append] at nd fr
  subst eg
  have od : Own K (Bex B H Gi) v x Gi := o1.mono (Bex.le h.ble) fun a ha o e => by rw [Bex.in_ ha]; exact e
  have put' := put (hid st H0) H (some (v, x)) (.lk x) (some v) [] (fun _ _ q => q) (Le.refl H) (fun _ _ _ q => q) (.lk .nil)
  rw [set_same e1] at put'
  have nd1 := (List.nodup_append.mp nd)
  have nd2 := (List.nodup_append.mp nd1.1)
  have nin : ∀ a ∈ Ga ++ [] ++ Gb, a ∉ Gi := fun a ha hi => by
    simp only [List.append_nil, List.mem_append] at ha
    rcases ha with q | q
    · exact nd2.2.2 a q a hi rfl
    · exact nd1.2.2 a (List.mem_append_right _ hi) a q rfl
  refine ⟨v, Gi, e1, od, nd2.2.1, fun a ha => fr a (by simp [ha]), h.fr, h.zr, Bex.sub h.ble, h.z0, fun a c => ?_, fun a ha => by simp at ha, fun j w y ej => ?_, _, put', ?_, fun a ha => ?_⟩
  · obtain ⟨l, q, _⟩ := h.zr a c
    exact Bex.none (fun hx => h.nst (fr a (by simp [hx])).1 c) (h.bst a c) q True.intro
  · rw [List.getElem?_set] at ej
    split at ej
    · split at ej
      · injection ej with ej
        injection ej with ej
        injection ej with e1 e2
        subst e1 e2
        exact od.bor
      · cases ej
    · exact (h.lks j w y ej).mono (Bex.up h.ble)
  · simp only [List.nil_append, List.append_nil]
    exact nd.sublist (List.Sublist.append_right (List.sublist_append_left Ga Gi) Gb)
  · have ha' : a ∈ Ga ++ Gi ++ Gb := by
      simp only [List.nil_append, List.append_nil, List.mem_append] at ha ⊢
      rcases ha with q | q
      · exact .inl (.inl q)
      · exact .inr q
    obtain ⟨o, q, m⟩ := hs.there a ha'
    exact ⟨(fr a ha').1, Bex.none (nin a (by simpa using ha)) (fr a ha').2 q m⟩
/-- and no more -/
theorem Stt.unlock {K : PySem.W.Frag} {H0 B B' H : Hp} {Ls : List (Option (V × Val))} {S : List Sv} {z : Zs} {σ : L2.St} {i : Nat} {v : V} {x y : Val} {Gi : List Addr} (h : Stt K st H0 B' (Ls.set i (some (v, x))) [] S z σ H) (e : S[i]? = some (.lk y)) (hb : Same B B')
    (lk : ∀ (j : Nat) v x, Ls[j]? = some (some (v, x)) → Bor K B v x) (hl : i < Ls.length) (od : Own K B' v x Gi) (nd : Gi.Nodup) (fr : ∀ a ∈ Gi, H0 a = none ∧ B a = none) : y = x ∧ Stt K st H0 B Ls [] (S.set i (.o x)) z σ H := by
  obtain ⟨Gs, hs, nds, frs⟩ := h.ex
  obtain ⟨w, e1, e2⟩ := hs.get_lk e
  rw [List.getElem?_set_self hl] at e2
  injection e2 with e2
  injection e2 with e2
  injection e2 with e2 e3
  subst e2 e3
  refine ⟨rfl, ?_⟩
  have ow : Own K H v x Gi := od.mono (Le.of_same h.ble) fun a _ o q => h.ble a o q
  obtain ⟨Ga, Gm, Gb, eg, q⟩ := hs.setL (i := i) (List.getElem?_eq_some_iff.mp e).1 (l := Ls[i]) (y := .o x) (w := some v) (G2 := Gi ++ []) (.o ow .nil)
  rw [set_same e1, List.set_set, List.append_nil] at q
  have el : Ls.set i Ls[i] = Ls := by simp
  rw [el] at q
  subst eg
  rw [List.nil_append] at nds frs
  have dj : ∀ a ∈ Ga ++ Gm ++ Gb, a ∉ Gi := fun a ha hi => by
    obtain ⟨o, c, _⟩ := od.there a hi
    rw [(frs a ha).2] at c; cases c
  have nb : ∀ a, B' a = none → B a = none := fun a e => by
    cases q : B a with
    | none => rfl
    | some o => rw [hb a o q] at e; cases e
  refine ⟨h.fr, h.zr, fun a o e => h.ble a o (hb a o e), h.z0, fun a e => nb a (h.bst a e), fun a ha => by simp at ha, lk, _, q, ?_, fun a ha => ?_⟩
  · rw [List.nil_append]
    refine nodup_mid (Gm := Gm) ?_
    refine List.nodup_append.mpr ⟨nd, nds, fun a ha b hb e => ?_⟩
    subst e
    exact dj a hb ha
  · simp only [List.nil_append, List.mem_append] at ha
    rcases ha with (q | q) | q
    · have := frs a (by simp [q]); exact ⟨this.1, nb a this.2⟩
    · exact fr a q
    · have := frs a (by simp [q]); exact ⟨this.1, nb a this.2⟩
theorem unlk_some {i : Nat} {S S' : List Sv} (h : unlk i S = some S') : ∃ x, S[i]? = some (.lk x) ∧ S' = S.set i (.o x) := by
  unfold unlk at h
  split at h
  · cases h; exact ⟨_, by assumption, rfl⟩
  · cases h
theorem Cs.unlock {H0 B B' : Hp} {Ls : List (Option (V × Val))} {D : Ends} {r : Ro} {i : Nat} {v : V} {x : Val} {Gi : List Addr} (hb : Same B B') (lk : ∀ (j : Nat) v x, Ls[j]? = some (some (v, x)) → Bor X.K B v x) (hl : i < Ls.length) (od : Own X.K B' v x Gi) (nd : Gi.Nodup) (fr : ∀ a ∈ Gi, H0 a = none ∧ B a = none)
    (hq : Cs X W st H0 B Ls D (r.map (unlk i))) : Cs X W st H0 B' (Ls.set i (some (v, x))) D r := by
  have go : ∀ {S : List Sv} {z : Zs} {σ : L2.St} {H : Hp} {S' : List Sv}, unlk i S = some S' → Stt X.K st H0 B' (Ls.set i (some (v, x))) [] S z σ H → Stt X.K st H0 B Ls [] S' z σ H := fun {S z σ H S'} e h => by
    obtain ⟨y, e1, rfl⟩ := unlk_some e
    obtain ⟨rfl, q⟩ := h.unlock e1 hb lk hl od nd fr
    exact q
  cases r with
  | nx S z =>
    cases e : unlk i S with
    | none => simp only [Ro.map, e] at hq; exact hq.elim
    | some S' => simp only [Ro.map, e] at hq; exact fun σ H h => hq σ H (go e h)
  | bk S z =>
    cases e : unlk i S with
    | none => simp only [Ro.map, e] at hq; exact hq.elim
    | some S' => simp only [Ro.map, e] at hq; exact fun σ H h => hq σ H (go e h)
  | ct S z =>
    cases e : unlk i S with
    | none => simp only [Ro.map, e] at hq; exact hq.elim
    | some S' => simp only [Ro.map, e] at hq; exact fun σ H h => hq σ H (go e h)
  | xc c S z =>
    cases e : unlk i S with
    | none => simp only [Ro.map, e] at hq; exact hq.elim
    | some S' => simp only [Ro.map, e] at hq; exact fun cv d σ H h => hq cv d σ H (go e h)
  | rt x z => exact fun v H G sx bl => hq v H G sx fun a o e => bl a o (hb a o e)
  | ro x S z => exact hq.elim
  | no => exact hq
theorem se_forV (i : Nat) {x : Str} {xp : Pos} {tg : Expr} {body : List Stmt} {g : MGt} {mb : MS} (hp : PassesOwn (model X.prog X.w) X.A X.env X.xe) (hc : X.calm = true) (hg : GE X st tg g) (hb : SEs X W st body mb)
    (hN : X.N[i]? = some x := by rfl) (hv : Vis X.env.scope x := by first | exact Or.inl rfl | exact Or.inr (Or.inl rfl) | exact Or.inr (Or.inr rfl)) (hd : (x == ("__debug__" : Str)) = false := by decide) (hcd : (x == ("__classdict__" : Str)) = false := by decide)
    (hs : ∀ y, foldedSetIterable (.Name x xp) X.env y = pure y := by intro _; rfl) : SE X W st (.For tg (.Name x xp) body [] pos) (sForV i g mb) := by
  obtain ⟨tG, pG, fg⟩ := hg
  obtain ⟨tb, pb, fb⟩ := hb
  refine ⟨_, ps_for hp hc (pi_any (pe_var hN hv hd hcd)) pG pb hs, fun H0 B Ls S z σ H D h hq => ?_⟩
  have tupc : ∀ {ts : List T} {v : V}, σ[i]? = some (some v) → RepT X.K H v (.tup ts) → Cs X W st H0 B Ls D (sTurns g mb ts S z) → tFor (iAny X.K (tVar i)) tG tb D σ H := fun {ts v} e1 r q => by
    have h2 := Stt.more (Gx := []) (by simpa using h)
    have r' := r.mono (Bex.le (Gs := []) h.ble)
    cases r' with
    | @tup a xs _ r1 r2 =>
      refine ⟨.ref a, e1, .inr ⟨a, rfl, ⟨xs, (Le.of_same h2.ble).sqt r1⟩, ?_⟩⟩
      exact for_core fg fb true h2 r2.length (fun S z σ H h => ⟨by simpa using (Le.of_same h.ble).sqt r1, r2.mono (Le.of_same h.ble)⟩) (Cs.less (Bex.up h.ble) h.lks q)
  obtain ⟨Gs, hsl, nd, fr⟩ := h.ex
  unfold sForV at hq
  split at hq
  · rename_i ts e
    obtain ⟨v, Gi, e1, od, ndi, fri, h2⟩ := h.lock e
    have hl : i < Ls.length := by rw [hsl.lengthL]; exact (List.getElem?_eq_some_iff.mp e).1
    have hq2 := Cs.unlock (Bex.up h.ble) h.lks hl od ndi fri hq
    cases od with
    | @il a xs _ r1 r2 =>
      refine ⟨.ref a, e1, .inl ⟨a, rfl, ⟨xs, .of (h2.ble _ _ r1)⟩, ?_⟩⟩
      exact for_core fg fb false h2 r2.length (fun S z σ H h => ⟨by simpa using SqL.of (h.ble _ _ r1), r2.mono (Le.of_same h.ble)⟩) hq2
  · rename_i ts e
    obtain ⟨v, e1, bw⟩ := hsl.get_b e
    cases bw with
    | @il a xs _ r1 r2 =>
      have up : ∀ {S z σ H}, Stt X.K st H0 B Ls [] S z σ H → Same (hid st H0) H := fun {S z σ H} h a o q => hid_same st H a o (h.fr.hid a o q)
      refine ⟨.ref a, e1, .inl ⟨a, rfl, ⟨xs, .of (up h _ _ r1)⟩, ?_⟩⟩
      exact for_core fg fb false h r2.length (fun S z σ H h => ⟨by simpa using SqL.of (up h _ _ r1), r2.mono (Le.of_same (up h))⟩) hq
  · rename_i ts e
    obtain ⟨v, e1, el⟩ := hsl.get_lk e
    cases h.lks i v _ el with
    | @il a xs _ r1 r2 =>
      refine ⟨.ref a, e1, .inl ⟨a, rfl, ⟨xs, .of (h.ble _ _ r1)⟩, ?_⟩⟩
      exact for_core fg fb false h r2.length (fun S z σ H h => ⟨by simpa using SqL.of (h.ble _ _ r1), r2.mono (Le.of_same h.ble)⟩) hq
  · rename_i ts e
    obtain ⟨v, G1, Ga, Gb, e1, ow, _⟩ := hsl.get_o e
    cases ow with
    | im r => exact tupc e1 r hq
  · rename_i ts e
    obtain ⟨v, e1, bw⟩ := hsl.get_b e
    cases bw with
    | im r => exact tupc e1 ((r.mono (Le.of_same h.fr.hid)).mono (Le.of_same (hid_same st H))) hq
  · rename_i ts e
    obtain ⟨v, e1, el⟩ := hsl.get_lk e
    cases h.lks i v _ el with
    | im r => exact tupc e1 (r.mono (Le.of_same h.ble)) hq
  · exact hq.elim
end
end MM

/-! MK: ranges, comprehensions. -/
namespace MM
open PySem PySem.Spec PyProof.Rows L2
section
variable {X : Cx} {W : WX} {st : Option Addr} {pos : Pos}
def rngI (lo : Int) (n : Nat) : List T := (List.range n).map fun (i : Nat) => T.int (lo + i)
/-- by a shift: a comparison with so great a number makes the kernel unfold it one by one, where the bound is a length -/
def inR (i : Int) : Bool := match i with
  | .ofNat n => Nat.beq (n >>> 62) 0
  | .negSucc n => Nat.beq (n >>> 62) 0
theorem shr_lt {n : Nat} : Nat.beq (n >>> 62) 0 = true ↔ n < 2 ^ 62 := by
  rw [Nat.beq_eq, Nat.shiftRight_eq_div_pow]
  constructor
  · intro h; omega
  · intro h; exact Nat.div_eq_of_lt h
theorem inR_ok {i : Int} (h : inR i = true) : -(2 ^ 62) ≤ i ∧ i < 2 ^ 62 := by
  unfold inR at h
  split at h
  · have := shr_lt.mp h
    simp only [Int.ofNat_eq_natCast]
    omega
  · have := shr_lt.mp h
    omega
theorem inR_iff {i : Int} (h : -(2 ^ 62) ≤ i) (g : i < 2 ^ 62) : inR i = true := by
  unfold inR
  split
  · refine shr_lt.mpr ?_
    simp only [Int.ofNat_eq_natCast] at g
    omega
  · refine shr_lt.mpr ?_
    omega
/-- the ints of a range -/
@[simp] def rngT1 (xs : List Val) : Option (List T) := match xs with
  | [.im (.int j)] => bif inR j then some (rngI 0 j.toNat) else none
  | _ => none
@[simp] def rngT2 (xs : List Val) : Option (List T) := match xs with
  | [.im (.int i), .im (.int j)] => bif inR i && inR j then some (rngI i (j - i).toNat) else none
  | _ => none
@[simp] def sRng (r : List Val → Option (List T)) (ms : MAs) (g : MGt) (body : MS) : MS := fun S z => (ms S z).go S fun xs z => match r xs with
  | some ts => sTurns g body ts S z
  | none => .no
theorem rngI_drop {lo : Int} {n i : Nat} (h : i < n) : (rngI lo n).drop i = .int (lo + i) :: (rngI lo n).drop (i + 1) := by
  have e : (rngI lo n)[i]? = some (.int (lo + i)) := by
    unfold rngI
    rw [List.getElem?_map, List.getElem?_range h]
    rfl
  obtain ⟨hl, e2⟩ := List.getElem?_eq_some_iff.mp e
  rw [List.drop_eq_getElem_cons hl, e2]
theorem rng_core {g : MGt} {tG : TG} {tb : TS} {mb : MS} (fg : ∀ H0 B Ls S z σ H v u S' (Q : L2.St → Hp → Prop), Stt X.K st H0 B Ls [] S z σ H → RepT X.K H v u → g u S = some S' → (∀ σ', Stt X.K st H0 B Ls [] S' z σ' H → Q σ' H) → tG v σ H Q)
    (fb : ∀ H0 B Ls S z σ H D, Stt X.K st H0 B Ls [] S z σ H → Cs X W st H0 B Ls D (mb S z) → tb D σ H)
    {H0 B H : Hp} {Ls : List (Option (V × Val))} {S : List Sv} {z : Zs} {σ : L2.St} {D : Ends} {lo : Int} {n : Nat} (h : Stt X.K st H0 B Ls [] S z σ H) (hq : Cs X W st H0 B Ls D (sTurns g mb (rngI lo n) S z)) :
    ∃ W' : Nat → Nat → L2.St → Hp → Prop, (∃ m, W' 0 m σ H) ∧ ∀ i m σ H, W' i m σ H →
      ((Itr lo n).stop i H ∧ D.nx σ H) ∨ ((Itr lo n).go i H ∧ ∃ N : L2.St → Hp → Prop, (∀ σ' H', N σ' H' → ∃ m', m' < m ∧ W' (i + 1) m' σ' H') ∧ ∀ x H', (Itr lo n).yld i H x H' → tG x σ H' fun σ2 H2 => tb { D with nx := N, ct := N, bk := D.nx } σ2 H2) := by
  refine for_range (fun i σ H => ∃ S z, Stt X.K st H0 B Ls [] S z σ H ∧ Cs X W st H0 B Ls D (sTurns g mb ((rngI lo n).drop i) S z)) ⟨S, z, h, by simpa using hq⟩ (fun i σ1 H1 hi ⟨S1, z1, h1, q1⟩ => ?_) (fun σ1 H1 ⟨S1, z1, h1, q1⟩ => ?_)
  · rw [rngI_drop hi] at q1
    exact turn_ok fg fb h1 (.int _) q1
  · rw [List.drop_eq_nil_of_le (by unfold rngI; simp)] at q1
    exact q1 σ1 H1 h1
theorem rng_one {ms : List Val} {vs : List V} {K : PySem.W.Frag} {H : Hp} {ts : List T} (hv : BorS K H vs ms) (e : rngT1 ms = some ts) : ∃ j, vs = [.int j] ∧ inR j = true ∧ ts = rngI 0 j.toNat := by
  unfold rngT1 at e
  split at e
  · rename_i j
    cases c : inR j with
    | true =>
      rw [c] at e; cases e
      obtain ⟨v, rfl, h⟩ := hv.one
      rw [bor_int h]
      exact ⟨_, rfl, c, rfl⟩
    | false => rw [c] at e; cases e
  · cases e
theorem rng_two {ms : List Val} {vs : List V} {K : PySem.W.Frag} {H : Hp} {ts : List T} (hv : BorS K H vs ms) (e : rngT2 ms = some ts) : ∃ i j, vs = [.int i, .int j] ∧ inR i = true ∧ inR j = true ∧ ts = rngI i (j - i).toNat := by
  unfold rngT2 at e
  split at e
  · rename_i i j
    cases c : inR i && inR j with
    | true =>
      rw [c] at e; cases e
      obtain ⟨v, w, rfl, h, g⟩ := hv.two
      rw [bor_int h, bor_int g]
      simp only [Bool.and_eq_true] at c
      exact ⟨_, _, rfl, c.1, c.2, rfl⟩
    | false => rw [c] at e; cases e
  · cases e
theorem se_rng1 {tg a : Expr} {body : List Stmt} {ms : MAs} {g : MGt} {mb : MS} {p rp : Pos} (hp : PassesOwn (model X.prog X.w) X.A X.env X.xe) (hc : X.calm = true) (hgl : Gl X "range") (hm : X.mg "range" = none) (ha : RA X W st [a] ms) (hg : GE X st tg g) (hb : SEs X W st body mb)
    (hs : starEach [a] X.env = [(false, eval a X.env)] := by rfl) (hf : ∀ x, foldedSetIterable (.Call (.Name "range" p) [a] [] rp) X.env x = pure x := by intro _; rfl) : SE X W st (.For tg (.Call (.Name "range" p) [a] [] rp) body [] pos) (sRng rngT1 ms g mb) := by
  obtain ⟨t, pa, f⟩ := ha
  obtain ⟨tG, pG, fg⟩ := hg
  obtain ⟨tb, pb, fb⟩ := hb
  refine ⟨_, ps_for hp hc (pi_range1 hgl hm pa hs) pG pb hf, fun H0 B Ls S z σ H D h hq => ?_⟩
  refine f H0 B Ls [] S z σ H _ h (Cs.go h hq fun xs z1 H1 _ x1 hz1 hq1 vs hvs => ?_)
  cases e : rngT1 xs with
  | none => rw [e] at hq1; exact hq1.elim
  | some ts =>
    rw [e] at hq1
    obtain ⟨j, rfl, c, rfl⟩ := rng_one hvs e
    obtain ⟨c1, c2⟩ := inR_ok c
    exact ⟨j, rfl, c1, c2, rng_core fg fb (h.grow x1 hz1) hq1⟩
theorem se_rng2 {tg a b : Expr} {body : List Stmt} {ms : MAs} {g : MGt} {mb : MS} {p rp : Pos} (hp : PassesOwn (model X.prog X.w) X.A X.env X.xe) (hc : X.calm = true) (hgl : Gl X "range") (hm : X.mg "range" = none) (ha : RA X W st [a, b] ms) (hg : GE X st tg g) (hb : SEs X W st body mb)
    (hs : starEach [a, b] X.env = [(false, eval a X.env), (false, eval b X.env)] := by rfl) (hs2 : starEach [b] X.env = [(false, eval b X.env)] := by rfl) (hf : ∀ x, foldedSetIterable (.Call (.Name "range" p) [a, b] [] rp) X.env x = pure x := by intro _; rfl) :
    SE X W st (.For tg (.Call (.Name "range" p) [a, b] [] rp) body [] pos) (sRng rngT2 ms g mb) := by
  obtain ⟨t, pa, f⟩ := ha
  obtain ⟨tG, pG, fg⟩ := hg
  obtain ⟨tb, pb, fb⟩ := hb
  refine ⟨_, ps_for hp hc (pi_range2 hgl hm pa hs hs2) pG pb hf, fun H0 B Ls S z σ H D h hq => ?_⟩
  refine f H0 B Ls [] S z σ H _ h (Cs.go h hq fun xs z1 H1 _ x1 hz1 hq1 vs hvs => ?_)
  cases e : rngT2 xs with
  | none => rw [e] at hq1; exact hq1.elim
  | some ts =>
    rw [e] at hq1
    obtain ⟨i, j, rfl, c, d, rfl⟩ := rng_two hvs e
    obtain ⟨c1, c2⟩ := inR_ok c
    obtain ⟨d1, d2⟩ := inR_ok d
    exact ⟨i, j, rfl, ⟨c1, c2, d1, d2⟩, rng_core fg fb (h.grow x1 hz1) hq1⟩

/-! ### comprehensions: [e for x in .. if c], one name -/
/-- slot j is free within -/
def wipS (j : Nat) (S : List Sv) : List Sv := S.set j .un
/-- the turns: S0 the frame with slot j free, acc what is made so far -/
def lcT (j : Nat) (c : MT) (m : ME) (S0 : List Sv) : List T → List T → Zs → Rs Val
  | [], acc, z => .ok (.il acc) z
  | t :: ts, acc, z => if j < S0.length then match c (S0.set j (.o (.im t))) z with
    | .ok true z => match m (S0.set j (.o (.im t))) z with
      | .ok (.im u) z => if acc.length < sizeLine then lcT j c m S0 ts (acc ++ [u]) z else .no
      | _ => .no
    | .ok false z => lcT j c m S0 ts acc z
    | _ => .no
    else .no
@[simp] def tYs : MT := fun _ z => .ok true z
def RTs (X : Cx) (W : WX) (st : Option Addr) (es : List Expr) (m : MT) : Prop := ∃ t, PTs X es t ∧ ∀ H0 B Ls G S z σ H Q, Stt X.K st H0 B Ls G S z σ H → Ct X W st σ H (m S z) (fun x z' H' => Q x H') → t σ H Q
theorem rts_nil : RTs X W st [] tYs := ⟨tYes, pts_nil, fun H0 B Ls G S z σ H Q h hq => hq.ok h.zr⟩
theorem rts_one {c : Expr} {m : MT} (h : RT X W st c m) : RTs X W st [c] m := let ⟨t, p, f⟩ := h; ⟨t, pts_one p, f⟩
abbrev W0 : WX := fun _ _ _ _ => False
theorem SlS.free {K : PySem.W.Frag} {B H : Hp} {Ls : List (Option (V × Val))} {S : List Sv} {σ : L2.St} {i : Nat} {Gs : List Addr} (h : SlS K st B H Ls σ S Gs) {w : Option V} (hi : i < S.length) : ∃ Ga Gm Gb, Gs = Ga ++ Gm ++ Gb ∧ SlS K st B H Ls (σ.set i w) (S.set i .un) (Ga ++ Gb) := by
  obtain ⟨Ga, Gm, Gb, e, q⟩ := h.set hi (y := .un) (w := w) (G2 := []) fun l => .un .nil
  exact ⟨Ga, Gm, Gb, e, by simpa using q⟩

/-- the block's context -/
abbrev Bk (X : Cx) (scope : Scope) (s : Shared) (H : Hp) (C : Addr) (cl : List (Str × Addr)) (fp : List Addr) : Cx := X.blk s H scope (compEnvC scope cl C X.env) fp
theorem re_uni {scope : Scope} {e : Expr} {m : ME} (h : ∀ s H C cl fp, RE (Bk X scope s H C cl fp) W0 st e m) : ∃ t, (∀ s H C cl fp, PE (Bk X scope s H C cl fp) e t) ∧ ∀ H0 B Ls G S z σ H Q, Stt X.K st H0 B Ls G S z σ H →
    Ct X W0 st σ H (m S z) (fun x z' H' => ∀ v, Bor X.K (hid st H') v x → Q v H') → t σ H Q := by
  refine ⟨fun σ H Q => ∀ s H' C cl fp, Classical.choose (h s H' C cl fp) σ H Q, fun s H C cl fp => ?_, fun H0 B Ls G S z σ H Q hs hq s H' C cl fp => ?_⟩
  · exact ⟨fun pins s' σ H' Q I hw => (Classical.choose_spec (h s H C cl fp)).1.run pins s' σ H' Q I (hw s H C cl fp)⟩
  · exact (Classical.choose_spec (h s H' C cl fp)).2 H0 B Ls G S z σ H Q hs hq
theorem rts_uni {scope : Scope} {es : List Expr} {m : MT} (h : ∀ s H C cl fp, RTs (Bk X scope s H C cl fp) W0 st es m) : ∃ t, (∀ s H C cl fp, PTs (Bk X scope s H C cl fp) es t) ∧ ∀ H0 B Ls G S z σ H Q, Stt X.K st H0 B Ls G S z σ H →
    Ct X W0 st σ H (m S z) (fun x z' H' => Q x H') → t σ H Q := by
  refine ⟨fun σ H Q => ∀ s H' C cl fp, Classical.choose (h s H' C cl fp) σ H Q, fun s H C cl fp => ?_, fun H0 B Ls G S z σ H Q hs hq s H' C cl fp => ?_⟩
  · exact ⟨fun pins s' σ H' Q I hw => (Classical.choose_spec (h s H C cl fp)).1.run pins s' σ H' Q I (hw s H C cl fp)⟩
  · exact (Classical.choose_spec (h s H' C cl fp)).2 H0 B Ls G S z σ H Q hs hq
/-- an object on its way is changed -/
theorem Stt.chgG {K : PySem.W.Frag} {H0 B H : Hp} {Ls : List (Option (V × Val))} {G : List Addr} {S : List Sv} {z : Zs} {σ : L2.St} {l : Addr} {o u : HO} (h : Stt K st H0 B Ls (l :: G) S z σ H) (hu : H l = some u) (mu : Mu u) (mo : Mu o) : Stt K st H0 B Ls (l :: G) S z σ (L2.upd H l o) := by
  obtain ⟨Gs, hs, nd, fr⟩ := h.ex
  have fl := fr l (by simp)
  obtain ⟨sx, zr⟩ := SameX.upd h o fl.1
  have nd2 := (List.nodup_cons.mp nd).1
  refine ⟨sx, zr, fun a u' q => ?_, h.z0, h.bst, fun a ha => ?_, h.lks, Gs, ?_, nd, fr⟩
  · rw [upd_ne (ne_of_none q fl.2)]; exact h.ble a u' q
  · by_cases c : a = l
    · subst c; exact ⟨o, upd_same, mo⟩
    · rw [upd_ne c]; exact h.gt a ha
  · exact hs.mono (Le.upd_mu hu mu) fun a ha u' q => by
      rw [upd_ne (fun c => nd2 (by subst c; exact List.mem_append_right _ ha))]; exact q
/-- a slot within a block -/
theorem Stt.slot {K : PySem.W.Frag} {H0 B H : Hp} {Ls : List (Option (V × Val))} {G : List Addr} {S : List Sv} {z : Zs} {σ : L2.St} {j : Nat} {v : V} {t : T} (h : Stt K st H0 B Ls G S z σ H) (hj : j < S.length) (r : RepT K H v t) : Stt K st H0 B Ls G ((S.set j .un).set j (.o (.im t))) z ((σ.set j none).set j (some v)) H := by
  rw [List.set_set, List.set_set]
  exact Stt.put (G' := []) h (.im r) hj
/-- what the block is wanted to give -/
def LcK (K : PySem.W.Frag) (st : Option Addr) (H0 B : Hp) (Ls : List (Option (V × Val))) (G : List Addr) (S : List Sv) (σ : L2.St) (D : Addr) (Q : VK) : Rs Val → Prop
  | .ok (.il acc) z => ∀ H av, Stt K st H0 B Ls (D :: G) S z σ H → H D = some (.lst av) → RepTs K H av acc → Q (.ref D) H
  | _ => False
structure LcP (X : Cx) (st : Option Addr) (H0 B : Hp) (Ls : List (Option (V × Val))) (G : List Addr) (S : List Sv) (σ : L2.St) (D : Addr) (Q : VK) (j : Nat) (c : MT) (m : ME) (H1 : Hp) (ts : List T) (H : Hp) (z : Zs) (acc : List T) (av : List V) : Prop where
  s : Stt X.K st H0 B Ls (D :: G) S z σ H
  d : H D = some (.lst av)
  r : RepTs X.K H av acc
  k : ∀ a o, st ≠ some a → a ≠ D → H1 a = some o → H a = some o
  q : LcK X.K st H0 B Ls G S σ D Q (lcT j c m (wipS j S) ts acc z)
theorem lc_turn {j : Nat} {c : MT} {m : ME} {tt : TT} {te : TE}
    (fc : ∀ H0 B Ls G S z σ H Q, Stt X.K st H0 B Ls G S z σ H → Ct X W0 st σ H (c S z) (fun x z' H' => Q x H') → tt σ H Q)
    (fm : ∀ H0 B Ls G S z σ H Q, Stt X.K st H0 B Ls G S z σ H → Ct X W0 st σ H (m S z) (fun x z' H' => ∀ v, Bor X.K (hid st H') v x → Q v H') → te σ H Q)
    {H0 B H1 H : Hp} {Ls : List (Option (V × Val))} {G : List Addr} {S : List Sv} {σ : L2.St} {D : Addr} {Q : VK} {z : Zs} {acc ts : List T} {av : List V} {t : T} {v : V}
    (P : LcP X st H0 B Ls G S σ D Q j c m H1 (t :: ts) H z acc av) (r : RepT X.K H v t) :
    gName j v (wipe σ [j]) H fun σ2 H2 => wipe σ2 [j] = wipe σ [j] ∧ tt σ2 H2 fun b H3 => if b = true then te σ2 H3 fun y H4 => ∃ acc', H4 D = some (.lst acc') ∧ acc'.length < sizeLine ∧ (∃ z acc av, LcP X st H0 B Ls G S σ D Q j c m H1 ts (L2.upd H4 D (.lst (acc' ++ [y]))) z acc av)
      else ∃ z acc av, LcP X st H0 B Ls G S σ D Q j c m H1 ts H3 z acc av := by
  have hq := P.q
  unfold lcT at hq
  split at hq
  · rename_i hj
    have hj' : j < S.length := by unfold wipS at hj; simpa using hj
    have hs := P.s.slot hj' r
    have nD : st ≠ some D := by
      obtain ⟨Gs, _, _, fr⟩ := P.s.ex
      exact P.s.nst (fr D (by simp)).1
    refine ⟨by simp [wipe], ?_⟩
    show tt ((σ.set j none).set j (some v)) H _
    unfold wipS at hq
    refine fc _ _ _ _ _ _ _ _ _ hs ?_
    cases ec : c ((S.set j .un).set j (.o (.im t))) z with
    | no => rw [ec] at hq; exact hq.elim
    | ex d z1 => rw [ec] at hq; exact hq.elim
    | ok b z1 =>
      rw [ec] at hq
      intro H3 x3 hz3
      have s3 := P.s.grow x3 hz3
      have d3 := x3.k D _ nD P.d
      have r3 := P.r.mono (x3.le P.s.zr)
      cases b with
      | false => exact iteF ⟨z1, acc, av, s3, d3, r3, fun a o h1 h2 h3 => x3.k a o h1 (P.k a o h1 h2 h3), hq⟩
      | true =>
        refine iteT ?_
        refine fm _ _ _ _ _ _ _ _ _ (hs.grow x3 hz3) ?_
        dsimp only at hq
        cases em : m ((S.set j .un).set j (.o (.im t))) z1 with
        | no => rw [em] at hq; exact hq.elim
        | ex d z2 => rw [em] at hq; exact hq.elim
        | ok y z2 =>
          rw [em] at hq
          intro H4 x4 hz4 w hw
          cases y with
          | im u =>
            dsimp only at hq
            split at hq
            · rename_i hl
              have s4 := s3.grow x4 hz4
              have d4 := x4.k D _ nD d3
              have r4 := r3.mono (x4.le s3.zr)
              refine ⟨av, d4, by rw [r4.length]; exact hl, z2, acc ++ [u], av ++ [w], s4.chgG d4 True.intro True.intro, upd_same, ?_, fun a o h1 h2 h3 => ?_, hq⟩
              · cases hw with
                | im hw => exact (r4.append (.one (repT_hid hw))).mono (Le.upd_lst d4)
              · rw [upd_ne h2]
                exact x4.k a o h1 (x3.k a o h1 (P.k a o h1 h2 h3))
            · exact hq.elim
          | _ => exact hq.elim
  · exact hq.elim
@[simp] def eLc (it : ME) (j : Nat) (c : MT) (m : ME) : ME := fun S z => (it S z).bind fun x z => match x with
  | .im (.tup ts) => lcT j c m (wipS j S) ts [] z
  | .im (.ls ts) => lcT j c m (wipS j S) ts [] z
  | .il ts => lcT j c m (wipS j S) ts [] z
  | _ => .no
theorem lcT_ex {j : Nat} {c : MT} {m : ME} {S0 : List Sv} : ∀ {ts acc : List T} {z : Zs} {e : Exc} {z' : Zs}, lcT j c m S0 ts acc z ≠ .ex e z'
  | [], acc, z, e, z' => by intro h; cases h
  | t :: ts, acc, z, e, z' => by
    unfold lcT
    intro h
    split at h
    · split at h
      · split at h
        · split at h
          · exact lcT_ex h
          · cases h
        · cases h
      · exact lcT_ex h
      · cases h
    · cases h
theorem lcT_il {j : Nat} {c : MT} {m : ME} {S0 : List Sv} : ∀ {ts acc : List T} {z : Zs} {x : Val} {z' : Zs}, lcT j c m S0 ts acc z = .ok x z' → ∃ us, x = .il us
  | [], acc, z, x, z', h => by cases h; exact ⟨_, rfl⟩
  | t :: ts, acc, z, x, z', h => by
    unfold lcT at h
    split at h
    · split at h
      · split at h
        · split at h
          · exact lcT_il h
          · cases h
        · cases h
      · exact lcT_il h
      · cases h
    · cases h
theorem SameX.two {K : PySem.W.Frag} {H0 B H1 H' : Hp} {Ls : List (Option (V × Val))} {G G' : List Addr} {S : List Sv} {z z' : Zs} {σ : L2.St} {D : Addr} (h : Stt K st H0 B Ls G S z σ H1) (h' : Stt K st H0 B Ls G' S z' σ H') (nD : H1 D = none) (k : ∀ a o, st ≠ some a → a ≠ D → H1 a = some o → H' a = some o) : SameX st H1 H' := by
  refine ⟨fun a o n e => k a o n (ne_of_none e nD) e, fun a x r e he => ?_⟩
  obtain ⟨z0, hz0⟩ := h.z0
  obtain ⟨l, q, _⟩ := hz0 a e
  obtain ⟨r1, q1⟩ := h.fr.l a _ _ e q
  obtain ⟨r2, q2⟩ := h'.fr.l a _ _ e q
  rw [he] at q1
  injection q1 with q1
  injection q1 with q1
  injection q1 with q1 _
  subst q1
  exact ⟨r2, q2⟩
theorem lc_start {H0 B H1 : Hp} {Ls : List (Option (V × Val))} {G : List Addr} {S : List Sv} {σ : L2.St} {Q : VK} {z1 : Zs} {D : Addr} {j : Nat} {c : MT} {m : ME} {ts : List T} (h1 : Stt X.K st H0 B Ls G S z1 σ H1) (nD : H1 D = none)
    (hq : Ct X W st σ H1 (lcT j c m (wipS j S) ts [] z1) (fun x z' H' => ∀ v G', Own X.K H' v x G' → Stt X.K st H0 B Ls (G' ++ G) S z' σ H' → Q v H')) (mono : ∀ a o, H1 a = some o → True) :
    LcK X.K st H0 B Ls G S σ D (fun v H' => (∀ a o, st ≠ some a → a ≠ D → H1 a = some o → H' a = some o) → Q v H') (lcT j c m (wipS j S) ts [] z1) := by
  cases e : lcT j c m (wipS j S) ts [] z1 with
  | ok x z =>
    obtain ⟨us, rfl⟩ := lcT_il e
    rw [e] at hq
    exact fun H av hs hd r k => hq H (SameX.two h1 hs nD k) hs.zr _ [D] (.il hd r) (by simpa using hs)
  | ex d z => exact absurd e lcT_ex
  | no => rw [e] at hq; exact hq
theorem lc_rd {it : ME} {c : MT} {m : ME} {ti : TE} {tt : TT} {te : TE} (j : Nat)
    (fi : ∀ H0 B Ls G S z σ H Q, Stt X.K st H0 B Ls G S z σ H → Ct X W st σ H (it S z) (fun x z' H' => ∀ v, Bor X.K (hid st H') v x → Q v H') → ti σ H Q)
    (ft : ∀ H0 B Ls G S z σ H Q, Stt X.K st H0 B Ls G S z σ H → Ct X W0 st σ H (c S z) (fun x z' H' => Q x H') → tt σ H Q)
    (fe : ∀ H0 B Ls G S z σ H Q, Stt X.K st H0 B Ls G S z σ H → Ct X W0 st σ H (m S z) (fun x z' H' => ∀ v, Bor X.K (hid st H') v x → Q v H') → te σ H Q) :
    ∀ H0 B Ls G S z σ H Q, Stt X.K st H0 B Ls G S z σ H → Ct X W st σ H (eLc it j c m S z) (fun x z' H' => ∀ v G', Own X.K H' v x G' → Stt X.K st H0 B Ls (G' ++ G) S z' σ H' → Q v H') → tLc (iAny X.K ti) (gName j) tt te [j] σ H Q := by
  intro H0 B Ls G S z σ H Q h hq
  refine fi H0 B Ls G S z σ H _ h (hq.bind fun y z1 H1 _ x1 hz1 hq1 v hv => ?_)
  have h1 := h.grow x1 hz1
  have start : ∀ {ts : List T} {D : Addr}, H1 D = none → Ct X W st σ H1 (lcT j c m (wipS j S) ts [] z1) (fun x z' H' => ∀ v G', Own X.K H' v x G' → Stt X.K st H0 B Ls (G' ++ G) S z' σ H' → Q v H') →
      ∃ z acc av, LcP X st H0 B Ls G S σ D (fun v H' => (∀ a o, st ≠ some a → a ≠ D → H1 a = some o → H' a = some o) → Q v H') j c m H1 ts (L2.upd H1 D (.lst [])) z acc av := fun {ts D} nD hq1 => by
    have sn : Same H1 (L2.upd H1 D (.lst [])) := Same.upd_new nD
    refine ⟨z1, [], [], h1.add (G' := [D]) (.of_same sn) (hz1.new sn) (by simp) (fun a ha => by simp at ha; subst ha; exact nD) (fun a ha => by simp at ha; subst ha; exact ⟨_, upd_same, True.intro⟩), upd_same, .nil, fun a o _ _ e => sn a o e, lc_start h1 nD hq1 fun _ _ _ => trivial⟩
  have fin : ∀ {D : Addr} {H : Hp}, (∃ z acc av, LcP X st H0 B Ls G S σ D (fun v H' => (∀ a o, st ≠ some a → a ≠ D → H1 a = some o → H' a = some o) → Q v H') j c m H1 [] H z acc av) → Q (.ref D) H := fun {D H} ⟨z, acc, av, P⟩ => by
    have hq := P.q
    exact hq H av P.s P.d P.r P.k
  have nst : ∀ {D a : Addr} {o : HO}, H1 D = none → H1 a = some o → a ≠ D := fun {D a o} nD e => ne_of_none e nD
  cases y with
  | im u =>
    cases u with
    | tup ts =>
      cases hv with
      | im hv =>
        cases hv with
        | @tup a xs _ r1 r2 =>
          have r2' := rep_hid r2
          refine .inr ⟨a, rfl, ⟨xs, sqt_hid r1⟩, fun D nD => ?_⟩
          have lek : ∀ {H : Hp}, (∀ b o, st ≠ some b → b ≠ D → H1 b = some o → H b = some o) → Le H1 H := fun {H} k => by
            have nt : ∀ b, st = some b → ∃ ys, H1 b = some (.lst ys) := fun b e => let ⟨l, q, _⟩ := hz1 b e; ⟨_, q⟩
            refine ⟨fun b ys e => k b _ (fun c => ?_) (ne_of_none e nD) e, fun b o ys e => k b _ (fun c => ?_) (ne_of_none e nD) e, fun b o ys e => k b _ (fun c => ?_) (ne_of_none e nD) e⟩
            · obtain ⟨_, q⟩ := nt b c; rw [e] at q; cases q
            · obtain ⟨_, q⟩ := nt b c; rw [e] at q; cases q
            · obtain ⟨_, q⟩ := nt b c; rw [e] at q; cases q
          refine lc_tup (K := X.K) (a := a) (xs := xs) (fun i H => ∃ z acc av, LcP X st H0 B Ls G S σ D _ j c m H1 (ts.drop i) H z acc av) (start nD hq1) (fun i H _ ⟨_, _, _, P⟩ => (lek P.k).sqt (sqt_hid r1)) (fun i w H ew ⟨z2, acc, av, P⟩ => ?_) (fun H P => fin (by rw [r2.length, List.drop_length] at P; exact P))
          obtain ⟨t, et, rt⟩ := r2'.getV ew
          obtain ⟨hl, e2⟩ := List.getElem?_eq_some_iff.mp et
          rw [List.drop_eq_getElem_cons hl, e2] at P
          exact lc_turn ft fe P (rt.mono (lek P.k))
    | ls ts =>
      cases hv with
      | im hv =>
        cases hv with
        | @ls a o xs _ r1 r2 =>
          have r2' := rep_hid r2
          have sq : SqL X.K H1 a xs := .inl (.inr ⟨o, not_hid r1⟩)
          refine .inl ⟨a, rfl, ⟨xs, sq⟩, fun D nD => ?_⟩
          have lek : ∀ {H : Hp}, (∀ b o, st ≠ some b → b ≠ D → H1 b = some o → H b = some o) → Le H1 H := fun {H} k => by
            have nt : ∀ b, st = some b → ∃ ys, H1 b = some (.lst ys) := fun b e => let ⟨l, q, _⟩ := hz1 b e; ⟨_, q⟩
            refine ⟨fun b ys e => k b _ (fun c => ?_) (ne_of_none e nD) e, fun b o ys e => k b _ (fun c => ?_) (ne_of_none e nD) e, fun b o ys e => k b _ (fun c => ?_) (ne_of_none e nD) e⟩
            · obtain ⟨_, q⟩ := nt b c; rw [e] at q; cases q
            · obtain ⟨_, q⟩ := nt b c; rw [e] at q; cases q
            · obtain ⟨_, q⟩ := nt b c; rw [e] at q; cases q
          refine lc_list (K := X.K) (a := a) (xs := xs) (fun i H => ∃ z acc av, LcP X st H0 B Ls G S σ D _ j c m H1 (ts.drop i) H z acc av) (start nD hq1) (fun i H _ ⟨_, _, _, P⟩ => .inl (.inr ⟨o, (lek P.k).2.2 _ _ _ (not_hid r1)⟩)) (fun i w H ew ⟨z2, acc, av, P⟩ => ?_) (fun H P => fin (by rw [r2.length, List.drop_length] at P; exact P))
          obtain ⟨t, et, rt⟩ := r2'.getV ew
          obtain ⟨hl, e2⟩ := List.getElem?_eq_some_iff.mp et
          rw [List.drop_eq_getElem_cons hl, e2] at P
          exact lc_turn ft fe P (rt.mono (lek P.k))
    | _ => exact hq1.elim
  | il ts =>
    cases hv with
    | @il a xs _ r1 r2 =>
      have r2' := rep_hid r2
      have r1' := not_hid r1
      have na : st ≠ some a := fun c => by
        unfold hid at r1
        rw [if_pos c] at r1; cases r1
      refine .inl ⟨a, rfl, ⟨xs, .of r1'⟩, fun D nD => ?_⟩
      have lek : ∀ {H : Hp}, (∀ b o, st ≠ some b → b ≠ D → H1 b = some o → H b = some o) → Le H1 H := fun {H} k => by
        have nt : ∀ b, st = some b → ∃ ys, H1 b = some (.lst ys) := fun b e => let ⟨l, q, _⟩ := hz1 b e; ⟨_, q⟩
        refine ⟨fun b ys e => k b _ (fun c => ?_) (ne_of_none e nD) e, fun b o ys e => k b _ (fun c => ?_) (ne_of_none e nD) e, fun b o ys e => k b _ (fun c => ?_) (ne_of_none e nD) e⟩
        · obtain ⟨_, q⟩ := nt b c; rw [e] at q; cases q
        · obtain ⟨_, q⟩ := nt b c; rw [e] at q; cases q
        · obtain ⟨_, q⟩ := nt b c; rw [e] at q; cases q
      refine lc_list (K := X.K) (a := a) (xs := xs) (fun i H => ∃ z acc av, LcP X st H0 B Ls G S σ D _ j c m H1 (ts.drop i) H z acc av) (start nD hq1) (fun i H _ ⟨_, _, _, P⟩ => .of (P.k a _ na (ne_of_none r1' nD) r1')) (fun i w H ew ⟨z2, acc, av, P⟩ => ?_) (fun H P => fin (by rw [r2.length, List.drop_length] at P; exact P))
      obtain ⟨t, et, rt⟩ := r2'.getV ew
      obtain ⟨hl, e2⟩ := List.getElem?_eq_some_iff.mp et
      rw [List.drop_eq_getElem_cons hl, e2] at P
      exact lc_turn ft fe P (rt.mono (lek P.k))
  | _ => exact hq1.elim
theorem fe_lc {elt tg iter : Expr} {ifs : List Expr} {scope : Scope} {x : Str} {it : ME} {c : MT} {m : ME} (j : Nat) (hc : X.calm = true) (hN : X.N.Nodup) (hi : RE X W st iter it) (ok : BlkOk X.N X.env.scope scope [(x, j)])
    (hg : ∀ s H C cl fp, PG (Bk X scope s H C cl fp) tg (gName j)) (ht : ∀ s H C cl fp, RTs (Bk X scope s H C cl fp) W0 st ifs c) (he : ∀ s H C cl fp, RE (Bk X scope s H C cl fp) W0 st elt m)
    (hs : ∀ x, foldedSetIterable iter X.env x = pure x := by intro _; rfl) : FE X W st (.ListComp elt [⟨tg, iter, ifs, 0⟩] scope pos) (eLc it j c m) := by
  obtain ⟨ti, pi, fi⟩ := hi
  obtain ⟨tt, pt, ft⟩ := rts_uni ht
  obtain ⟨te, pe, fe⟩ := re_uni he
  exact ⟨_, pe_lc hc hN (pi_any pi) ok hg pt pe hs, lc_rd j fi ft fe⟩
theorem se_setLc (i : Nat) {elt tg iter : Expr} {ifs : List Expr} {scope : Scope} {x y : Str} {py lp : Pos} {it : ME} {c : MT} {m : ME} (j : Nat) (hc : X.calm = true) (hN : X.N.Nodup) (hy : X.N[i]? = some y) (hyl : X.env.scope.names.lookup y = some .local)
    (hsw : swapsWith (.ListComp elt [⟨tg, iter, ifs, 0⟩] scope lp) (some (.Name y py)) pos.line X.env = pure true) (hi : RE X W st iter it) (ok : BlkOk X.N X.env.scope scope [(x, j)])
    (hg : ∀ s H C cl fp, PG (Bk X scope s H C cl fp) tg (gName j)) (ht : ∀ s H C cl fp, RTs (Bk X scope s H C cl fp) W0 st ifs c) (he : ∀ s H C cl fp, RE (Bk X scope s H C cl fp) W0 st elt m)
    (hs : ∀ x, foldedSetIterable iter X.env x = pure x := by intro _; rfl) : SE X W st (.Assign [.Name y py] (.ListComp elt [⟨tg, iter, ifs, 0⟩] scope lp) pos) (sSet i (eLc it j c m)) := by
  obtain ⟨ti, pi, fi⟩ := hi
  obtain ⟨tt, pt, ft⟩ := rts_uni ht
  obtain ⟨te, pe, fe⟩ := re_uni he
  refine ⟨_, ps_setLc hc hN hy hyl hsw (pi_any pi) ok hg pt pe hs, fun H0 B Ls S z σ H D h hq => ?_⟩
  unfold sSet at hq
  split at hq
  · rename_i hl
    refine lc_rd j fi ft fe H0 B Ls [] S z σ H _ h (Cs.go h hq fun y z1 H1 _ x1 hz1 hq1 v G' ow h1 => ?_)
    exact hq1 _ H1 (h1.put ow hl)
  · exact hq.elim
/-- .. over range(n) -/
@[simp] def eLcR (r : List Val → Option (List T)) (ms : MAs) (j : Nat) (c : MT) (m : ME) : ME := fun S z => (ms S z).bind fun xs z => match r xs with
  | some ts => lcT j c m (wipS j S) ts [] z
  | none => .no
theorem lcR_rd {ms : MAs} {c : MT} {m : ME} {ti : TA} {tt : TT} {te : TE} (j : Nat)
    (fi : ∀ H0 B Ls G S z σ H Q, Stt X.K st H0 B Ls G S z σ H → Ct X W st σ H (ms S z) (fun xs z' H' => ∀ vs, BorS X.K (hid st H') vs xs → Q vs H') → ti σ H Q)
    (ft : ∀ H0 B Ls G S z σ H Q, Stt X.K st H0 B Ls G S z σ H → Ct X W0 st σ H (c S z) (fun x z' H' => Q x H') → tt σ H Q)
    (fe : ∀ H0 B Ls G S z σ H Q, Stt X.K st H0 B Ls G S z σ H → Ct X W0 st σ H (m S z) (fun x z' H' => ∀ v, Bor X.K (hid st H') v x → Q v H') → te σ H Q) :
    ∀ H0 B Ls G S z σ H Q, Stt X.K st H0 B Ls G S z σ H → Ct X W st σ H (eLcR rngT1 ms j c m S z) (fun x z' H' => ∀ v G', Own X.K H' v x G' → Stt X.K st H0 B Ls (G' ++ G) S z' σ H' → Q v H') → tLc (iRng1 ti) (gName j) tt te [j] σ H Q := by
  intro H0 B Ls G S z σ H Q h hq
  refine fi H0 B Ls G S z σ H _ h (hq.bind fun ys z1 H1 _ x1 hz1 hq1 vs hvs => ?_)
  have h1 := h.grow x1 hz1
  cases e : rngT1 ys with
  | none => rw [e] at hq1; exact hq1.elim
  | some ts =>
    rw [e] at hq1
    obtain ⟨n, rfl, cr, rfl⟩ := rng_one hvs e
    obtain ⟨c1, c2⟩ := inR_ok cr
    refine ⟨n, rfl, c1, c2, fun D nD => ?_⟩
    have sn : Same H1 (L2.upd H1 D (.lst [])) := Same.upd_new nD
    refine lc_range (lo := 0) (n := n.toNat) (fun i H => ∃ z acc av, LcP X st H0 B Ls G S σ D (fun v H' => (∀ a o, st ≠ some a → a ≠ D → H1 a = some o → H' a = some o) → Q v H') j c m H1 ((rngI 0 n.toNat).drop i) H z acc av)
      ⟨z1, [], [], h1.add (G' := [D]) (.of_same sn) (hz1.new sn) (by simp) (fun a ha => by simp at ha; subst ha; exact nD) (fun a ha => by simp at ha; subst ha; exact ⟨_, upd_same, True.intro⟩), upd_same, .nil, fun a o _ _ e => sn a o e, lc_start h1 nD hq1 fun _ _ _ => trivial⟩
      (fun i H hi ⟨z2, acc, av, P⟩ => ?_) (fun H ⟨z2, acc, av, P⟩ => ?_)
    · rw [rngI_drop hi] at P
      exact lc_turn ft fe P (.int _)
    · rw [List.drop_eq_nil_of_le (by unfold rngI; simp)] at P
      have hq := P.q
      exact hq H av P.s P.d P.r P.k
theorem fe_lcR {elt tg a : Expr} {ifs : List Expr} {scope : Scope} {x : Str} {ms : MAs} {c : MT} {m : ME} {p rp : Pos} (j : Nat) (hc : X.calm = true) (hN : X.N.Nodup) (hgl : Gl X "range") (hm : X.mg "range" = none) (ha : RA X W st [a] ms) (ok : BlkOk X.N X.env.scope scope [(x, j)])
    (hg : ∀ s H C cl fp, PG (Bk X scope s H C cl fp) tg (gName j)) (ht : ∀ s H C cl fp, RTs (Bk X scope s H C cl fp) W0 st ifs c) (he : ∀ s H C cl fp, RE (Bk X scope s H C cl fp) W0 st elt m)
    (hsa : starEach [a] X.env = [(false, eval a X.env)] := by rfl) (hs : ∀ x, foldedSetIterable (.Call (.Name "range" p) [a] [] rp) X.env x = pure x := by intro _; rfl) : FE X W st (.ListComp elt [⟨tg, .Call (.Name "range" p) [a] [] rp, ifs, 0⟩] scope pos) (eLcR rngT1 ms j c m) := by
  obtain ⟨ti, pi, fi⟩ := ha
  obtain ⟨tt, pt, ft⟩ := rts_uni ht
  obtain ⟨te, pe, fe⟩ := re_uni he
  exact ⟨_, pe_lc hc hN (pi_range1 hgl hm pi hsa) ok hg pt pe hs, lcR_rd j fi ft fe⟩
theorem se_setLcR (i : Nat) {elt tg a : Expr} {ifs : List Expr} {scope : Scope} {x y : Str} {py lp p rp : Pos} {ms : MAs} {c : MT} {m : ME} (j : Nat) (hc : X.calm = true) (hN : X.N.Nodup) (hy : X.N[i]? = some y) (hyl : X.env.scope.names.lookup y = some .local)
    (hsw : swapsWith (.ListComp elt [⟨tg, .Call (.Name "range" p) [a] [] rp, ifs, 0⟩] scope lp) (some (.Name y py)) pos.line X.env = pure true) (hgl : Gl X "range") (hm : X.mg "range" = none) (ha : RA X W st [a] ms) (ok : BlkOk X.N X.env.scope scope [(x, j)])
    (hg : ∀ s H C cl fp, PG (Bk X scope s H C cl fp) tg (gName j)) (ht : ∀ s H C cl fp, RTs (Bk X scope s H C cl fp) W0 st ifs c) (he : ∀ s H C cl fp, RE (Bk X scope s H C cl fp) W0 st elt m)
    (hsa : starEach [a] X.env = [(false, eval a X.env)] := by rfl) (hs : ∀ x, foldedSetIterable (.Call (.Name "range" p) [a] [] rp) X.env x = pure x := by intro _; rfl) : SE X W st (.Assign [.Name y py] (.ListComp elt [⟨tg, .Call (.Name "range" p) [a] [] rp, ifs, 0⟩] scope lp) pos) (sSet i (eLcR rngT1 ms j c m)) := by
  obtain ⟨ti, pi, fi⟩ := ha
  obtain ⟨tt, pt, ft⟩ := rts_uni ht
  obtain ⟨te, pe, fe⟩ := re_uni he
  refine ⟨_, ps_setLc hc hN hy hyl hsw (pi_range1 hgl hm pi hsa) ok hg pt pe hs, fun H0 B Ls S z σ H D h hq => ?_⟩
  unfold sSet at hq
  split at hq
  · rename_i hl
    refine lcR_rd j fi ft fe H0 B Ls [] S z σ H _ h (Cs.go h hq fun y z1 H1 _ x1 hz1 hq1 v G' ow h1 => ?_)
    exact hq1 _ H1 (h1.put ow hl)
  · exact hq.elim
end
end MM

/-! ML: a def's body as its promise; the law's stream. -/
namespace MM
open PySem PySem.Spec PyProof.Rows L2
/-- a number that stands for no stream -/
def z0 : Zs := ⟨[], 0, 0, 0⟩
@[simp] def endR : Ro → Rs Val
  | .rt x z => .ok x z
  | .ro x _ z => .ok x z
  | .nx _ z => .ok (.im .non) z
  | .xc c _ z => .ex c z
  | _ => .no
/-- nN slots, nP parameters -/
def runP (nN nP : Nat) (m : MS) : MF := fun xs => if xs.length = nP then endR (m (xs.map Sv.b ++ List.replicate (nN - nP) .un) z0) else .no
def runZ (nN nP : Nat) (m : MS) : MZ := fun xs z => if xs.length + 1 = nP then endR (m (.s :: xs.map Sv.b ++ List.replicate (nN - nP) .un) z) else .no
section
variable {P : Program} {w : World} {K : PySem.W.Frag} {mg : Str → Option Value} {base : Heap}
theorem sls_un {st : Option Addr} {B H : Hp} : ∀ n : Nat, SlS K st B H (List.replicate n none) (List.replicate n none) (List.replicate n .un) []
  | 0 => .nil
  | n + 1 => .un (sls_un n)
theorem sls_start {st : Option Addr} {B H : Hp} {n : Nat} : ∀ {vs : List V} {xs : List Val}, BorS K B vs xs → SlS K st B H (List.replicate (xs.length + n) none) (vs.map some ++ List.replicate n none) (xs.map Sv.b ++ List.replicate n .un) []
  | _, _, .nil => by simpa using sls_un n
  | _, _, .cons (l₁ := vs) (l₂ := xs) h t => by
    have ih := sls_start (st := st) (H := H) (n := n) t
    have e : (xs.length + 1 + n) = (xs.length + n) + 1 := by omega
    rw [List.length_cons, e]
    exact .b h ih
theorem SameX.same {H H' : Hp} (h : SameX none H H') : Same H H' := fun a o e => h.k a o (by simp) e
/-- the end of a body -/
theorem cs_end {X : Cx} {st : Option Addr} {H0 B : Hp} {Ls : List (Option (V × Val))} {r : Ro} {Q : VK} {E : XK}
    (h : match endR r with
      | .ok x z => ∀ v H' G, SameX st H0 H' → Zr X.K st z H' → Own X.K H' v x G → G.Nodup → (∀ a ∈ G, H0 a = none) → Q v H'
      | .ex c z => ∀ cv d H', SameX st H0 H' → Zr X.K st z H' → ExR X.K X.mg c cv d H' → E cv d H'
      | .no => False) : Cs X (fun cls d _ H => E cls d H) st H0 B Ls { nx := fun _ H' => Q .non H', rt := Q } r := by
  cases r with
  | nx S z => exact fun σ H s => h .non H [] s.fr s.zr (.im .non) List.nodup_nil (fun _ z => by cases z)
  | rt x z => exact fun v H G sx _ => h v H G sx
  | ro x S z =>
    intro v σ H G s ow
    obtain ⟨Gs, _, nd, fr⟩ := s.ex
    exact h v H G s.fr s.zr ow (List.nodup_append.mp nd).1 fun a ha => (fr a (List.mem_append_left _ ha)).1
  | bk S z => exact h.elim
  | ct S z => exact h.elim
  | xc c S z => exact fun cv d σ H s xr => h cv d H s.fr s.zr xr
  | no => exact h.elim
section
variable {x qual : Str} {st : Stmt} {f : Addr} {fd : FuncData} {N ps : List Str} {k : Nat}
/-- a def without a stream -/
theorem fnP (F : Fun K x qual st f fd) (S : FnScope N ps (defScope st)) (m : MS)
    (hb : ∀ (cdv : Value) (A : Around) (outer : List Env) (s : Shared) (H : Hp) (E : XK), Room k (A.deeper (envOfC qual (defScope st) s.heap.objs.size f cdv)) →
      SEs (cxOf (L2.CX P w) P w K mg base N qual (defScope st) f cdv A outer s H E) (fun cls d _ H => E cls d H) none (defBody st) m) :
    FnOk P w K mg base (L2.CX P w) (k + 1) f fd ps (spP K mg (runP N.length ps.length m)) := by
  refine F.okX S (fun vs H Q E h => ?_) (fun cdv A outer s H vs Q E hr h => ?_)
  · obtain ⟨xs, hv, hm⟩ := h
    by_cases e : xs.length = ps.length
    · rw [hv.length]; exact e
    · unfold runP at hm
      rw [if_neg e] at hm
      exact hm.elim
  · obtain ⟨xs, hv, hm⟩ := h
    by_cases e : xs.length = ps.length
    · unfold runP at hm
      rw [if_pos e] at hm
      obtain ⟨t, p, g⟩ := hb cdv A outer s H E hr
      refine ⟨t, p, ?_⟩
      have en : (List.replicate (N.length - vs.length) (none : Option V)) = List.replicate (N.length - ps.length) none := by rw [hv.length, e]
      have stt : Stt K none H (fun _ => none) (List.replicate (xs.length + (N.length - ps.length)) none) [] (xs.map Sv.b ++ List.replicate (N.length - ps.length) .un) z0 (start N vs) H := by
        refine ⟨.refl _ _, fun a e => (by cases e), fun a o e => (by cases e), ⟨z0, fun a e => (by cases e)⟩, fun a e => (by cases e), fun a e => (by cases e), fun j v x e => ?_, [], ?_, List.nodup_nil, fun a e => (by cases e)⟩
        · rw [List.getElem?_replicate] at e
          split at e <;> cases e
        · unfold L2.start
          rw [en, hid_none]
          exact sls_start hv
      refine g H (fun _ => none) _ _ z0 (start N vs) H _ stt (cs_end ?_)
      revert hm
      generalize endR (m (xs.map Sv.b ++ List.replicate (N.length - ps.length) .un) z0) = r
      intro hm
      cases r with
      | ok y z => exact fun v H' G sx _ ow nd fr => hm v H' G sx.same ow nd fr
      | ex c z => exact fun cv d H' sx _ xr => hm cv d H' sx.same xr
      | no => exact hm
    · unfold runP at hm
      rw [if_neg e] at hm
      exact hm.elim
/-- a def whose first parameter is the stream -/
theorem fnZ (F : Fun K x qual st f fd) (S : FnScope N ps (defScope st)) (m : MS)
    (hb : ∀ (so : Option Addr) (cdv : Value) (A : Around) (outer : List Env) (s : Shared) (H : Hp) (E : XK), Room k (A.deeper (envOfC qual (defScope st) s.heap.objs.size f cdv)) →
      SEs (cxOf (L2.CX P w) P w K mg base N qual (defScope st) f cdv A outer s H E) (fun cls d _ H => E cls d H) so (defBody st) m) :
    FnOk P w K mg base (L2.CX P w) (k + 1) f fd ps (spZ K mg (runZ N.length ps.length m)) := by
  refine F.okX S (fun vs H Q E h => ?_) (fun cdv A outer s H vs Q E hr h => ?_)
  · obtain ⟨a, ws, z, xs, rfl, hz, hv, hm⟩ := h
    by_cases e : xs.length + 1 = ps.length
    · rw [List.length_cons, hv.length]; exact e
    · unfold runZ at hm
      rw [if_neg e] at hm
      exact hm.elim
  · obtain ⟨a, ws, z, xs, rfl, hz, hv, hm⟩ := h
    by_cases e : xs.length + 1 = ps.length
    · unfold runZ at hm
      rw [if_pos e] at hm
      obtain ⟨t, p, g⟩ := hb (some a) cdv A outer s H E hr
      refine ⟨t, p, ?_⟩
      have en : (List.replicate (N.length - (V.ref a :: ws).length) (none : Option V)) = List.replicate (N.length - ps.length) none := by rw [List.length_cons, hv.length, e]
      obtain ⟨l, q, _⟩ := id (hz a rfl)
      have stt : Stt K (some a) H (fun _ => none) (none :: List.replicate (xs.length + (N.length - ps.length)) none) [] (.s :: xs.map Sv.b ++ List.replicate (N.length - ps.length) .un) z (start N (V.ref a :: ws)) H := by
        refine ⟨.refl _ _, hz, fun a o e => (by cases e), ⟨z, hz⟩, fun a e => rfl, fun a e => (by cases e), fun j v x e => ?_, [], ?_, List.nodup_nil, fun a e => (by cases e)⟩
        · cases j with
          | zero => simp at e
          | succ j =>
            rw [List.getElem?_cons_succ, List.getElem?_replicate] at e
            split at e <;> cases e
        · unfold L2.start
          rw [en]
          exact .s rfl (sls_start hv)
      refine g H (fun _ => none) _ _ z _ H _ stt (cs_end ?_)
      revert hm
      generalize endR (m (.s :: xs.map Sv.b ++ List.replicate (N.length - ps.length) .un) z) = r
      intro hm
      cases r with
      | ok y z => exact fun v H' G sx hz ow nd fr => hm v H' G sx hz ow nd fr
      | ex c z => exact fun cv d H' sx hz xr => hm cv d H' sx hz xr
      | no => exact hm
    · unfold runZ at hm
      rw [if_neg e] at hm
      exact hm.elim

/-! ### the law -/
/-- the stream that is made of the script -/
def spStream (K : PySem.W.Frag) : Sp := fun vs H Q _ => ∃ (a : Addr) (ns : List Int), vs = [.ref a] ∧ SqL K H a (ns.map V.int) ∧ ns.length ≤ 63 ∧ ∀ p z H', Same H H' → H p = none → Zr K (some p) z H' → Q (.ref p) H'
def spLaw (K : PySem.W.Frag) : Sp := fun vs H Q _ => ∃ (a : Addr) (ns : List Int), vs = [.ref a] ∧ SqL K H a (ns.map V.int) ∧ ns.length ≤ 63 ∧ ∀ H', Q (.bl true) H'
/-- what the rest of the law is worth -/
def lawOk (nN : Nat) (m : MS) : Prop := ∀ z : Zs, 0 ≤ z.cur → 0 ≤ z.pos → 0 ≤ z.mix → z.mix < 2147483647 → ∃ z', m (.un :: .s :: List.replicate (nN - 2) .un) z = .rt (.im (.bl true)) z'
theorem ss_ex {X : Cx} {W : WX} {s : List Stmt} {m : MS} (h : ∀ so, SEs X W so s m) : ∃ t, PSs X s t ∧ ∀ so H0 B Ls S z σ H D, Stt X.K so H0 B Ls [] S z σ H → Cs X W so H0 B Ls D (m S z) → t D σ H := by
  refine ⟨fun D σ H => ∃ so, Classical.choose (h so) D σ H, ⟨fun pins s σ H D I ⟨so, hw⟩ => (Classical.choose_spec (h so)).1.run pins s σ H D I hw⟩, fun so H0 B Ls S z σ H D hs hq => ⟨so, (Classical.choose_spec (h so)).2 H0 B Ls S z σ H D hs hq⟩⟩
theorem fnLaw {s0 : Stmt} {rest : List Stmt} (F : Fun K x qual st f fd) (S : FnScope N ["script"] (defScope st)) (m : MS) (nN : Nat) (hN : N.length = nN + 2) (body : defBody st = s0 :: rest)
    (h0 : ∀ (cdv : Value) (A : Around) (outer : List Env) (s : Shared) (H0 : Hp) (E : XK), Room k (A.deeper (envOfC qual (defScope st) s.heap.objs.size f cdv)) →
      ∃ t, PS (cxOf (L2.CX P w) P w K mg base N qual (defScope st) f cdv A outer s H0 E) s0 t ∧ ∀ (a : Addr) (ns : List Int) (H : Hp) (D : Ends), SqL K H a (ns.map V.int) → ns.length ≤ 63 →
        (∀ p z H', Same H H' → H p = none → Zr K (some p) z H' → D.nx (some (.ref a) :: some (.ref p) :: List.replicate nN none) H') → t D (some (.ref a) :: none :: List.replicate nN none) H)
    (hb : ∀ (so : Option Addr) (cdv : Value) (A : Around) (outer : List Env) (s : Shared) (H : Hp) (E : XK), Room k (A.deeper (envOfC qual (defScope st) s.heap.objs.size f cdv)) →
      SEs (cxOf (L2.CX P w) P w K mg base N qual (defScope st) f cdv A outer s H E) (fun cls d _ H => E cls d H) so rest m) (ok : lawOk (nN + 2) m) :
    FnOk P w K mg base (L2.CX P w) (k + 1) f fd ["script"] (spLaw K) := by
  refine F.okX S (fun vs H Q E h => ?_) (fun cdv A outer s H vs Q E hr h => ?_)
  · obtain ⟨a, ns, rfl, _⟩ := h; rfl
  · obtain ⟨a, ns, rfl, hS, h63, hQ⟩ := h
    obtain ⟨t, pt, ft⟩ := ss_ex (fun so => hb so cdv A outer s H E hr)
    obtain ⟨t0, p0, f0⟩ := h0 cdv A outer s H E hr
    rw [body]
    refine ⟨_, pss_cons p0 pt, ?_⟩
    have es : start N [V.ref a] = some (.ref a) :: none :: List.replicate nN none := by
      unfold L2.start
      rw [hN]
      rfl
    rw [es]
    refine f0 a ns H _ hS h63 fun p z H' sm np hz => ?_
    obtain ⟨l, q, _, _, z1, z2, z3, z4⟩ := id (hz p rfl)
    obtain ⟨z', hz'⟩ := ok z z1 z2 z3 z4
    refine ft (some p) H' (fun _ => none) (none :: none :: List.replicate nN none) (.un :: .s :: List.replicate nN .un) z _ H' _ ?_ ?_
    · refine ⟨.refl _ _, hz, fun a o e => (by cases e), ⟨z, hz⟩, fun a e => rfl, fun a e => (by cases e), fun j v x e => ?_, [], .un (.s rfl (sls_un nN)), List.nodup_nil, fun a e => (by cases e)⟩
      match j, e with
      | 0, e => simp at e
      | 1, e => simp at e
      | j + 2, e =>
        rw [List.getElem?_cons_succ, List.getElem?_cons_succ, List.getElem?_replicate] at e
        split at e <;> cases e
    · have e2 : m (.un :: .s :: List.replicate nN .un) z = .rt (.im (.bl true)) z' := hz'
      rw [e2]
      intro v H2 G _ _ _ ow _ _
      cases ow with
      | im r => cases r; exact hQ H2
end
end
end MM

/-! MX: more rules. -/
namespace MM
open PySem PySem.Spec PyProof.Rows L2
theorem hu64 {A : Around} {k : Nat} (hr : Room k A) : A.units + 64 < cLine := hr.units
theorem hu65 {A : Around} {k : Nat} (hr : Room k A) : A.units + 65 < cLine := by have := hr.un; omega
/-! lengths of unpacking -/
theorem gs_len0 : ∀ us S S', gsNil us S = some S' → us.length = 0 := fun us S S' h => by
  cases us with
  | nil => rfl
  | cons u us => cases h
theorem gs_more {g : MGt} {gs : List T → List Sv → Option (List Sv)} {n : Nat} (h : ∀ us S S', gs us S = some S' → us.length = n) : ∀ us S S', gsCons g gs us S = some S' → us.length = n + 1 := fun us S S' e => by
  cases us with
  | nil => cases e
  | cons u us =>
    simp only [gsCons] at e
    split at e
    · rw [List.length_cons, h us _ _ e]
    · cases e
theorem gs_len1 {g1 : MGt} : ∀ us S S', gsCons g1 gsNil us S = some S' → us.length = 1 := gs_more gs_len0
theorem gs_len2 {g1 g2 : MGt} : ∀ us S S', gsCons g1 (gsCons g2 gsNil) us S = some S' → us.length = 2 := gs_more gs_len1
theorem gs_len3 {g1 g2 g3 : MGt} : ∀ us S S', gsCons g1 (gsCons g2 (gsCons g3 gsNil)) us S = some S' → us.length = 3 := gs_more gs_len2
theorem gs_len4 {g1 g2 g3 g4 : MGt} : ∀ us S S', gsCons g1 (gsCons g2 (gsCons g3 (gsCons g4 gsNil))) us S = some S' → us.length = 4 := gs_more gs_len3
section
variable {X : Cx} {W : WX} {st : Option Addr} {pos : Pos}
/-! ### -a -/
@[simp] def oNeg (x : Val) (z : Zs) : Rs Val := match x with
  | .im (.int i) => .ok (.im (.int (-i))) z
  | _ => .no
@[simp] def eNeg (m : ME) : ME := fun S z => (m S z).bind oNeg
theorem fe_neg {e : Expr} {m : ME} (he : RE X W st e m) : FE X W st (.UnaryOp .USub e pos) (eNeg m) := by
  obtain ⟨t, p, f⟩ := he
  refine ⟨tUn _ t, pe_un un_neg p, fun H0 B Ls G S z σ H Q h hq => ?_⟩
  refine f H0 B Ls G S z σ H _ h (hq.bind fun x z1 H1 _ x1 hz1 hq1 v hv => ?_)
  unfold oNeg at hq1
  split at hq1
  · exact ⟨_, bor_int hv, Ct.fin (h.grow x1 hz1) hq1 (G' := []) (Same.refl H1) (.im (.int _)) List.nodup_nil (fun _ z => by cases z)⟩
  · exact hq1.elim
/-! ### a ** b -/
def cPow (i j : Int) : Bool := decide (0 ≤ j) && decide (j ≤ 1000000) && decide (i.natAbs < 2 ^ 64)
@[simp] def ePow := eBin (oII (fun i j => .int (i ^ j.toNat)) cPow)
theorem fe_pow {a b : Expr} {ma mb : ME} (ha : RE X W st a ma) (hb : RE X W st b mb) : FE X W st (.BinOp a .Pow b pos) (ePow ma mb) := fe_op op_pow (op2_I fun i j h => by
  unfold cPow at h
  simp only [Bool.and_eq_true, decide_eq_true_eq] at h
  exact ⟨h.1.1, h.1.2, h.2⟩) ha hb
/-! ### sorted -/
def ints? : List T → Option (List Int)
  | [] => some []
  | .int i :: ts => (ints? ts).map (i :: ·)
  | _ => none
def sortI (ns : List Int) : List Int := ns.mergeSort fun a b => decide (a ≤ b)
theorem sortI_eq {ns ns' : List Int} (p : ns'.Perm ns) (s : ns'.Pairwise (· ≤ ·)) : ns' = sortI ns := by
  have s2 : (sortI ns).Pairwise (· ≤ ·) := by
    have := List.pairwise_mergeSort (le := fun (a b : Int) => decide (a ≤ b)) (fun a b c h1 h2 => by simp only [decide_eq_true_eq] at *; omega) (fun a b => by simp only [Bool.or_eq_true, decide_eq_true_eq]; omega) ns
    exact this.imp fun h => by simpa using h
  exact List.Perm.eq_of_pairwise (fun a b _ _ h1 h2 => by omega) s s2 (p.trans (List.mergeSort_perm ns _).symm)
theorem ints_rep {K : PySem.W.Frag} {H : Hp} : ∀ {ts : List T} {vs : List V} {ns : List Int}, RepTs K H vs ts → ints? ts = some ns → vs = ns.map V.int
  | [], _, _, h, e => by cases h; cases e; rfl
  | t :: ts, _, ns, h, e => by
    cases h with
    | cons h1 h2 =>
      cases t with
      | int i =>
        unfold ints? at e
        cases q : ints? ts with
        | none => rw [q] at e; cases e
        | some ms =>
          rw [q] at e
          cases e
          cases h1
          rw [ints_rep h2 q]; rfl
      | _ => cases e
theorem rep_ints {K : PySem.W.Frag} {H : Hp} : ∀ ns : List Int, RepTs K H (ns.map V.int) (ns.map T.int)
  | [] => .nil
  | n :: ns => .cons (.int n) (rep_ints ns)
def intKs? {κ : Type} : List (Key × κ) → Option (List Int)
  | [] => some []
  | (.inl i, _) :: ks => (intKs? ks).map (i :: ·)
  | _ => none
theorem intKs_some {κ : Type} : ∀ {kvs : List (Key × κ)} {ns : List Int}, intKs? kvs = some ns → kvs.map (·.1) = ns.map Sum.inl
  | [], _, e => by cases e; rfl
  | (.inl i, t) :: ks, ns, e => by
    unfold intKs? at e
    cases q : intKs? ks with
    | none => rw [q] at e; cases e
    | some ms =>
      rw [q] at e
      cases e
      rw [List.map_cons, List.map_cons, intKs_some q]
  | (.inr x, t) :: ks, ns, e => by cases e
/-- sorted(d), its keys ints, any number of them -/
theorem call_sortedDIn (hcalm : X.calm = true) : CallR X (.builtin "sorted") (fun xs H Q => ∃ (a : Addr) (kvs : List (Key × V)) (ks : List Int), xs = [.ref a] ∧ Rd H a (.dK kvs) ∧ kvs.map (·.1) = ks.map Sum.inl ∧ ks.length ≤ 16777216 ∧
    ∀ (ys : List Int) (p : Addr), ys.Perm ks → ys.Pairwise (· ≤ ·) → H p = none → Q (.ref p) (upd H p (.lst (ys.map V.int)))) := by
  intro pins s σ H xs us Q I r q
  obtain ⟨a, kvs, ks, ex, hd, hks, h64, q⟩ := q
  subst ex
  obtain ⟨u, eu, rx⟩ := vals1 r
  subst eu
  cases rx
  obtain ⟨z, lo, vs, rel, dd⟩ := dk_rd I.hok hd
  obtain ⟨ep, hat⟩ := dd.dictAt
  have hkeys : vs.map (·.1) = ks.map Sum.inl := rel.keys.symm.trans hks
  have hl : vs.length = ks.length := by
    have e := congrArg List.length hkeys
    rw [List.length_map, List.length_map] at e
    exact e
  have h16 : vs.length ≤ sizeLine := by rw [hl, sizeLine_eq]; omega
  refine Calls.call_function_entry PyProof.Rows.kind_sorted PyProof.Rows.plain_sorted PyProof.Rows.entry_sorted (PyProof.Rows.args_sorted1 _) ?_
  unfold Builtin.«sorted»
  refine wpAny_bind (m := checkCount "sorted" 1 1 _) (wpAny_pure ?_)
  refine wpAny_bind (PySem.W.kdu_collect (A := X.A.in1) (PySem.W.kdl_dict (knd := mixKind X.prog X.w) (kvs := vs) (ep := ep) lo) (I.ok.hd hcalm) hat h16 fun h' tk acc hk hacc => ?_)
  have hal : acc.toList.length = ks.length := by rw [Array.length_toList, hacc.1, hl]
  have hS : IntsAre acc.toList ks := ints_each hal fun j v e => by
    obtain ⟨k, x, e1, e2⟩ := hacc.2 j v (by rw [← Array.getElem?_toList]; exact e)
    have e3 : (vs.map (·.1))[j]? = some k := by rw [List.getElem?_map, e1]; rfl
    rw [hkeys, List.getElem?_map] at e3
    cases e4 : ks[j]? with
    | none => rw [e4] at e3; cases e3
    | some y =>
      rw [e4] at e3
      have e5 : Sum.inl y = k := Option.some.inj e3
      subst e5
      rcases keyIs_shape (show keyIs (Sum.inl y) v = true from e2) with ⟨i, t, ek, ev⟩ | ⟨z, t, ek, ev⟩
      · cases ek
        exact ⟨y, t, rfl, ev⟩
      · cases ek
  have I1 : Inv X pins σ H { s with heap := h', toks := tk } := I.kept hk
  refine wpAny_bind (wpAny_newList ?_ (by rw [hal, sizeLine_eq]; omega))
  have hoL : (h'.push (seqObj "list" acc.toList.toArray 0)).get? h'.objs.size = some (seqObj "list" acc.toList.toArray 0) := Heap.get?_push_size _ rfl
  show wpAny _ _ _ _ _ { s with heap := h'.push (seqObj "list" acc.toList.toArray 0), toks := tk }
  refine wpAny_bind (wpAny_holding (wpAny_call_entry PyProof.Rows.slot_list_sort ⟨_, hoL, rfl⟩ PyProof.Rows.entry_list_sort
    (SrtO.list_sort_ord (s := { s with heap := h'.push (seqObj "list" acc.toList.toArray 0), toks := tk }) SrtO.swo_int hoL (by rw [hal, sizeLine_eq]; omega) (fun h2 => SrtO.ints_sortable hS h2) fun out h1 h2 => ⟨_, rfl, ?_⟩) (PyProof.Rows.args_list_sort _)))
  obtain ⟨k1, k2, k3⟩ := SrtO.ints_out hS h1 h2
  obtain ⟨e', he'⟩ := PyProof.Rows.sortedHeap_at (vs := acc.toList) (out := out.toArray) hoL
  have hlen : ((out.map SrtO.iv).map V.int).length ≤ sizeLine := by
    rw [List.length_map, k2.length_eq, sizeLine_eq]; omega
  refine wpAny_pure ⟨_, rfl, .ref h'.objs.size, upd H h'.objs.size (.lst ((out.map SrtO.iv).map V.int)), I1.laid (t' := tk) (fun b u e => ?_) (Nat.le_refl _)
    (show ObjOk X.prog X.w _ _ _ (.lst ((out.map SrtO.iv).map V.int)) from ⟨hlen, out, e', vals_of_ints k1, he'⟩), rfl, q _ _ k2 k3 (I1.hok.fresh (Nat.le_refl _))⟩
  have hb : b < h'.objs.size := Heap.lt_size e
  rw [PyProof.Rows.sortedHeap_old (Nat.ne_of_lt hb) (by rw [size_push']; exact Nat.lt_succ_of_lt hb)]
  exact Heap.get?_push_of_some _ e
@[simp] def oSorted : List Val → Option Val
  | [.il ts] => (ints? ts).map fun ns => .il ((sortI ns).map .int)
  | [.dk kvs] => match intKs? kvs with
    | some ns => if ns.length ≤ 16777216 then some (.il ((sortI ns).map .int)) else none
    | none => none
  | _ => none
abbrev rSortedB (K : PySem.W.Frag) : List V → Hp → VK → Prop := fun xs H Q => rSortedI K xs H Q ∨ ∃ (a : Addr) (kvs : List (Key × V)) (ks : List Int), xs = [.ref a] ∧ Rd H a (.dK kvs) ∧ kvs.map (·.1) = ks.map Sum.inl ∧ ks.length ≤ 16777216 ∧
    ∀ (ys : List Int) (p : Addr), ys.Perm ks → ys.Pairwise (· ≤ ·) → H p = none → Q (.ref p) (upd H p (.lst (ys.map V.int)))
theorem fn_sorted : Fn X st (rSortedB X.K) oSorted := by
  intro H vs xs y Q hv e q
  have fin : ∀ (ns ns' : List Int) (p : Addr), y = .il ((sortI ns).map .int) → ns'.Perm ns → ns'.Pairwise (· ≤ ·) → H p = none → Q (.ref p) (upd H p (.lst (ns'.map V.int))) := fun ns ns' p ey hp hs np => by
    have := sortI_eq hp hs
    subst this
    subst ey
    exact q _ _ [p] (Same.upd_new np) (.il upd_same (rep_ints _)) (by simp) (fun a ha => by simp at ha; subst ha; exact np)
  unfold oSorted at e
  split at e
  · rename_i ts
    cases ei : ints? ts with
    | none => rw [ei] at e; cases e
    | some ns =>
      rw [ei] at e
      obtain ⟨v, rfl, h⟩ := hv.one
      cases h with
      | @il a ws _ h1 h2 =>
        have := ints_rep h2 ei
        subst this
        exact .inl ⟨a, ns, rfl, .of (not_hid h1), fun ns' p hp hs np => fin ns ns' p (by cases e; rfl) hp hs np⟩
  · rename_i kvs
    split at e
    · rename_i ns ei
      split at e
      · rename_i hl
        obtain ⟨v, rfl, h⟩ := hv.one
        cases h with
        | @dk a ws _ h1 h2 =>
          exact .inr ⟨a, ws, ns, rfl, rd_hid h1, h2.1.trans (intKs_some ei), hl, fun ns' p hp hs np => fin ns ns' p (by cases e; rfl) hp hs np⟩
      · cases e
    · cases e
  · cases e
@[simp] def eSorted := eFn oSorted
theorem fe_sorted {e : Expr} {ms : MAs} {p : Pos} (hc : X.calm = true) (hg : Gl X "sorted") (hm : X.mg "sorted" = none) (ha : RA X W st [e] ms) (he : starEach [e] X.env = (false, eval e X.env) :: starEach [] X.env := by rfl) : FE X W st (.Call (.Name "sorted" p) [e] [] pos) (eSorted ms) := fe_callB (cr_sortedI.or (call_sortedDIn hc)) fn_sorted hg hm (by decide +kernel) ha (he := he)
end
end MM

/-! MN: pop, join, loops over enumerate and zip. -/
namespace MM
open PySem PySem.Spec PyProof.Rows L2
section
variable {X : Cx} {W : WX} {st : Option Addr} {pos : Pos}
/-! ### x.pop() -/
/-- y = x.pop() -/
@[simp] def sPop (i j : Nat) : MS := fun S z => match S[i]? with
  | some (.o (.il ts)) => match ts.getLast? with
    | some t => if j < S.length then .nx ((S.set i (.o (.il ts.dropLast))).set j (.o (.im t))) z else .no
    | none => .no
  | _ => .no
/-- x.pop() -/
@[simp] def sPop0 (i : Nat) : MS := fun S z => match S[i]? with
  | some (.o (.il ts)) => if ts = [] then .no else .nx (S.set i (.o (.il ts.dropLast))) z
  | _ => .no
theorem RepTs.dropLast {K : PySem.W.Frag} {H : Hp} {ts : List T} {vs : List V} (h : RepTs K H vs ts) : RepTs K H vs.dropLast ts.dropLast := by
  rw [List.dropLast_eq_take, List.dropLast_eq_take, h.length]
  exact h.take _
theorem get_last {K : PySem.W.Frag} {H : Hp} {ts : List T} {vs : List V} {t : T} (h : RepTs K H vs ts) (e : ts.getLast? = some t) : ∃ v, vs[vs.length - 1]? = some v ∧ RepT K H v t := by
  rw [List.getLast?_eq_getElem?] at e
  rw [h.length]
  exact h.get e
section
variable {x : Str} {p ap cp : Pos}
/-- what the call wants of the text -/
structure Cl0 (X : Cx) (x n : Str) (p ap cp : Pos) : Prop where
  base : attributeBase (.Name x p) n X.env (eval (.Name x p) X.env) = eval (.Name x p) X.env
  line : (ap.endLine == cp.line) = true
theorem se_pop (i j : Nat) {y : Str} {yp : Pos} (hnd : X.N.Nodup) (hj : X.N[j]? = some y) (hy : Loc X.env.scope y) (c : Cl0 X x "pop" p ap cp := by exact ⟨rfl, rfl⟩) (hN : X.N[i]? = some x := by rfl) (hv : Vis X.env.scope x := by first | exact Or.inl rfl | exact Or.inr (Or.inl rfl) | exact Or.inr (Or.inr rfl)) (hd : (x == ("__debug__" : Str)) = false := by decide)
    (hcd : (x == ("__classdict__" : Str)) = false := by decide) (hs : swapsWith (.Call (.Attribute (.Name x p) "pop" ap) [] [] cp) (some (.Name y yp)) pos.line X.env = pure false := by rfl) (hf : X.fn y = true ∨ X.env.scope.names.lookup y = some .local := by first | exact .inl rfl | exact .inr rfl | assumption) :
    SE X W st (.Assign [.Name y yp] (.Call (.Attribute (.Name x p) "pop" ap) [] [] cp) pos) (sPop i j) := by
  refine ⟨_, ps_set hnd hj hy (pe_bm0 PySem.F.plainAttrs_list PySem.F.slot_list_pop PySem.F.type_list_pop mt_pop (pe_var hN hv hd hcd) c.base c.line) hs hf, fun H0 B Ls S z σ H D h hq => ?_⟩
  unfold sPop at hq
  split at hq
  · rename_i ts es
    split at hq
    · rename_i t et
      split at hq
      · rename_i hl
        obtain ⟨l, xs, e1, h1, h2, own⟩ := get_il h es
        obtain ⟨v, e2, r⟩ := get_last h2 et
        have le : Le H (L2.upd H l (.lst xs.dropLast)) := Le.upd_lst h1
        have g := h.chg (y := .il ts.dropLast) (o := .lst xs.dropLast) es own h1 True.intro True.intro (.il upd_same (h2.dropLast.mono le))
        exact ⟨.ref l, e1, tyL h1, l, xs, v, rfl, rfl, h1, e2, hq _ _ (Stt.put (G' := []) (by simpa using g) (.im (r.mono le)) (by simpa using hl))⟩
      · exact hq.elim
    · exact hq.elim
  · exact hq.elim
theorem se_pop0 (i : Nat) (c : Cl0 X x "pop" p ap cp := by exact ⟨rfl, rfl⟩) (hN : X.N[i]? = some x := by rfl) (hv : Vis X.env.scope x := by first | exact Or.inl rfl | exact Or.inr (Or.inl rfl) | exact Or.inr (Or.inr rfl)) (hd : (x == ("__debug__" : Str)) = false := by decide)
    (hcd : (x == ("__classdict__" : Str)) = false := by decide) (hs : swapsWith (.Call (.Attribute (.Name x p) "pop" ap) [] [] cp) none pos.line X.env = pure false := by rfl) :
    SE X W st (.Expr (.Call (.Attribute (.Name x p) "pop" ap) [] [] cp) pos) (sPop0 i) := by
  refine ⟨_, ps_expr (pe_bm0 PySem.F.plainAttrs_list PySem.F.slot_list_pop PySem.F.type_list_pop mt_pop (pe_var hN hv hd hcd) c.base c.line) hs, fun H0 B Ls S z σ H D h hq => ?_⟩
  unfold sPop0 at hq
  split at hq
  · rename_i ts es
    split at hq
    · exact hq.elim
    · rename_i hne
      obtain ⟨l, xs, e1, h1, h2, own⟩ := get_il h es
      obtain ⟨v, e2, r⟩ := get_last h2 (List.getLast?_eq_some_getLast hne)
      have le : Le H (L2.upd H l (.lst xs.dropLast)) := Le.upd_lst h1
      have g := h.chg (y := .il ts.dropLast) (o := .lst xs.dropLast) es own h1 True.intro True.intro (.il upd_same (h2.dropLast.mono le))
      exact ⟨.ref l, e1, tyL h1, l, xs, v, rfl, rfl, h1, e2, hq _ _ g⟩
  · exact hq.elim
end

/-! ### text.join(list) -/
def strs? : List T → Option (List Str)
  | [] => some []
  | .str s :: ts => (strs? ts).map (s :: ·)
  | _ => none
theorem strs_rep {K : PySem.W.Frag} {H : Hp} : ∀ {ts : List T} {vs : List V} {ys : List Str}, RepTs K H vs ts → strs? ts = some ys → vs = ys.map V.str
  | [], _, _, h, e => by cases h; cases e; rfl
  | t :: ts, _, ys, h, e => by
    cases h with
    | cons h1 h2 =>
      cases t with
      | str s =>
        unfold strs? at e
        cases q : strs? ts with
        | none => rw [q] at e; cases e
        | some ms =>
          rw [q] at e
          cases e
          cases h1
          rw [strs_rep h2 q]; rfl
      | _ => cases e
def joinV (a : Str) (ys : List Str) : Option Val := if (ys.map (·.length)).sum + ys.length * a.length ≤ 16777216 ∧ sOk (Txt.join a ys) = true then some (.im (.str (Txt.join a ys))) else none
@[simp] def oJoin (x y : Val) : Option Val := match x with
  | .im (.str a) => match y with
    | .il ts => (strs? ts).bind (joinV a)
    | .im (.tup ts) => (strs? ts).bind (joinV a)
    | _ => none
  | _ => none
theorem joinV_some {a : Str} {o : Option (List Str)} {u : Val} (e : o.bind (joinV a) = some u) : ∃ ys, o = some ys ∧ (ys.map (·.length)).sum + ys.length * a.length ≤ 16777216 ∧ sOk (Txt.join a ys) = true ∧ u = .im (.str (Txt.join a ys)) := by
  cases o with
  | none => cases e
  | some ys =>
    have e' : joinV a ys = some u := e
    unfold joinV at e'
    split at e'
    · rename_i c; cases e'; exact ⟨ys, rfl, c.1, c.2, rfl⟩
    · cases e'
@[simp] def eJoin (ma mb : ME) : ME := fun S z => (ma S z).bind fun x z => match x with
  | .im (.str a) => (mb S z).bind fun y z => lft (oJoin (.im (.str a)) y) z
  | _ => .no
theorem fe_join {a b : Expr} {ma mb : ME} {ap : Pos} (ha : RE X W st a ma) (hb : RE X W st b mb) (hs : starEach [b] X.env = [(false, eval b X.env)] := by rfl) (hbase : attributeBase a "join" X.env (eval a X.env) = eval a X.env := by rfl) (hline : (ap.endLine == pos.line) = true := by rfl) :
    FE X W st (.Call (.Attribute a "join" ap) [b] [] pos) (eJoin ma mb) := by
  obtain ⟨ta, pa, fa⟩ := ha
  obtain ⟨tb, pb, fb⟩ := hb
  refine ⟨_, pe_join pa pb hs hbase hline, fun H0 B Ls G S z σ H Q h hq => ?_⟩
  refine fa H0 B Ls G S z σ H _ h (Ct.bind hq fun x z1 H1 ex x1 hz1 hq1 v hv => ?_)
  split at hq1
  · rename_i u
    obtain ⟨rfl, _⟩ := bor_str hv
    refine ⟨⟨_, rfl⟩, ?_⟩
    refine fb H0 B Ls G S z1 σ H1 _ (h.grow x1 hz1) (hq1.bind fun y z2 H2 _ x2 hz2 hq2 w hw => ?_)
    cases e : oJoin (.im (.str u)) y with
    | none => rw [e] at hq2; exact hq2.elim
    | some r =>
      rw [e] at hq2
      dsimp only [oJoin] at e
      have fin : ∀ (ts : List T) (ws : List V) (p : Addr), (SqL X.K H2 p ws ∨ SqT X.K H2 p ws) → RepTs X.K H2 ws ts → (strs? ts).bind (joinV u) = some r → ∃ a p', ∃ ys : List Str, V.str u = .str a ∧ [V.ref p] = [.ref p'] ∧ (SqL X.K H2 p' (ys.map V.str) ∨ SqT X.K H2 p' (ys.map V.str)) ∧
          (ys.map (·.length)).sum + ys.length * a.length ≤ 16777216 ∧ Q (.str (Txt.join a ys)) H2 := fun ts ws p hp r1 e => by
        obtain ⟨ys, e1, e2, e3, rfl⟩ := joinV_some e
        have := strs_rep r1 e1
        subst this
        exact ⟨u, p, ys, rfl, rfl, hp, e2, Ct.fin ((h.grow x1 hz1).grow x2 hz2) hq2 (Same.refl H2) (.im (.str _ e3)) List.nodup_nil (fun _ z => by cases z)⟩
      have hw' := bor_hid hw
      cases y with
      | il ts =>
        cases hw' with
        | @il p xs _ h1 h2 => exact fin ts xs p (.inl (.of h1)) h2 e
      | im t =>
        cases t with
        | tup ts =>
          cases hw' with
          | im r1 =>
            cases r1 with
            | @tup p xs _ h1 h2 => exact fin ts xs p (.inr h1) h2 e
        | _ => cases e
      | _ => cases e
  · exact hq1.elim

/-! ### loops over a walk that gives the things ts -/
theorem walk_core {J : It} {Gd : Hp → Prop} {Y : Nat → Hp → V → Hp → Prop} {g : MGt} {tG : TG} {tb : TS} {mb : MS} (fg : ∀ H0 B Ls S z σ H v u S' (Q : L2.St → Hp → Prop), Stt X.K st H0 B Ls [] S z σ H → RepT X.K H v u → g u S = some S' → (∀ σ', Stt X.K st H0 B Ls [] S' z σ' H → Q σ' H) → tG v σ H Q)
    (fb : ∀ H0 B Ls S z σ H D, Stt X.K st H0 B Ls [] S z σ H → Cs X W st H0 B Ls D (mb S z) → tb D σ H)
    {H0 B H : Hp} {Ls : List (Option (V × Val))} {S : List Sv} {z : Zs} {σ : L2.St} {ts : List T} {n : Nat} {D : Ends} (w : Walk J n Gd Y) (hn : n = ts.length) (h : Stt X.K st H0 B Ls [] S z σ H)
    (hG : ∀ S z σ H, Stt X.K st H0 B Ls [] S z σ H → Gd H) (hY : ∀ i S z σ H x H', i < n → Stt X.K st H0 B Ls [] S z σ H → Y i H x H' → Stt X.K st H0 B Ls [] S z σ H' ∧ ∃ t, ts[i]? = some t ∧ RepT X.K H' x t) (hq : Cs X W st H0 B Ls D (sTurns g mb ts S z)) :
    ∃ W' : Nat → Nat → L2.St → Hp → Prop, (∃ m, W' 0 m σ H) ∧ ∀ i m σ H, W' i m σ H →
      (J.stop i H ∧ D.nx σ H) ∨ (J.go i H ∧ ∃ N : L2.St → Hp → Prop, (∀ σ' H', N σ' H' → ∃ m', m' < m ∧ W' (i + 1) m' σ' H') ∧ ∀ x H', J.yld i H x H' → tG x σ H' fun σ2 H2 => tb { D with nx := N, ct := N, bk := D.nx } σ2 H2) := by
  refine for_it w (fun i σ H => ∃ S z, Stt X.K st H0 B Ls [] S z σ H ∧ Cs X W st H0 B Ls D (sTurns g mb (ts.drop i) S z)) ⟨S, z, h, by simpa using hq⟩ (fun i σ H _ ⟨S, z, h, _⟩ => hG S z σ H h) ?_ ?_
  · rintro i x σ1 H1 H2 hi ⟨S1, z1, h1, q1⟩ y
    obtain ⟨h2, t, et, rt⟩ := hY i S1 z1 σ1 H1 x H2 hi h1 y
    have ed : ts.drop i = t :: ts.drop (i + 1) := by
      obtain ⟨hi, e⟩ := List.getElem?_eq_some_iff.mp et
      rw [List.drop_eq_getElem_cons hi, e]
    rw [ed] at q1
    exact turn_ok fg fb h2 rt q1
  · rintro σ1 H1 ⟨S1, z1, h1, q1⟩
    rw [hn, List.drop_length] at q1
    exact q1 σ1 H1 h1
/-- a new pair -/
theorem pair_new {H0 B H H' : Hp} {Ls : List (Option (V × Val))} {S : List Sv} {z : Zs} {σ : L2.St} {x y : V} {t u : T} {p : Addr} (h : Stt X.K st H0 B Ls [] S z σ H) (hp : H p = none) (e : H' = L2.upd H p (.tup [x, y])) (r1 : RepT X.K H x t) (r2 : RepT X.K H y u) :
    Stt X.K st H0 B Ls [] S z σ H' ∧ RepT X.K H' (.ref p) (.tup [t, u]) := by
  subst e
  have s1 : Same H (L2.upd H p (.tup [x, y])) := Same.upd_new hp
  have le := Le.of_same s1
  exact ⟨h.grow (.of_same s1) (h.zr.new s1), .tup (.inl (.inl upd_same)) (.cons (r1.mono le) (.cons (r2.mono le) .nil))⟩
/-- where a loop's things lie, through the loop -/
def Src (X : Cx) (st : Option Addr) (H0 B : Hp) (Ls : List (Option (V × Val))) (tup : Bool) (a : Addr) (xs : List V) (ts : List T) : Prop :=
  ∀ S z σ H, Stt X.K st H0 B Ls [] S z σ H → (if tup then SqT X.K H a xs else SqL X.K H a xs) ∧ RepTs X.K H xs ts
/-- over a slot: the loop k walks the things in it -/
@[simp] def sSrc (i : Nat) (k : Bool → List T → MS) : MS := fun S z => match S[i]? with
  | some (.o (.il ts)) => (k false ts (S.set i (.lk (.il ts))) z).map (unlk i)
  | some (.b (.il ts)) => k false ts S z
  | some (.lk (.il ts)) => k false ts S z
  | some (.o (.im (.tup ts))) => k true ts S z
  | some (.b (.im (.tup ts))) => k true ts S z
  | some (.lk (.im (.tup ts))) => k true ts S z
  | _ => .no
theorem src_ok {i : Nat} {k : Bool → List T → MS} {H0 B H : Hp} {Ls : List (Option (V × Val))} {S : List Sv} {z : Zs} {σ : L2.St} {D : Ends} (h : Stt X.K st H0 B Ls [] S z σ H) (hq : Cs X W st H0 B Ls D (sSrc i k S z)) :
    ∃ a xs ts tup B' Ls' S', σ[i]? = some (some (.ref a)) ∧ Stt X.K st H0 B' Ls' [] S' z σ H ∧ Src X st H0 B' Ls' tup a xs ts ∧ Cs X W st H0 B' Ls' D (k tup ts S' z) := by
  have tupc : ∀ {ts : List T} {v : V}, σ[i]? = some (some v) → RepT X.K H v (.tup ts) → Cs X W st H0 B Ls D (k true ts S z) → ∃ a xs ts tup B' Ls' S', σ[i]? = some (some (.ref a)) ∧ Stt X.K st H0 B' Ls' [] S' z σ H ∧ Src X st H0 B' Ls' tup a xs ts ∧ Cs X W st H0 B' Ls' D (k tup ts S' z) := fun {ts v} e1 r q => by
    have h2 := Stt.more (Gx := []) (by simpa using h)
    have r' := r.mono (Bex.le (Gs := []) h.ble)
    cases r' with
    | @tup a xs _ r1 r2 => exact ⟨a, xs, ts, true, _, _, S, e1, h2, fun S z σ H h => ⟨by simpa using (Le.of_same h.ble).sqt r1, r2.mono (Le.of_same h.ble)⟩, Cs.less (Bex.up h.ble) h.lks q⟩
  obtain ⟨Gs, hsl, nd, fr⟩ := h.ex
  unfold sSrc at hq
  split at hq
  · rename_i ts e
    obtain ⟨v, Gi, e1, od, ndi, fri, h2⟩ := h.lock e
    have hl : i < Ls.length := by rw [hsl.lengthL]; exact (List.getElem?_eq_some_iff.mp e).1
    have hq2 := Cs.unlock (Bex.up h.ble) h.lks hl od ndi fri hq
    cases od with
    | @il a xs _ r1 r2 => exact ⟨a, xs, ts, false, _, _, _, e1, h2, fun S z σ H h => ⟨by simpa using SqL.of (h.ble _ _ r1), r2.mono (Le.of_same h.ble)⟩, hq2⟩
  · rename_i ts e
    obtain ⟨v, e1, bw⟩ := hsl.get_b e
    cases bw with
    | @il a xs _ r1 r2 =>
      have up : ∀ {S z σ H}, Stt X.K st H0 B Ls [] S z σ H → Same (hid st H0) H := fun {S z σ H} h a o q => hid_same st H a o (h.fr.hid a o q)
      exact ⟨a, xs, ts, false, _, _, S, e1, h, fun S z σ H h => ⟨by simpa using SqL.of (up h _ _ r1), r2.mono (Le.of_same (up h))⟩, hq⟩
  · rename_i ts e
    obtain ⟨v, e1, el⟩ := hsl.get_lk e
    cases h.lks i v _ el with
    | @il a xs _ r1 r2 => exact ⟨a, xs, ts, false, _, _, S, e1, h, fun S z σ H h => ⟨by simpa using SqL.of (h.ble _ _ r1), r2.mono (Le.of_same h.ble)⟩, hq⟩
  · rename_i ts e
    obtain ⟨v, G1, Ga, Gb, e1, ow, _⟩ := hsl.get_o e
    cases ow with
    | im r => exact tupc e1 r hq
  · rename_i ts e
    obtain ⟨v, e1, bw⟩ := hsl.get_b e
    cases bw with
    | im r => exact tupc e1 ((r.mono (Le.of_same h.fr.hid)).mono (Le.of_same (hid_same st H))) hq
  · rename_i ts e
    obtain ⟨v, e1, el⟩ := hsl.get_lk e
    cases h.lks i v _ el with
    | im r => exact tupc e1 (r.mono (Le.of_same h.ble)) hq
  · exact hq.elim

/-! ### for .. in enumerate(..) -/
def enumT (ts : List T) : List T := ts.zipIdx.map fun p => .tup [.int p.2, p.1]
theorem enumT_get {ts : List T} {i : Nat} {t : T} (h : ts[i]? = some t) : (enumT ts)[i]? = some (.tup [.int i, t]) := by
  unfold enumT
  rw [List.getElem?_map, List.getElem?_zipIdx, h]
  simp
theorem enumT_length (ts : List T) : (enumT ts).length = ts.length := by simp [enumT]
theorem enum_core {g : MGt} {tG : TG} {tb : TS} {mb : MS} (fg : ∀ H0 B Ls S z σ H v u S' (Q : L2.St → Hp → Prop), Stt X.K st H0 B Ls [] S z σ H → RepT X.K H v u → g u S = some S' → (∀ σ', Stt X.K st H0 B Ls [] S' z σ' H → Q σ' H) → tG v σ H Q)
    (fb : ∀ H0 B Ls S z σ H D, Stt X.K st H0 B Ls [] S z σ H → Cs X W st H0 B Ls D (mb S z) → tb D σ H)
    {H0 B H : Hp} {Ls : List (Option (V × Val))} {S : List Sv} {z : Zs} {σ : L2.St} {ts : List T} {D : Ends} {a : Addr} {xs : List V} (hs : Src X st H0 B Ls false a xs ts) (h : Stt X.K st H0 B Ls [] S z σ H) (hq : Cs X W st H0 B Ls D (sTurns g mb (enumT ts) S z)) :
    ∃ W' : Nat → Nat → L2.St → Hp → Prop, (∃ m, W' 0 m σ H) ∧ ∀ i m σ H, W' i m σ H →
      ((Ite X.K a).stop i H ∧ D.nx σ H) ∨ ((Ite X.K a).go i H ∧ ∃ N : L2.St → Hp → Prop, (∀ σ' H', N σ' H' → ∃ m', m' < m ∧ W' (i + 1) m' σ' H') ∧ ∀ x H', (Ite X.K a).yld i H x H' → tG x σ H' fun σ2 H2 => tb { D with nx := N, ct := N, bk := D.nx } σ2 H2) := by
  refine walk_core fg fb walk_enum (ts := enumT ts) (by rw [enumT_length, (hs S z σ H h).2.length]) h (fun S z σ H h => by simpa using (hs S z σ H h).1) (fun i S z σ H x H' hi h y => ?_) hq
  obtain ⟨p, u, v, rfl, hp, e, e1, e2⟩ := y
  obtain ⟨t, et, rt⟩ := (hs S z σ H h).2.getV e2
  cases e1
  obtain ⟨g1, g2⟩ := pair_new h hp e (.int _) rt
  exact ⟨g1, _, enumT_get et, g2⟩
@[simp] def kEnum (g : MGt) (body : MS) : Bool → List T → MS := fun tup ts => if tup then fun _ _ => .no else sTurns g body (enumT ts)
/-- over a fresh list -/
@[simp] def sEnum (m : ME) (g : MGt) (body : MS) : MS := fun S z => (m S z).go S fun x z => match x with
  | .il ts => sTurns g body (enumT ts) S z
  | _ => .no
theorem se_enum {elts : List Expr} {kk : Nat} {tpos p ip : Pos} {e : Expr} {body : List Stmt} {m : ME} {g : MGt} {mb : MS} (hp : PassesOwn (model X.prog X.w) X.A X.env X.xe) (hc : X.calm = true) (hgl : Gl X "enumerate") (hm : X.mg "enumerate" = none) (he : FE X W st e m) (hg : GE X st (.Tuple elts kk tpos) g) (hb : SEs X W st body mb)
    (hs0 : starEach [e] X.env = [(false, eval e X.env)] := by rfl) (hs1 : starEach [e] X.env = (false, eval e X.env) :: starEach [] X.env := by rfl) (hs : ∀ x, foldedSetIterable (.Call (.Name "enumerate" p) [e] [] ip) X.env x = pure x := by intro _; rfl) :
    SE X W st (.For (.Tuple elts kk tpos) (.Call (.Name "enumerate" p) [e] [] ip) body [] pos) (sEnum m g mb) := by
  obtain ⟨t, pe, f⟩ := he
  obtain ⟨tG, pG, fg⟩ := hg
  obtain ⟨tb, pb, fb⟩ := hb
  refine ⟨_, ps_for hp hc (pi_enum hgl hm (pa_cons pe pa_nil hs1) hs0) pG pb hs, fun H0 B Ls S z σ H D h hq => ?_⟩
  refine f H0 B Ls [] S z σ H _ h (Cs.go h hq fun x z1 H1 _ x1 hz1 hq1 v G' ow h1 => ?_)
  have up := Bex.up (Gs := G') h1.ble
  have h2 := h1.more
  have od : Own X.K (Bex B H1 G') v x G' := ow.mono (Bex.le h1.ble) fun a ha o e => by rw [Bex.in_ ha]; exact e
  cases x with
  | il ts =>
    cases od with
    | @il a xs _ r1 r2 => exact ⟨a, xs, rfl, .of (h2.ble _ _ r1), enum_core fg fb (fun S z σ H h => ⟨by simpa using SqL.of (h.ble _ _ r1), r2.mono (Le.of_same h.ble)⟩) h2 (Cs.less up h1.lks hq1)⟩
  | _ => exact hq1.elim
/-- over a slot's list -/
@[simp] def sEnumV (i : Nat) (g : MGt) (body : MS) : MS := sSrc i (kEnum g body)
theorem se_enumV (i : Nat) {elts : List Expr} {kk : Nat} {tpos p ip xp : Pos} {x : Str} {body : List Stmt} {g : MGt} {mb : MS} (hp : PassesOwn (model X.prog X.w) X.A X.env X.xe) (hc : X.calm = true) (hgl : Gl X "enumerate") (hm : X.mg "enumerate" = none) (hg : GE X st (.Tuple elts kk tpos) g) (hb : SEs X W st body mb)
    (hN : X.N[i]? = some x := by rfl) (hv : Vis X.env.scope x := by first | exact Or.inl rfl | exact Or.inr (Or.inl rfl) | exact Or.inr (Or.inr rfl)) (hd : (x == ("__debug__" : Str)) = false := by decide) (hcd : (x == ("__classdict__" : Str)) = false := by decide)
    (hs0 : starEach [Expr.Name x xp] X.env = [(false, eval (Expr.Name x xp) X.env)] := by rfl) (hs1 : starEach [Expr.Name x xp] X.env = (false, eval (Expr.Name x xp) X.env) :: starEach [] X.env := by rfl) (hs : ∀ y, foldedSetIterable (.Call (.Name "enumerate" p) [.Name x xp] [] ip) X.env y = pure y := by intro _; rfl) :
    SE X W st (.For (.Tuple elts kk tpos) (.Call (.Name "enumerate" p) [.Name x xp] [] ip) body [] pos) (sEnumV i g mb) := by
  obtain ⟨tG, pG, fg⟩ := hg
  obtain ⟨tb, pb, fb⟩ := hb
  refine ⟨_, ps_for hp hc (pi_enum hgl hm (pa_cons (pe_var hN hv hd hcd) pa_nil hs1) hs0) pG pb hs, fun H0 B Ls S z σ H D h hq => ?_⟩
  obtain ⟨a, xs, ts, tup, B', Ls', S', e1, h', hsrc, hq'⟩ := src_ok h hq
  cases tup with
  | true => exact hq'.elim
  | false => exact ⟨.ref a, e1, a, xs, rfl, by simpa using (hsrc _ _ _ _ h').1, enum_core fg fb hsrc h' hq'⟩

/-! ### for .. in zip(..) of two tuples -/
theorem walk_zipT {K : PySem.W.Frag} {a b : Addr} {xs ys : List V} {n : Nat} (hn : n = min xs.length ys.length) : Walk (RZ.ItzT K a b) n (fun H => SqT K H a xs ∧ SqT K H b ys) (YPair (fun i => xs[i]?) (fun i => ys[i]?)) := by
  subst hn
  refine ⟨fun i _ hi q => ?_, fun _ q => ⟨xs, ys, q.1, q.2, by omega⟩, fun i H v H' _ q y => ?_⟩
  · have h1 : i < xs.length := by omega
    have h2 : i < ys.length := by omega
    exact ⟨xs, ys, xs[i], ys[i], q.1, q.2, by simp [h1], by simp [h2]⟩
  · obtain ⟨T, x, z, h1, h2, h3, h4, h5⟩ := y
    exact ⟨T, x, z, h1, h2, h3, h4 xs q.1, h5 ys q.2⟩
def zipT (ts us : List T) : List T := (ts.zip us).map fun p => .tup [p.1, p.2]
theorem zipT_length (ts us : List T) : (zipT ts us).length = min ts.length us.length := by simp [zipT]
theorem zipT_get {ts us : List T} {i : Nat} {t u : T} (h : ts[i]? = some t) (g : us[i]? = some u) : (zipT ts us)[i]? = some (.tup [t, u]) := by
  unfold zipT
  rw [List.getElem?_map, List.getElem?_zip_eq_some (z := (t, u)) |>.mpr ⟨h, g⟩]
  rfl
@[simp] def sZip (ms : MAs) (g : MGt) (body : MS) : MS := fun S z => (ms S z).go S fun xs z => match xs with
  | [.im (.tup ts), .im (.tup us)] => sTurns g body (zipT ts us) S z
  | _ => .no
theorem se_zip {elts : List Expr} {kk : Nat} {tpos p ip : Pos} {e e2 : Expr} {body : List Stmt} {ms : MAs} {g : MGt} {mb : MS} (hp : PassesOwn (model X.prog X.w) X.A X.env X.xe) (hc : X.calm = true) (hgl : Gl X "zip") (hm : X.mg "zip" = none) (ha : RA X W st [e, e2] ms) (hg : GE X st (.Tuple elts kk tpos) g) (hb : SEs X W st body mb)
    (hs0 : starEach [e, e2] X.env = (false, eval e X.env) :: starEach [e2] X.env := by rfl) (hpl : (backTo ip (starEach [e2] X.env)).any (·.1) = false := by rfl) (hs : ∀ x, foldedSetIterable (.Call (.Name "zip" p) [e, e2] [] ip) X.env x = pure x := by intro _; rfl) :
    SE X W st (.For (.Tuple elts kk tpos) (.Call (.Name "zip" p) [e, e2] [] ip) body [] pos) (sZip ms g mb) := by
  obtain ⟨t, pa, f⟩ := ha
  obtain ⟨tG, pG, fg⟩ := hg
  obtain ⟨tb, pb, fb⟩ := hb
  refine ⟨_, ps_for hp hc (RZ.pi_zipA hgl hm pa hs0 hpl) pG pb hs, fun H0 B Ls S z σ H D h hq => ?_⟩
  refine f H0 B Ls [] S z σ H _ h (Cs.go h hq fun xs z1 H1 ee x1 hz1 hq1 vs hvs => ?_)
  have g1 := h.grow x1 hz1
  clear ee
  split at hq1
  · rename_i ts us
    obtain ⟨v, w, rfl, b1, b2⟩ := hvs.two
    have h2 := Stt.more (Gx := []) (by simpa using g1)
    have up := Bex.up (Gs := []) g1.ble
    cases bor_hid b1 with
    | im r1 =>
      cases bor_hid b2 with
      | im r2 =>
        cases r1.mono (Bex.le (Gs := []) g1.ble) with
        | @tup a xs _ q1 q2 =>
          cases r2.mono (Bex.le (Gs := []) g1.ble) with
          | @tup b ys _ q3 q4 =>
            refine ⟨a, b, xs, ys, rfl, .inr ⟨(Le.of_same h2.ble).sqt q1, (Le.of_same h2.ble).sqt q3, ?_⟩⟩
            refine walk_core fg fb (walk_zipT rfl) (ts := zipT ts us) (by rw [zipT_length, q2.length, q4.length]) h2 (fun S z σ H h => ⟨(Le.of_same h.ble).sqt q1, (Le.of_same h.ble).sqt q3⟩) (fun i S z σ H x H' hi h y => ?_) (Cs.less up g1.lks hq1)
            obtain ⟨p, u, v, rfl, hp, e, e1, e2⟩ := y
            obtain ⟨t, et, rt⟩ := (q2.mono (Le.of_same h.ble)).getV e1
            obtain ⟨t2, et2, rt2⟩ := (q4.mono (Le.of_same h.ble)).getV e2
            obtain ⟨g1, g2⟩ := pair_new h hp e rt rt2
            exact ⟨g1, _, zipT_get et et2, g2⟩
  · exact hq1.elim

/-! ### all, any, sum of a list -/
def bools? : List T → Option (List Bool)
  | [] => some []
  | .bl b :: ts => (bools? ts).map (b :: ·)
  | _ => none
theorem bools_rep {K : PySem.W.Frag} {H : Hp} : ∀ {ts : List T} {vs : List V} {ys : List Bool}, RepTs K H vs ts → bools? ts = some ys → vs = ys.map V.bl
  | [], _, _, h, e => by cases h; cases e; rfl
  | t :: ts, _, ys, h, e => by
    cases h with
    | cons h1 h2 =>
      cases t with
      | bl b =>
        unfold bools? at e
        cases q : bools? ts with
        | none => rw [q] at e; cases e
        | some ms =>
          rw [q] at e
          cases e
          cases h1
          rw [bools_rep h2 q]; rfl
      | _ => cases e
@[simp] def oAll : List Val → Option Val
  | [.il ts] => (bools? ts).map fun bs => .im (.bl (bs.all id))
  | _ => none
@[simp] def oAny : List Val → Option Val
  | [.il ts] => (bools? ts).map fun bs => .im (.bl (bs.any id))
  | _ => none
@[simp] def oSum : List Val → Option Val
  | [.il ts] => (ints? ts).map fun ns => .im (.int ns.sum)
  | _ => none
theorem fn_all : Fn X st (rAll X.K) oAll := by
  intro H vs xs y Q hv e q
  unfold oAll at e
  split at e
  · rename_i ts
    obtain ⟨bs, eb, rfl⟩ := Option.map_eq_some_iff.mp e
    obtain ⟨v, rfl, h⟩ := hv.one
    cases h with
    | @il a xs _ h1 h2 =>
      have := bools_rep h2 eb
      subst this
      exact ⟨a, bs, rfl, .of (not_hid h1), q _ H [] (Same.refl H) (.im (.bl _)) List.nodup_nil (fun _ z => by cases z)⟩
  · cases e
theorem fn_any : Fn X st (rAny X.K) oAny := by
  intro H vs xs y Q hv e q
  unfold oAny at e
  split at e
  · rename_i ts
    obtain ⟨bs, eb, rfl⟩ := Option.map_eq_some_iff.mp e
    obtain ⟨v, rfl, h⟩ := hv.one
    cases h with
    | @il a xs _ h1 h2 =>
      have := bools_rep h2 eb
      subst this
      exact ⟨a, bs, rfl, .of (not_hid h1), q _ H [] (Same.refl H) (.im (.bl _)) List.nodup_nil (fun _ z => by cases z)⟩
  · cases e
theorem fn_sum : Fn X st (rSum X.K) oSum := by
  intro H vs xs y Q hv e q
  unfold oSum at e
  split at e
  · rename_i ts
    obtain ⟨bs, eb, rfl⟩ := Option.map_eq_some_iff.mp e
    obtain ⟨v, rfl, h⟩ := hv.one
    cases h with
    | @il a xs _ h1 h2 =>
      have := ints_rep h2 eb
      subst this
      exact ⟨a, bs, rfl, .of (not_hid h1), q _ H [] (Same.refl H) (.im (.int _)) List.nodup_nil (fun _ z => by cases z)⟩
  · cases e
@[simp] def eAll := eFn oAll
@[simp] def eAny := eFn oAny
@[simp] def eSum := eFn oSum
section
variable {p : Pos} {e : Expr} {ms : MAs}
theorem fe_all (hc : X.calm = true) (hg : Gl X "all") (hm : X.mg "all" = none) (ha : RA X W st [e] ms) (he : starEach [e] X.env = (false, eval e X.env) :: starEach [] X.env := by rfl) : FE X W st (.Call (.Name "all" p) [e] [] pos) (eAll ms) := fe_callB (cr_all hc) fn_all hg hm (by decide +kernel) ha (he := he)
theorem fe_any (hc : X.calm = true) (hg : Gl X "any") (hm : X.mg "any" = none) (ha : RA X W st [e] ms) (he : starEach [e] X.env = (false, eval e X.env) :: starEach [] X.env := by rfl) : FE X W st (.Call (.Name "any" p) [e] [] pos) (eAny ms) := fe_callB (cr_any hc) fn_any hg hm (by decide +kernel) ha (he := he)
theorem fe_sum (hc : X.calm = true) (hg : Gl X "sum") (hm : X.mg "sum" = none) (ha : RA X W st [e] ms) (he : starEach [e] X.env = (false, eval e X.env) :: starEach [] X.env := by rfl) : FE X W st (.Call (.Name "sum" p) [e] [] pos) (eSum ms) := fe_callB (cr_sum hc) fn_sum hg hm (by decide +kernel) ha (he := he)
end
end
end MM

/-! MO: defs with keyword-only parameters. -/
namespace MM
open PySem PySem.Spec PyProof.Rows L2
section
variable {X : Cx} {W : WX} {st : Option Addr} {pos : Pos}
/-- f(e, ..): the things ds stand for the parameters that lack -/
@[simp] def eCallD (m : MF) (ms : MAs) (ds : List Val) : ME := fun S z => (ms S z).bind fun xs z => match m (xs ++ ds) with
  | .ok x _ => .ok x z
  | .ex c _ => .ex c z
  | .no => .no
/-- f(e, .., k = v, ..) -/
@[simp] def eCallN (n : Nat) (m : MF) (ms mk : MAs) : ME := fun S z => (ms S z).bind fun xs z => (mk S z).bind fun ys z => if xs.length = n then match m (xs ++ ys) with
  | .ok x _ => .ok x z
  | _ => .no
  else .no
theorem BorS.append {K : PySem.W.Frag} {H : Hp} : ∀ {vs ws : List V} {xs ys : List Val}, BorS K H vs xs → BorS K H ws ys → BorS K H (vs ++ ws) (xs ++ ys)
  | _, _, _, _, .nil, g => g
  | _, _, _, _, .cons h t, g => .cons h (BorS.append t g)
/-- what the keywords give -/
def RK (X : Cx) (W : WX) (st : Option Addr) (ks : List Str) (kws : List Keyword) (m : MAs) : Prop := ∃ t, PK X kws t ∧ ∀ H0 B Ls G S z σ H Q, Stt X.K st H0 B Ls G S z σ H →
  Ct X W st σ H (m S z) (fun xs z' H' => ∀ vs, vs.length = ks.length → BorS X.K (hid st H') vs xs → Q vs H') → t σ H Q
section
variable {k : Nat} {f : Addr} {fd : FuncData} {ps : List Str} {x : Str} {p : Pos} {e : Expr} {es : List Expr} {ms mk : MAs}
theorem fe_callD {m : MF} {dvs : List V} {ds : List Value} {dx : List Val} (F : FnOk X.prog X.w X.K X.mg X.base (L2.CX X.prog X.w) k f fd ps (spP X.K X.mg m)) (hr : Room k X.A) (hg : Gl X x) (hm : X.mg x = some (.ref f)) (hk : PySem.W.keepIn X.K (.ref f) = true) (hb : Binds X.K fd ps ds) (hd : Vals dvs ds) (hB : ∀ H, BorS X.K H dvs dx) (tk : Takes X W)
    (ha : RA X W st (e :: es) ms) (hdb : (x == ("__debug__" : Str)) = false := by decide) (he : starEach (e :: es) X.env = (false, eval e X.env) :: starEach es X.env := by rfl) (hpl : (backTo pos (starEach es X.env)).any (·.1) = false := by rfl) :
    FE X W st (.Call (.Name x p) (e :: es) [] pos) (eCallD m ms dx) := by
  obtain ⟨t, pa, g⟩ := ha
  refine ⟨tCallSD _ dvs (WE W) t, pe_callSD F hr hg hm hk hb hd (fun σ => passAt tk σ) pa hdb he hpl, fun H0 B Ls G S z σ H Q h hq => ?_⟩
  refine g H0 B Ls G S z σ H _ h (hq.bind fun xs z1 H1 _ x1 hz1 hq1 vs hvs => ?_)
  refine ⟨xs ++ dx, hvs.hid.append (hB _), ?_⟩
  have h1 := h.grow x1 hz1
  cases em : m (xs ++ dx) with
  | ok y zz =>
    rw [em] at hq1
    exact fun v H' G' s ow nd fr => Ct.fin h1 hq1 s ow nd fr
  | ex c zz =>
    rw [em] at hq1
    exact fun cv d H' s xr => hq1 cv d H' (.of_same s) (hz1.new s) xr
  | no => rw [em] at hq1; exact hq1.elim
theorem rk_nil : RK X W st [] [] aNil := ⟨tNil, pk_nil, fun H0 B Ls G S z σ H Q h hq => by
  exact hq.ok h.zr [] rfl .nil⟩
theorem rk_one {nm : Str} {kpos : Pos} {m : ME} (he : RE X W st e m) : RK X W st [nm] [⟨some nm, e, kpos⟩] (aCons m aNil) := by
  obtain ⟨t, pe, fe⟩ := he
  refine ⟨_, pk_cons pe pk_nil, fun H0 B Ls G S z σ H Q h hq => ?_⟩
  unfold aCons at hq
  refine fe H0 B Ls G S z σ H _ h (Ct.bind hq fun x z1 H1 _ x1 hz1 hq1 v hv => ?_)
  simp only [aNil, Rs.bind_ok] at hq1
  exact hq1.ok hz1 [v] rfl (.cons hv .nil)
theorem fe_callN {n : Nat} {m : MF} {ks : List Str} {kws : List Keyword} (F : FnOk X.prog X.w X.K X.mg X.base (L2.CX X.prog X.w) k f fd ps (spP X.K X.mg m)) (hr : Room k X.A) (hg : Gl X x) (hm : X.mg x = some (.ref f)) (hk : PySem.W.keepIn X.K (.ref f) = true) (hb : KBn X.K fd ps n ks (fun us ws => us ++ ws) (fun vs zs => vs ++ zs))
    (ha : RA X W st (e :: es) ms) (hkw : RK X W st ks kws mk) (hall : (backToKw pos (keywordEach kws X.env)).all (·.1.isSome) = true := by rfl) (hks : (backToKw pos (keywordEach kws X.env)).filterMap (·.1) = ks := by rfl)
    (hdb : (x == ("__debug__" : Str)) = false := by decide) (he : starEach (e :: es) X.env = (false, eval e X.env) :: starEach es X.env := by rfl)
    (hpl : ((backTo pos (starEach (e :: es) X.env)).any (·.1) || (backToKw pos (keywordEach kws X.env)).any (·.1.isNone)) = false := by rfl) :
    FE X W st (.Call (.Name x p) (e :: es) kws pos) (eCallN n m ms mk) := by
  obtain ⟨t, pa, g⟩ := ha
  obtain ⟨tk, pk, gk⟩ := hkw
  refine ⟨_, pe_callN (E := E0) F hr hg hm hk hb passL pa pk hall hks hdb he hpl, fun H0 B Ls G S z σ H Q h hq => ?_⟩
  refine g H0 B Ls G S z σ H _ h (hq.bind fun xs z1 H1 _ x1 hz1 hq1 vs hvs => ?_)
  have h1 := h.grow x1 hz1
  refine gk H0 B Ls G S z1 σ H1 _ h1 (hq1.bind fun ys z2 H2 _ x2 hz2 hq2 zs hl2 hzs => ?_)
  have h2 := h1.grow x2 hz2
  split at hq2
  · rename_i hl
    refine ⟨by rw [hvs.length]; exact hl, hl2, xs ++ ys, (hvs.mono x2.hid).hid.append hzs.hid, ?_⟩
    cases em : m (xs ++ ys) with
    | ok y zz =>
      rw [em] at hq2
      exact fun v H' G' s ow nd fr => Ct.fin h2 hq2 s ow nd fr
    | ex c zz => rw [em] at hq2; exact hq2.elim
    | no => rw [em] at hq2; exact hq2.elim
  · exact hq2.elim
end
end
end MM

/-! MQ: a new list that nobody changes any more. -/
namespace MM
open PySem PySem.Spec PyProof.Rows L2
section
variable {X : Cx} {W : WX} {st : Option Addr} {pos : Pos}
/-- a new list may be kept as it is -/
def tFz (t : TE) : TE := fun σ H Q => t σ H fun v H1 => Q v H1 ∨ ∃ a xs, v = .ref a ∧ H1 a = some (.lst xs) ∧ ∀ o, Q v (L2.upd H1 a (.frz o (.lst xs)))
theorem pe_fz {e : Expr} {t : TE} (h : PE X e t) : PE X e (tFz t) := by
  refine ⟨fun pins s σ H Q I hw => ?_⟩
  refine wpAny_mono (h.run pins s σ H _ I hw) (fun u s1 ⟨v, H1, I1, r1, q1⟩ => ?_) fun _ _ q => q
  rcases q1 with q | ⟨a, xs, rfl, ha, q⟩
  · exact ⟨v, H1, I1, r1, q⟩
  · obtain ⟨o, I2⟩ := I1.lock ha trivial
    exact ⟨.ref a, _, I2, r1, q o⟩
/-- a value that never changes; a new list is kept as it is -/
@[simp] def fz (x : Val) (z : Zs) : Rs Val := match x with
  | .im t => .ok (.im t) z
  | .il ts => .ok (.im (.ls ts)) z
  | _ => .no
@[simp] def eFz (m : ME) : ME := fun S z => (m S z).bind fz
/-- the end of an expression whose new list is kept as it is -/
theorem Ct.finFz {H0 B : Hp} {Ls : List (Option (V × Val))} {G : List Addr} {S : List Sv} {z : Zs} {σ : L2.St} {H H1 : Hp} {Q : VK} {x : Val} (h : Stt X.K st H0 B Ls G S z σ H)
    (hq : Ct X W st σ H (fz x z) (fun x z' H' => ∀ v G', Own X.K H' v x G' → Stt X.K st H0 B Ls (G' ++ G) S z' σ H' → Q v H')) {v : V} {G' : List Addr} (s : Same H H1) (o : Own X.K H1 v x G') (nd : G'.Nodup) (fr : ∀ a ∈ G', H a = none) :
    Q v H1 ∨ ∃ a xs, v = .ref a ∧ H1 a = some (.lst xs) ∧ ∀ ob, Q v (L2.upd H1 a (.frz ob (.lst xs))) := by
  cases x with
  | im t => exact .inl (Ct.fin h hq s o nd fr)
  | il ts =>
    cases o with
    | @il a xs _ ha r =>
      refine .inr ⟨a, xs, rfl, ha, fun ob => ?_⟩
      have le : Le H1 (L2.upd H1 a (.frz ob (.lst xs))) := Le.upd_mu ha True.intro
      have sm : Same H (L2.upd H1 a (.frz ob (.lst xs))) := fun b u e => by rw [upd_ne (ne_of_none e (fr a (by simp)))]; exact s b u e
      exact hq.okX (.of_same sm) (h.zr.new sm) (.ref a) [] (.im (.ls upd_same (r.mono le))) (h.grow (.of_same sm) (h.zr.new sm))
  | _ => exact hq.elim
section
variable {k : Nat} {f : Addr} {fd : FuncData} {ps : List Str} {x : Str} {p : Pos} {e : Expr} {es : List Expr} {ms : MAs}
theorem fe_callFz {m : MF} (F : FnOk X.prog X.w X.K X.mg X.base (L2.CX X.prog X.w) k f fd ps (spP X.K X.mg m)) (hr : Room k X.A) (hg : Gl X x) (hm : X.mg x = some (.ref f)) (hk : PySem.W.keepIn X.K (.ref f) = true) (hb : Binds X.K fd ps []) (tk : Takes X W)
    (ha : RA X W st (e :: es) ms) (hdb : (x == ("__debug__" : Str)) = false := by decide) (he : starEach (e :: es) X.env = (false, eval e X.env) :: starEach es X.env := by rfl) (hpl : (backTo pos (starEach es X.env)).any (·.1) = false := by rfl) :
    FE X W st (.Call (.Name x p) (e :: es) [] pos) (eFz (eCall m ms)) := by
  obtain ⟨t, pa, g⟩ := ha
  refine ⟨tFz (tCallS _ (WE W) t), pe_fz (pe_callS F hr hg hm hk hb (fun σ => passAt tk σ) pa hdb he hpl), fun H0 B Ls G S z σ H Q h hq => ?_⟩
  have hq' : Ct X W st σ H ((ms S z).bind fun xs z => (match m xs with
    | .ok x _ => Rs.ok x z
    | .ex c _ => .ex c z
    | .no => .no).bind fz) (fun x z' H' => ∀ v G', Own X.K H' v x G' → Stt X.K st H0 B Ls (G' ++ G) S z' σ H' → Q v H') := by
    have e : (eFz (eCall m ms)) S z = ((ms S z).bind fun xs z => (match m xs with
      | .ok x _ => Rs.ok x z
      | .ex c _ => .ex c z
      | .no => .no).bind fz) := by
      simp only [eFz, eCall]
      cases ms S z <;> rfl
    rw [← e]; exact hq
  refine g H0 B Ls G S z σ H _ h (Ct.bind hq' fun xs z1 H1 _ x1 hz1 hq1 vs hvs => ?_)
  refine ⟨xs, hvs.hid, ?_⟩
  have h1 := h.grow x1 hz1
  cases em : m xs with
  | ok y zz =>
    rw [em] at hq1
    exact fun v H' G' s ow nd fr => Ct.finFz h1 hq1 s ow nd fr
  | ex c zz =>
    rw [em] at hq1
    exact fun cv d H' s xr => hq1 cv d H' (.of_same s) (hz1.new s) xr
  | no => rw [em] at hq1; exact hq1.elim
end
theorem fe_lstFz {es : List Expr} {ms : MAs} (ha : RA X W st es ms) : FE X W st (.List es pos) (eFz (eLst ms)) := by
  obtain ⟨t, p, f⟩ := ha
  refine ⟨tFz (tLst t), pe_fz (pe_lst p), fun H0 B Ls G S z σ H Q h hq => ?_⟩
  have e : (eFz (eLst ms)) S z = ((ms S z).bind fun xs z => (oLst xs z).bind fz) := by
    simp only [eFz, eLst]
    cases ms S z <;> rfl
  rw [e] at hq
  refine f H0 B Ls G S z σ H _ h (Ct.bind hq fun xs z1 H1 _ x1 hz1 hq1 vs hvs => ?_)
  unfold oLst at hq1
  split at hq1
  · rename_i ts e
    split at hq1
    · rename_i hl
      have r := imS_rep hvs e
      refine ⟨by rw [r.length]; exact hl, fun p np => ?_⟩
      exact Ct.finFz (h.grow x1 hz1) hq1 (v := .ref p) (G' := [p]) (Same.upd_new np) (.il upd_same ((rep_hid r).mono (Le.of_same (Same.upd_new np)))) (by simp) (fun a ha => by simp at ha; subst ha; exact np)
    · exact hq1.elim
  · exact hq1.elim
end
end MM

/-! MS: what simp knows of the mirrors. -/
namespace MM
open PySem PySem.Spec PyProof.Rows L2
theorem ofString_inj {a b : String} (h : Str.ofString a = Str.ofString b) : a = b := by
  rw [Str.ofString_eq_toList, Str.ofString_eq_toList] at h
  injection h with h
  have h2 : a.toList.map Char.toNat = b.toList.map Char.toNat := by simpa using h
  have inj : ∀ (l m : List Char), l.map Char.toNat = m.map Char.toNat → l = m := by
    intro l
    induction l with
    | nil => intro m h; cases m with | nil => rfl | cons c m => cases h
    | cons c l ih =>
      intro m h
      cases m with
      | nil => cases h
      | cons d m =>
        simp only [List.map_cons, List.cons.injEq] at h
        have e : c = d := Char.ext (UInt32.toNat_inj.mp h.1)
        rw [e, ih m h.2]
  have h3 := inj _ _ h2
  exact String.toList_inj.mp h3
@[simp] theorem str_beq (a b : String) : (Str.ofString a == Str.ofString b) = decide (a = b) := by
  by_cases h : a = b
  · subst h; simp
  · rw [decide_eq_false h]
    exact beq_eq_false_iff_ne.mpr fun e => h (ofString_inj e)
@[simp] theorem str_eq (a b : String) : (Str.ofString a = Str.ofString b) = (a = b) := propext ⟨ofString_inj, fun h => by rw [h]⟩
/-! == of things -/
@[simp] theorem eqv_int (i j : Int) : T.eqv (.int i) (.int j) = decide (i = j) := by simp [T.eqv, T.py, PyData.eqv]; rfl
@[simp] theorem eqv_str (i j : Str) : T.eqv (.str i) (.str j) = decide (i = j) := by simp [T.eqv, T.py, PyData.eqv]; rfl
@[simp] theorem eqv_bl (i j : Bool) : T.eqv (.bl i) (.bl j) = decide (i = j) := by simp [T.eqv, T.py, PyData.eqv]; rfl
@[simp] theorem eqv_non : T.eqv .non .non = true := by simp [T.eqv, T.py, PyData.eqv]
@[simp] theorem eqv_int_str (i : Int) (j : Str) : T.eqv (.int i) (.str j) = false := by simp [T.eqv, T.py, PyData.eqv]
@[simp] theorem eqv_str_int (i : Int) (j : Str) : T.eqv (.str j) (.int i) = false := by simp [T.eqv, T.py, PyData.eqv]
@[simp] theorem eqv_bl_str (i : Bool) (j : Str) : T.eqv (.bl i) (.str j) = false := by simp [T.eqv, T.py, PyData.eqv]
@[simp] theorem eqv_str_bl (i : Bool) (j : Str) : T.eqv (.str j) (.bl i) = false := by simp [T.eqv, T.py, PyData.eqv]
@[simp] theorem eqv_int_tup (i : Int) (j : List T) : T.eqv (.int i) (.tup j) = false := by simp [T.eqv, T.py, PyData.eqv]
@[simp] theorem eqv_tup_int (i : Int) (j : List T) : T.eqv (.tup j) (.int i) = false := by simp [T.eqv, T.py, PyData.eqv]
@[simp] theorem eqv_str_tup (i : Str) (j : List T) : T.eqv (.str i) (.tup j) = false := by simp [T.eqv, T.py, PyData.eqv]
@[simp] theorem eqv_tup_str (i : Str) (j : List T) : T.eqv (.tup j) (.str i) = false := by simp [T.eqv, T.py, PyData.eqv]
@[simp] theorem eqv_bl_tup (i : Bool) (j : List T) : T.eqv (.bl i) (.tup j) = false := by simp [T.eqv, T.py, PyData.eqv]
@[simp] theorem eqv_tup_bl (i : Bool) (j : List T) : T.eqv (.tup j) (.bl i) = false := by simp [T.eqv, T.py, PyData.eqv]
@[simp] theorem eqv_non_int (i : Int) : T.eqv .non (.int i) = false := by simp [T.eqv, T.py, PyData.eqv]
@[simp] theorem eqv_non_str (i : Str) : T.eqv .non (.str i) = false := by simp [T.eqv, T.py, PyData.eqv]
@[simp] theorem eqv_non_tup (i : List T) : T.eqv .non (.tup i) = false := by simp [T.eqv, T.py, PyData.eqv]
@[simp] theorem eqv_non_bl (i : Bool) : T.eqv .non (.bl i) = false := by simp [T.eqv, T.py, PyData.eqv]
@[simp] theorem eqv_int_non (i : Int) : T.eqv (.int i) .non = false := by simp [T.eqv, T.py, PyData.eqv]
@[simp] theorem eqv_str_non (i : Str) : T.eqv (.str i) .non = false := by simp [T.eqv, T.py, PyData.eqv]
@[simp] theorem eqv_tup_non (i : List T) : T.eqv (.tup i) .non = false := by simp [T.eqv, T.py, PyData.eqv]
@[simp] theorem eqv_bl_non (i : Bool) : T.eqv (.bl i) .non = false := by simp [T.eqv, T.py, PyData.eqv]
@[simp] theorem eqv_int_bl (i : Int) (b : Bool) : T.eqv (.int i) (.bl b) = decide (i = if b then 1 else 0) := by simp [T.eqv, T.py, PyData.eqv]; rfl
@[simp] theorem eqv_bl_int (i : Int) (b : Bool) : T.eqv (.bl b) (.int i) = decide ((if b then 1 else 0) = i) := by simp [T.eqv, T.py, PyData.eqv]; rfl
@[simp] theorem eqv_non_ls (j : List T) : T.eqv .non (.ls j) = false := by simp [T.eqv, T.py, PyData.eqv]
@[simp] theorem eqv_ls_non (j : List T) : T.eqv (.ls j) .non = false := by simp [T.eqv, T.py, PyData.eqv]
@[simp] theorem eqv_int_ls (i : Int) (j : List T) : T.eqv (.int i) (.ls j) = false := by simp [T.eqv, T.py, PyData.eqv]
@[simp] theorem eqv_ls_int (i : Int) (j : List T) : T.eqv (.ls j) (.int i) = false := by simp [T.eqv, T.py, PyData.eqv]
@[simp] theorem eqv_str_ls (i : Str) (j : List T) : T.eqv (.str i) (.ls j) = false := by simp [T.eqv, T.py, PyData.eqv]
@[simp] theorem eqv_ls_str (i : Str) (j : List T) : T.eqv (.ls j) (.str i) = false := by simp [T.eqv, T.py, PyData.eqv]
@[simp] theorem eqv_tup_ls (i : List T) (j : List T) : T.eqv (.tup i) (.ls j) = false := by simp [T.eqv, T.py, PyData.eqv]
@[simp] theorem eqv_ls_tup (i : List T) (j : List T) : T.eqv (.ls j) (.tup i) = false := by simp [T.eqv, T.py, PyData.eqv]
@[simp] theorem eqv_bl_ls (i : Bool) (j : List T) : T.eqv (.bl i) (.ls j) = false := by simp [T.eqv, T.py, PyData.eqv]
@[simp] theorem eqv_ls_bl (i : Bool) (j : List T) : T.eqv (.ls j) (.bl i) = false := by simp [T.eqv, T.py, PyData.eqv]
def eqvs : List T → List T → Bool
  | [], [] => true
  | a :: as, b :: bs => T.eqv a b && eqvs as bs
  | _, _ => false
theorem eqvs_py : ∀ as bs : List T, PyData.eqvAll (T.pys as) (T.pys bs) = eqvs as bs
  | [], [] => by simp [T.pys, PyData.eqvAll, eqvs]
  | a :: as, b :: bs => by simp [T.pys, PyData.eqvAll, eqvs, eqvs_py as bs, T.eqv]
  | [], b :: bs => by simp [T.pys, PyData.eqvAll, eqvs]
  | a :: as, [] => by simp [T.pys, PyData.eqvAll, eqvs]
@[simp] theorem eqv_tup (as bs : List T) : T.eqv (.tup as) (.tup bs) = eqvs as bs := by
  show PyData.eqv (T.py (.tup as)) (T.py (.tup bs)) = _
  rw [T.py, T.py, PyData.eqv, eqvs_py]
@[simp] theorem eqv_ls (as bs : List T) : T.eqv (.ls as) (.ls bs) = eqvs as bs := by
  show PyData.eqv (T.py (.ls as)) (T.py (.ls bs)) = _
  rw [T.py, T.py, PyData.eqv, eqvs_py]
@[simp] theorem eqvs_nil : eqvs [] [] = true := rfl
@[simp] theorem eqvs_cons (a b : T) (as bs : List T) : eqvs (a :: as) (b :: bs) = (T.eqv a b && eqvs as bs) := rfl
@[simp] theorem eqvs_nc (b : T) (bs : List T) : eqvs [] (b :: bs) = false := rfl
@[simp] theorem eqvs_cn (b : T) (bs : List T) : eqvs (b :: bs) [] = false := rfl
@[simp] theorem dep_non : T.dep .non = 0 := by simp [T.dep, T.py, PyData.depth]
@[simp] theorem dep_bl (b : Bool) : T.dep (.bl b) = 0 := by simp [T.dep, T.py, PyData.depth]
@[simp] theorem dep_int (b : Int) : T.dep (.int b) = 0 := by simp [T.dep, T.py, PyData.depth]
@[simp] theorem dep_str (b : Str) : T.dep (.str b) = 0 := by simp [T.dep, T.py, PyData.depth]
@[simp] theorem dep_tup (b : List T) : T.dep (.tup b) = depS b + 1 := by simp [T.dep, T.py, PyData.depth, depS]
@[simp] theorem dep_ls (b : List T) : T.dep (.ls b) = depS b + 1 := by simp [T.dep, T.py, PyData.depth, depS]
@[simp] theorem depS_nil : depS [] = 0 := by simp [depS, T.pys, PyData.depthAll]
@[simp] theorem depS_cons (a : T) (as : List T) : depS (a :: as) = max a.dep (depS as) := by simp [depS, T.pys, PyData.depthAll, T.dep]
theorem depS_le {n : Nat} : ∀ {ts : List T}, (∀ t ∈ ts, t.dep ≤ n) → depS ts ≤ n
  | [], _ => by simp
  | t :: ts, h => by
    have h1 := h t (by simp)
    have h2 := depS_le (ts := ts) fun u hu => h u (by simp [hu])
    simp only [depS_cons]; omega
@[simp] theorem oEq_im (n : Bool) (a b : T) : oEq n (.im a) (.im b) = if min a.dep b.dep ≤ 64 then some (.im (.bl (if n then !T.eqv a b else T.eqv a b))) else none := by
  simp only [oEq, Val.flat]; rfl
@[simp] theorem oEq_il (n : Bool) (a b : List T) : oEq n (.il a) (.il b) = if min (depS a) (depS b) ≤ 63 then some (.im (.bl (if n then !eqvs a b else eqvs a b))) else none := by
  simp only [oEq, Val.flat, PyData.depth, PyData.eqv, eqvs_py]
  have e : min (PyData.depthAll (T.pys a) + 1) (PyData.depthAll (T.pys b) + 1) ≤ 64 ↔ min (depS a) (depS b) ≤ 63 := by unfold depS; omega
  by_cases h : min (depS a) (depS b) ≤ 63
  · rw [if_pos h, if_pos (e.mpr h)]
  · rw [if_neg h, if_neg fun q => h (e.mp q)]
@[simp] theorem oEq_im_il (n : Bool) (a : T) (b : List T) (h : ∀ us, a ≠ .ls us) : oEq n (.im a) (.il b) = if min a.dep (depS b + 1) ≤ 64 then some (.im (.bl n)) else none := by
  simp only [oEq, Val.flat, PyData.depth]
  have e : PyData.eqv a.py (.list (T.pys b)) = false := by cases a <;> simp [T.py, PyData.eqv] at h ⊢
  rw [e]
  cases n <;> rfl
@[simp] theorem oEq_il_im (n : Bool) (a : T) (b : List T) (h : ∀ us, a ≠ .ls us) : oEq n (.il b) (.im a) = if min (depS b + 1) a.dep ≤ 64 then some (.im (.bl n)) else none := by
  simp only [oEq, Val.flat, PyData.depth]
  have e : PyData.eqv (.list (T.pys b)) a.py = false := by cases a <;> simp [T.py, PyData.eqv] at h ⊢
  rw [e]
  cases n <;> rfl
/-! equal things of one kind are equal -/
mutual
/-- no truth values within -/
def T.nb : T → Bool
  | .bl _ => false
  | .tup ts => nbs ts
  | .ls ts => nbs ts
  | _ => true
def nbs : List T → Bool
  | [] => true
  | t :: ts => t.nb && nbs ts
end
@[simp] theorem nb_int (i : Int) : T.nb (.int i) = true := by simp [T.nb]
@[simp] theorem nb_str (i : Str) : T.nb (.str i) = true := by simp [T.nb]
@[simp] theorem nb_non : T.nb .non = true := by simp [T.nb]
@[simp] theorem nb_tup (ts : List T) : T.nb (.tup ts) = nbs ts := by simp [T.nb]
@[simp] theorem nb_ls (ts : List T) : T.nb (.ls ts) = nbs ts := by simp [T.nb]
@[simp] theorem nbs_nil : nbs [] = true := by simp [nbs]
@[simp] theorem nbs_cons (t : T) (ts : List T) : nbs (t :: ts) = (t.nb && nbs ts) := by simp [nbs]
mutual
theorem eqv_iff : ∀ {a b : T}, a.nb = true → b.nb = true → (T.eqv a b = true ↔ a = b)
  | .non, b, _, hb => by cases b <;> simp_all
  | .bl _, _, h, _ => by simp [T.nb] at h
  | .int i, b, _, hb => by cases b <;> simp_all [T.nb]
  | .str s, b, _, hb => by cases b <;> simp_all [T.nb]
  | .tup ts, b, ha, hb => by
    cases b with
    | tup us =>
      simp only [eqv_tup, T.tup.injEq]
      exact eqvs_iff (by simpa using ha) (by simpa using hb)
    | bl _ => simp [T.nb] at hb
    | _ => simp
  | .ls ts, b, ha, hb => by
    cases b with
    | ls us =>
      simp only [eqv_ls, T.ls.injEq]
      exact eqvs_iff (by simpa using ha) (by simpa using hb)
    | bl _ => simp [T.nb] at hb
    | _ => simp
theorem eqvs_iff : ∀ {a b : List T}, nbs a = true → nbs b = true → (eqvs a b = true ↔ a = b)
  | [], [], _, _ => by simp
  | [], b :: bs, _, _ => by simp
  | a :: as, [], _, _ => by simp
  | a :: as, b :: bs, ha, hb => by
    simp only [nbs_cons, Bool.and_eq_true] at ha hb
    simp only [eqvs_cons, Bool.and_eq_true, List.cons.injEq, eqv_iff ha.1 hb.1, eqvs_iff ha.2 hb.2]
end
theorem eqv_dec [DecidableEq T] {a b : T} (ha : a.nb = true) (hb : b.nb = true) : T.eqv a b = decide (a = b) := by
  by_cases h : a = b
  · rw [decide_eq_true h]; exact (eqv_iff ha hb).mpr h
  · rw [decide_eq_false h]
    cases e : T.eqv a b with
    | false => rfl
    | true => exact absurd ((eqv_iff ha hb).mp e) h
mutual
theorem eqv_refl : ∀ a : T, T.eqv a a = true
  | .non => by simp
  | .bl _ => by simp
  | .int _ => by simp
  | .str _ => by simp
  | .tup ts => by simp [eqvs_refl ts]
  | .ls ts => by simp [eqvs_refl ts]
theorem eqvs_refl : ∀ a : List T, eqvs a a = true
  | [] => rfl
  | a :: as => by simp [eqv_refl a, eqvs_refl as]
end
/-! places -/
@[simp] theorem atI_0 {α : Type} (a : α) (l : List α) : atI (a :: l) 0 = some a := atI_nat (j := 0) rfl
@[simp] theorem atI_1 {α : Type} (a b : α) (l : List α) : atI (a :: b :: l) 1 = some b := atI_nat (j := 1) rfl
@[simp] theorem atI_2 {α : Type} (a b c : α) (l : List α) : atI (a :: b :: c :: l) 2 = some c := atI_nat (j := 2) rfl
@[simp] theorem atI_3 {α : Type} (a b c d : α) (l : List α) : atI (a :: b :: c :: d :: l) 3 = some d := atI_nat (j := 3) rfl
@[simp] theorem atI_4 {α : Type} (a b c d e : α) (l : List α) : atI (a :: b :: c :: d :: e :: l) 4 = some e := atI_nat (j := 4) rfl
theorem atI_of {α : Type} {xs : List α} {i : Int} (h0 : 0 ≤ i) (h1 : i < xs.length) : ∃ v, atI xs i = some v ∧ xs[i.toNat]? = some v := by
  have hj : i.toNat < xs.length := by omega
  refine ⟨xs[i.toNat], ?_, List.getElem?_eq_getElem hj⟩
  have := atI_nat (xs := xs) (j := i.toNat) (List.getElem?_eq_getElem hj)
  rwa [show ((i.toNat : Nat) : Int) = i by omega] at this
@[simp] theorem line_eq : (sizeLine : Nat) = 16777216 := sizeLine_eq
@[simp] theorem asB_bl (b : Bool) (z : Zs) : asB (.im (.bl b)) z = .ok b z := rfl
@[simp] theorem im1_im (t : T) (z : Zs) : im1 (.im t) z = .ok (.im t) z := rfl
theorem sortI_of {ns ms : List Int} (p : ms.Perm ns) (s : ms.Pairwise (· ≤ ·)) : sortI ns = ms := (sortI_eq p s).symm
theorem sortI_two {a b : Int} (h : a ≤ b) : sortI [a, b] = [a, b] := sortI_of (List.Perm.refl _) (by simp [h])
theorem sortI_two' {a b : Int} (h : b ≤ a) : sortI [a, b] = [b, a] := sortI_of (List.Perm.swap _ _ _) (by simp [h])
theorem inR_of {i : Int} (h0 : -1000000000 ≤ i) (h : i ≤ 1000000000) : inR i = true := inR_iff (by omega) (by omega)
theorem cut_mem {α : Type} {xs : List α} {lo hi : Option Int} {t : α} (h : t ∈ cut xs lo hi) : t ∈ xs := List.mem_of_mem_drop (List.mem_of_mem_take h)
theorem cut_len {α : Type} {xs : List α} {lo hi : Option Int} : (cut xs lo hi).length ≤ xs.length := by
  unfold cut
  rw [List.length_take, List.length_drop]
  omega
theorem sIx_of {n d : Nat} {i : Int} (h : 0 ≤ i) : HT.sIx n d (some i) = min i.toNat n := by
  have := HT.sIx_nat n d i.toNat
  rwa [show ((i.toNat : Nat) : Int) = i by omega] at this
theorem cut_to {α : Type} {xs : List α} {i : Int} (h : 0 ≤ i) : cut xs none (some i) = xs.take i.toNat := by
  unfold cut
  rw [sIx_of h, HT.sIx_none, List.drop_zero, Nat.sub_zero]
  rcases Nat.le_total i.toNat xs.length with c | c
  · rw [Nat.min_eq_left c]
  · rw [Nat.min_eq_right c, List.take_of_length_le (Nat.le_refl _), List.take_of_length_le c]
theorem cut_from {α : Type} {xs : List α} {i : Int} (h : 0 ≤ i) : cut xs (some i) none = xs.drop i.toNat := by
  unfold cut
  rw [sIx_of h, HT.sIx_none]
  rcases Nat.le_total i.toNat xs.length with c | c
  · rw [Nat.min_eq_left c, List.take_of_length_le (by rw [List.length_drop]; omega)]
  · rw [Nat.min_eq_right c, List.drop_of_length_le c, List.drop_of_length_le (Nat.le_refl _)]; simp
theorem cut_two {α : Type} {xs : List α} {i j : Int} (h : 0 ≤ i) (g : i ≤ j) : cut xs (some i) (some j) = (xs.drop i.toNat).take (j.toNat - i.toNat) := by
  unfold cut
  rw [sIx_of h, sIx_of (Int.le_trans h g)]
  rcases Nat.le_total i.toNat xs.length with c | c
  · rw [Nat.min_eq_left c]
    rcases Nat.le_total j.toNat xs.length with d | d
    · rw [Nat.min_eq_left d]
    · rw [Nat.min_eq_right d, List.take_of_length_le (by rw [List.length_drop]; omega), List.take_of_length_le (by rw [List.length_drop]; omega)]
  · rw [Nat.min_eq_right c, List.drop_of_length_le c, List.drop_of_length_le (Nat.le_refl _)]; simp
/-! ### loops -/
theorem turns_ind {g : MGt} {body : MS} (P : Nat → List Sv → Zs → Prop) : ∀ {ts : List T} {n : Nat} {S : List Sv} {z : Zs}, (∀ i t S z, ts[i]? = some t → P (n + i) S z → ∃ S1, g t S = some S1 ∧ ∃ S2 z2, (body S1 z = .nx S2 z2 ∨ body S1 z = .ct S2 z2) ∧ P (n + i + 1) S2 z2) → P n S z →
    ∃ S' z', sTurns g body ts S z = .nx S' z' ∧ P (n + ts.length) S' z'
  | [], n, S, z, _, p => ⟨S, z, rfl, by simpa using p⟩
  | t :: ts, n, S, z, h, p => by
    obtain ⟨S1, e1, S2, z2, e2, p2⟩ := h 0 t S z rfl (by simpa using p)
    obtain ⟨S', z', e3, p3⟩ := turns_ind P (ts := ts) (n := n + 1) (S := S2) (z := z2) (fun i t S z e p => by
      obtain ⟨S1, e1, r⟩ := h (i + 1) t S z (by simpa using e) (by rw [show n + (i + 1) = n + 1 + i by omega]; exact p)
      exact ⟨S1, e1, by rw [show n + 1 + i + 1 = n + (i + 1) + 1 by omega]; exact r⟩) (by simpa using p2)
    refine ⟨S', z', ?_, by rw [List.length_cons, show n + (ts.length + 1) = n + 1 + ts.length by omega]; exact p3⟩
    rcases e2 with e2 | e2 <;> simp only [sTurns, e1, e2, e3]
theorem wh_ind {c : MT} {b : MS} (P : Nat → List Sv → Zs → Prop) (Q : List Sv → Zs → Prop)
    (h : ∀ n S z, P n S z → (∃ z', c S z = .ok false z' ∧ Q S z') ∨ (∃ z', c S z = .ok true z' ∧ ∃ S2 z2, (b S z' = .nx S2 z2 ∨ b S z' = .ct S2 z2) ∧ ∃ m, m < n ∧ P m S2 z2)) : ∀ n S z, P n S z → ∃ S' z', sWh c b S z = .nx S' z' ∧ Q S' z' := by
  intro n
  induction n using Nat.strongRecOn with
  | _ n ih =>
    intro S z p
    rcases h n S z p with ⟨z', e, q⟩ | ⟨z', e, S2, z2, e2, m, hm, p2⟩
    · exact ⟨S, z', by rw [sWh_eq, e]; simp [Rs.go], q⟩
    · obtain ⟨S', z'', e3, q⟩ := ih m hm S2 z2 p2
      refine ⟨S', z'', ?_, q⟩
      rw [sWh_eq, e]
      rcases e2 with e2 | e2 <;> simp [Rs.go, e2, e3]
@[simp] theorem rngI_length {lo : Int} {n : Nat} : (rngI lo n).length = n := by simp [rngI]
theorem rngI_get {lo : Int} {n i : Nat} {t : T} (h : (rngI lo n)[i]? = some t) : i < n ∧ t = .int (lo + i) := by
  unfold rngI at h
  rw [List.getElem?_map] at h
  by_cases c : i < n
  · rw [List.getElem?_range c] at h
    cases h
    exact ⟨c, rfl⟩
  · rw [List.getElem?_eq_none (by simpa using c)] at h
    cases h
/-- a plain comprehension whose every turn gives a thing of the kind R -/
theorem lc_all {j : Nat} {m : ME} {S0 : List Sv} (hj : j < S0.length) (R : T → T → Prop) : ∀ {ts acc : List T} {z : Zs}, (∀ t ∈ ts, ∀ z, ∃ u z', m (S0.set j (.o (.im t))) z = .ok (.im u) z' ∧ R t u) → acc.length + ts.length ≤ sizeLine →
    ∃ (us : List T) (z' : Zs), lcT j tYs m S0 ts acc z = .ok (.il (acc ++ us)) z' ∧ us.length = ts.length ∧ ∀ (i : Nat) (t : T), ts[i]? = some t → ∃ u : T, us[i]? = some u ∧ R t u
  | [], acc, z, _, _ => ⟨[], z, by simp [lcT], rfl, fun i t e => by simp at e⟩
  | t :: ts, acc, z, h, hl => by
    rw [List.length_cons] at hl
    obtain ⟨u, z1, e1, r1⟩ := h t (by simp) z
    obtain ⟨us, z2, e2, l2, r2⟩ := lc_all hj R (ts := ts) (acc := acc ++ [u]) (z := z1) (fun t ht => h t (by simp [ht])) (by rw [List.length_append, List.length_singleton]; omega)
    refine ⟨u :: us, z2, ?_, by simp [l2], fun i t' e => ?_⟩
    · simp only [lcT, tYs]
      rw [if_pos hj, e1]
      simp only
      rw [if_pos (by omega), e2]
      simp
    · cases i with
      | zero => simp at e; subst e; exact ⟨u, by simp, r1⟩
      | succ i => simp at e; obtain ⟨u', e', r'⟩ := r2 i t' e; exact ⟨u', by simpa using e', r'⟩
end MM

/-! MT: text * n, tuple * n, is True, texts walked sign by sign, index of a text. -/
namespace L2
open PySem PySem.Spec PyProof.Rows
set_option maxHeartbeats 4000000
theorem tuple_mulW1 (l : Addr) (items : Array Value) (n : Nat) (dd : Option Addr) (sl : Array (Option Value)) (u : Tok) :
    Meets (Builtin.«tuple.__mul__» ⟨[.ref l, .int 1 u], []⟩) (fun _ R s => s.heap.get? l = some { cls := .type "tuple", dict := dd, data := .seq items n, slots := sl } ∧
      R (.ok (.ret (Value.ref l))) s) :=
  .of_wp fun prog w A R s h => by
    obtain ⟨hp, g, d, tk, os⟩ := s
    obtain ⟨hl, h⟩ := h
    have f1 := AutoSeq1.idx_int
    wp_walk using wpAny_loadPart' hl
    repeat (first
      | (refine wpAny_ite_false (decide_eq_false (by decide)) ?_; wp_walk using wpAny_loadPart' hl)
      | (refine wpAny_ite_true (decide_eq_true (by simp)) ?_; wp_walk using wpAny_loadPart' hl))
    exact ⟨_, rfl, h⟩
theorem tuple_mulW0 (l : Addr) (items : Array Value) (n : Nat) (dd : Option Addr) (sl : Array (Option Value)) (u : Tok) (hi : items.isEmpty = false) :
    Meets (Builtin.«tuple.__mul__» ⟨[.ref l, .int 0 u], []⟩) (fun _ R s => s.heap.get? l = some { cls := .type "tuple", dict := dd, data := .seq items n, slots := sl } ∧
      R (.ok (.ret (Value.ref s.heap.objs.size))) { s with heap := s.heap.push { cls := Value.type "tuple", data := Data.seq #[] }, toks := s.toks }) :=
  .of_wp fun prog w A R s h => by
    obtain ⟨hp, g, d, tk, os⟩ := s
    obtain ⟨hl, h⟩ := h
    have f1 := AutoSeq1.idx_int
    wp_walk using wpAny_loadPart' hl
    repeat (first
      | (refine wpAny_ite_false (decide_eq_false (by decide)) ?_; wp_walk using wpAny_loadPart' hl)
      | (refine wpAny_ite_false (decide_eq_false (by rw [hi]; decide)) ?_; wp_walk using wpAny_loadPart' hl)
      | (refine wpAny_ite_true (decide_eq_true (by simp)) ?_; wp_walk using wpAny_loadPart' hl))
    exact ⟨_, rfl, h⟩
def rRepT1 (K : PySem.W.Frag) : R2 := fun x y H Q => ∃ l xs, x = .ref l ∧ y = .int 1 ∧ SqT K H l xs ∧ Q (.ref l) H
def rRepT0 (K : PySem.W.Frag) : R2 := fun x y H Q => ∃ l xs, x = .ref l ∧ y = .int 0 ∧ SqT K H l xs ∧ xs ≠ [] ∧ ∀ p, H p = none → Q (.ref p) (upd H p (.tup []))
section
variable {X : Cx}
theorem op_repT1 : OpR X (binaryOp .Mult) (rRepT1 X.K) := by
  intro pins s σ H x y v u Q I rx ry h
  obtain ⟨l, xs, rfl, rfl, hT, q⟩ := h
  cases rx
  obtain ⟨t, rfl⟩ := ry
  obtain ⟨its, r, ⟨⟨cls, dd, data, sl⟩, ho, hc, n, hd⟩, hs⟩ := I.tuple hT
  simp only at hc hd
  subst hc hd
  refine wpAny_binaryOp_repeat_ref (T := "tuple") (U := "int") (by decide) ⟨_, ho, rfl⟩ (fun s' => typeIs_int s' 1 t) noFill_tuple_mul F.fills_int_mul F.slot_int_rmul repeat_tuple F.slot_int_index.lookup
    (call_meets F.slot_int_rmul (typeIs_int s 1 t) F.entry_int_rmul (F.args_int_rmul_2 _ _) (int_rmul_tuple 1 t l its.toArray n dd sl)
      ⟨ho, rfl, ⟨_, ho, rfl⟩, call_meets F.slot_tuple_mul ⟨_, ho, rfl⟩ F.entry_tuple_mul (F.args_tuple_mul_2 _ _) (tuple_mulW1 l its.toArray n dd sl t) ⟨ho, ?_⟩⟩)
  exact ⟨.ref l, H, I, rfl, q⟩
theorem op_repT0 : OpR X (binaryOp .Mult) (rRepT0 X.K) := by
  intro pins s σ H x y v u Q I rx ry h
  obtain ⟨l, xs, rfl, rfl, hT, hne, q⟩ := h
  cases rx
  obtain ⟨t, rfl⟩ := ry
  obtain ⟨its, r, ⟨⟨cls, dd, data, sl⟩, ho, hc, n, hd⟩, hs⟩ := I.tuple hT
  simp only at hc hd
  subst hc hd
  have hle : its.length = xs.length := r.length.symm
  have hn : its ≠ [] := fun e => hne (by
    rw [e] at hle
    exact List.eq_nil_of_length_eq_zero hle.symm)
  have hi : its.toArray.isEmpty = false := by
    cases its with
    | nil => exact absurd rfl hn
    | cons a b => rfl
  refine wpAny_binaryOp_repeat_ref (T := "tuple") (U := "int") (by decide) ⟨_, ho, rfl⟩ (fun s' => typeIs_int s' 0 t) noFill_tuple_mul F.fills_int_mul F.slot_int_rmul repeat_tuple F.slot_int_index.lookup
    (call_meets F.slot_int_rmul (typeIs_int s 0 t) F.entry_int_rmul (F.args_int_rmul_2 _ _) (int_rmul_tuple 0 t l its.toArray n dd sl)
      ⟨ho, rfl, ⟨_, ho, rfl⟩, call_meets F.slot_tuple_mul ⟨_, ho, rfl⟩ F.entry_tuple_mul (F.args_tuple_mul_2 _ _) (tuple_mulW0 l its.toArray n dd sl t hi) ⟨ho, ?_⟩⟩)
  refine ⟨.ref s.heap.objs.size, _, I.laid (t' := s.toks) (o := .tup []) (fun b ob q => Heap.get?_push_of_some _ q) (Nat.le_refl _) ?_, rfl, q _ (I.hok.fresh (Nat.le_refl _))⟩
  exact ⟨by decide, [], .nil, IsTup.new _ _⟩
end
end L2
namespace MM
open PySem PySem.Spec PyProof.Rows L2
section
variable {X : Cx} {W : WX} {st : Option Addr} {pos : Pos}
/-! ### repetition -/
def rRepS : R2 := fun x y H Q => ∃ a n, x = .str a ∧ y = .int n ∧ a.length ≤ 1000 ∧ -1000 ≤ n ∧ n ≤ 1000 ∧ Q (.str (Txt.mul a n)) H
theorem op_repS : OpR X (binaryOp .Mult) rRepS := by
  intro pins s σ H x y v u Q I rx ry h
  obtain ⟨a, n, rfl, rfl, h1, h2, h3, q⟩ := h
  obtain ⟨t, rfl⟩ := rx
  obtain ⟨t', rfl⟩ := ry
  exact SB.mul (mulOk_of 1000 1000 h1 (by omega) (by omega) (by decide) (by decide)) fun t' k => ⟨.str _, H, I.tok _, ⟨_, rfl⟩, q⟩
theorem op_or {op : Value → Value → Sem Value} {r r' : R2} (h : OpR X op r) (h' : OpR X op r') : OpR X op (fun x y H Q => r x y H Q ∨ r' x y H Q) := h.or h'
theorem sOk_mul {x : Str} {n : Int} (h : sOk x = true) (h1 : x.length ≤ 1000) (h3 : n ≤ 1000) : sOk (Txt.mul x n) = true := by
  have hl : ((Txt.mul x n).length : Int) = (x.length : Int) * (if decide (n < 0) = true then 0 else n) := len_mul x n
  have hb : (x.length : Int) * (if decide (n < 0) = true then 0 else n) ≤ 1000 * 1000 := by
    apply Int.mul_le_mul (by omega) (by split <;> omega) (by split <;> simp at * <;> omega) (by decide)
  unfold sOk at *
  simp only [Bool.and_eq_true, decide_eq_true_eq] at *
  refine ⟨?_, by rw [sizeLine_eq]; omega⟩
  unfold Txt.mul
  split
  · decide +kernel
  · split
    · exact h.1
    · have fl : ∀ (m : Nat) (acc : Array Nat), (∀ c ∈ acc.toList, PyData.strOk ⟨#[c]⟩ = true) → ∀ c ∈ ((List.replicate m x.cps).foldl (· ++ ·) acc).toList, PyData.strOk ⟨#[c]⟩ = true := by
        intro m
        induction m with
        | zero => intro acc ha; simpa using ha
        | succ m ih =>
          intro acc ha
          rw [List.replicate_succ, List.foldl_cons]
          refine ih _ fun c hc => ?_
          rw [Array.toList_append] at hc
          rcases List.mem_append.mp hc with q | q
          · exact ha c q
          · exact strOk_mem h.1 q
      have := fl n.toNat #[] (by simp)
      unfold PyData.strOk
      rw [Array.all_eq_true_iff_forall_mem]
      intro c hc
      have hc2 := this c (Array.mem_toList_iff.mpr hc)
      unfold PyData.strOk at hc2
      simpa using hc2
@[simp] def oRep (x y : Val) : Option Val := match x, y with
  | .im (.str a), .im (.int n) => if a.length ≤ 1000 ∧ -1000 ≤ n ∧ n ≤ 1000 then some (.im (.str (Txt.mul a n))) else none
  | .im (.tup ts), .im (.int n) => if ts ≠ [] ∧ 0 ≤ n ∧ n ≤ 1000 ∧ ts.length ≤ 1000 then some (.im (.tup (List.replicate n.toNat ts).flatten)) else none
  | _, _ => none
theorem reps_flat {K : PySem.W.Frag} {H : Hp} {vs : List V} {ts : List T} (h : RepTs K H vs ts) : ∀ n : Nat, RepTs K H (List.replicate n vs).flatten (List.replicate n ts).flatten
  | 0 => .nil
  | n + 1 => by
    rw [List.replicate_succ, List.replicate_succ, List.flatten_cons, List.flatten_cons]
    exact h.append (reps_flat h n)
theorem op2_rep : Op2 X st (fun x y H Q => rRepS x y H Q ∨ (rRepT X.K x y H Q ∨ (rRepT1 X.K x y H Q ∨ rRepT0 X.K x y H Q))) oRep := by
  intro H va vb xa xb y Q ha hb e q
  unfold oRep at e
  split at e
  · rename_i a n
    split at e
    · rename_i c
      cases e
      obtain ⟨rfl, ok⟩ := bor_str ha
      have := bor_int hb
      subst this
      exact .inl ⟨_, _, rfl, rfl, c.1, c.2.1, c.2.2, q _ H [] (Same.refl H) (.im (.str _ (sOk_mul ok c.1 c.2.2))) List.nodup_nil (fun _ z => by cases z)⟩
    · cases e
  · rename_i ts n
    split at e
    · rename_i c
      cases e
      have := bor_int hb
      subst this
      cases ha with
      | im ha =>
        cases ha with
        | @tup a xs _ sa ra =>
          have hne : xs ≠ [] := fun z => c.1 (by subst z; cases ra; rfl)
          by_cases c1 : n = 1
          · subst c1
            have e1 : (List.replicate (1 : Int).toNat ts).flatten = ts := by show (List.replicate 1 ts).flatten = ts; simp
            rw [e1] at q
            exact .inr (.inr (.inl ⟨a, xs, rfl, rfl, sqt_hid sa, q _ H [] (Same.refl H) (.im (.tup (sqt_hid sa) (rep_hid ra))) List.nodup_nil (fun _ z => by cases z)⟩))
          by_cases c0 : n = 0
          · subst c0
            have e1 : (List.replicate (0 : Int).toNat ts).flatten = [] := by show (List.replicate 0 ts).flatten = []; simp
            rw [e1] at q
            exact .inr (.inr (.inr ⟨a, xs, rfl, rfl, sqt_hid sa, hne, fun p np => q _ _ [] (Same.upd_new np) (.im (.tup (.inl (.inl upd_same)) .nil)) List.nodup_nil (fun _ z => by cases z)⟩))
          · refine .inr (.inl ⟨a, n, xs, rfl, rfl, sqt_hid sa, hne, by omega, c.2.2.1, by rw [ra.length]; exact c.2.2.2, fun p np => ?_⟩)
            exact q _ _ [] (Same.upd_new np) (.im (.tup (.inl (.inl upd_same)) ((rep_hid (reps_flat ra _)).mono (Le.of_same (Same.upd_new np))))) List.nodup_nil (fun _ z => by cases z)
    · cases e
  · cases e
@[simp] def eRep := eBin oRep
theorem fe_rep {a b : Expr} {ma mb : ME} (ha : RE X W st a ma) (hb : RE X W st b mb) : FE X W st (.BinOp a .Mult b pos) (eRep ma mb) := fe_op (op_or op_repS (op_or op_repT (op_or op_repT1 op_repT0))) op2_rep ha hb
/-! ### is True, is False -/
@[simp] def oIsB (x y : Val) : Option Val := match x, y with
  | .im (.bl a), .im (.bl b) => some (.im (.bl (decide (a = b))))
  | _, _ => none
@[simp] def oIsntB (x y : Val) : Option Val := match x, y with
  | .im (.bl a), .im (.bl b) => some (.im (.bl (!decide (a = b))))
  | _, _ => none
theorem op2_isB : Op2 X st (fun x y H Q => ∃ a b, x = .bl a ∧ y = .bl b ∧ Q (.bl (decide (a = b))) H) oIsB := by
  intro H va vb xa xb y Q ha hb e q
  unfold oIsB at e
  split at e
  · cases e
    exact ⟨_, _, bor_bl ha, bor_bl hb, q _ H [] (Same.refl H) (.im (.bl _)) List.nodup_nil (fun _ z => by cases z)⟩
  · cases e
theorem op2_isntB : Op2 X st (fun x y H Q => ∃ a b, x = .bl a ∧ y = .bl b ∧ Q (.bl (!decide (a = b))) H) oIsntB := by
  intro H va vb xa xb y Q ha hb e q
  unfold oIsntB at e
  split at e
  · cases e
    exact ⟨_, _, bor_bl ha, bor_bl hb, q _ H [] (Same.refl H) (.im (.bl _)) List.nodup_nil (fun _ z => by cases z)⟩
  · cases e
section
variable {a b : Expr} {ma mb : ME}
theorem fe_isb (ha : RE X W st a ma) (hb : RE X W st b mb) : FE X W st (.Compare a [.Is] [b] pos) (eBin oIsB ma mb) := fe_cmp op_is_bl op2_isB ha hb
theorem rt_isb (ha : RE X W st a ma) (hb : RE X W st b mb) : RT X W st (.Compare a [.Is] [b] pos) (tCp oIsB ma mb) := rt_cmp op_is_bl op2_isB ha hb
theorem fe_isntb (ha : RE X W st a ma) (hb : RE X W st b mb) : FE X W st (.Compare a [.IsNot] [b] pos) (eBin oIsntB ma mb) := fe_cmp op_isnot_bl op2_isntB ha hb
theorem rt_isntb (ha : RE X W st a ma) (hb : RE X W st b mb) : RT X W st (.Compare a [.IsNot] [b] pos) (tCp oIsntB ma mb) := rt_cmp op_isnot_bl op2_isntB ha hb
end
/-! ### walks -/
/-- the turns of a walk whose items are the things ts, whatever the heap -/
def YT (K : PySem.W.Frag) (ts : List T) : Nat → Hp → V → Hp → Prop := fun i H x H' => H' = H ∧ ∃ t, ts[i]? = some t ∧ RepT K H x t
theorem it_core {J : It} {ts : List T} {GH : Hp → Prop} {g : MGt} {tG : TG} {tb : TS} {mb : MS} (fg : ∀ H0 B Ls S z σ H v u S' (Q : L2.St → Hp → Prop), Stt X.K st H0 B Ls [] S z σ H → RepT X.K H v u → g u S = some S' → (∀ σ', Stt X.K st H0 B Ls [] S' z σ' H → Q σ' H) → tG v σ H Q)
    (fb : ∀ H0 B Ls S z σ H D, Stt X.K st H0 B Ls [] S z σ H → Cs X W st H0 B Ls D (mb S z) → tb D σ H) (w : Walk J ts.length GH (YT X.K ts))
    {H0 B H : Hp} {Ls : List (Option (V × Val))} {S : List Sv} {z : Zs} {σ : L2.St} {D : Ends} (h : Stt X.K st H0 B Ls [] S z σ H) (hG : ∀ S z σ H, Stt X.K st H0 B Ls [] S z σ H → GH H) (hq : Cs X W st H0 B Ls D (sTurns g mb ts S z)) :
    ∃ W' : Nat → Nat → L2.St → Hp → Prop, (∃ m, W' 0 m σ H) ∧ ∀ i m σ H, W' i m σ H →
      (J.stop i H ∧ D.nx σ H) ∨ (J.go i H ∧ ∃ N : L2.St → Hp → Prop, (∀ σ' H', N σ' H' → ∃ m', m' < m ∧ W' (i + 1) m' σ' H') ∧ ∀ x H', J.yld i H x H' → tG x σ H' fun σ2 H2 => tb { D with nx := N, ct := N, bk := D.nx } σ2 H2) := by
  refine for_it w (fun i σ H => ∃ S z, Stt X.K st H0 B Ls [] S z σ H ∧ Cs X W st H0 B Ls D (sTurns g mb (ts.drop i) S z)) ⟨S, z, h, by simpa using hq⟩ (fun i σ1 H1 hi ⟨S1, z1, h1, q1⟩ => hG _ _ _ _ h1) (fun i x σ1 H1 H2 hi ⟨S1, z1, h1, q1⟩ ⟨e, t, et, rt⟩ => ?_) (fun σ1 H1 ⟨S1, z1, h1, q1⟩ => ?_)
  · subst e
    obtain ⟨hl, e2⟩ := List.getElem?_eq_some_iff.mp et
    rw [List.drop_eq_getElem_cons hl, e2] at q1
    exact turn_ok fg fb h1 rt q1
  · rw [List.drop_length] at q1
    exact q1 σ1 H1 h1
/-- the signs of a text -/
def signs (z : Str) : List T := z.cps.toList.map fun c => .str ⟨#[c]⟩
@[simp] theorem signs_length (z : Str) : (signs z).length = z.length := by simp [signs]; rfl
theorem sOk_one {z : Str} {c : Nat} (h : sOk z = true) (hc : c ∈ z.cps.toList) : sOk ⟨#[c]⟩ = true := by
  unfold sOk at *
  simp only [Bool.and_eq_true, decide_eq_true_eq] at *
  exact ⟨strOk_mem h.1 hc, by rw [sizeLine_eq]; show 1 ≤ 16777216; decide⟩
theorem walk_signs {K : PySem.W.Frag} {z : Str} (h : sOk z = true) : Walk (Its z) (signs z).length (fun _ => True) (YT K (signs z)) := by
  have e : (signs z).length = z.cps.size := by simp; rfl
  rw [e]
  refine Walk.mono walk_str (fun _ h => h) fun i H x H' hi _ ⟨e1, c, ec, ev⟩ => ⟨e1, .str ⟨#[c]⟩, ?_, ?_⟩
  · unfold signs
    rw [List.getElem?_map, Array.getElem?_toList, ec]; rfl
  · subst ev
    exact .str _ (sOk_one h (Array.mem_toList_iff.mpr (Array.mem_of_getElem? ec)))
/-- for over a text -/
@[simp] def sForS (m : ME) (g : MGt) (body : MS) : MS := fun S z => (m S z).go S fun x z => match x with
  | .im (.str s) => sTurns g body (signs s) S z
  | _ => .no
theorem se_forS {tg iter : Expr} {body : List Stmt} {m : ME} {g : MGt} {mb : MS} (hp : PassesOwn (model X.prog X.w) X.A X.env X.xe) (hc : X.calm = true) (hi : RE X W st iter m) (hg : GE X st tg g) (hb : SEs X W st body mb)
    (hs : ∀ x, foldedSetIterable iter X.env x = pure x := by intro _; rfl) : SE X W st (.For tg iter body [] pos) (sForS m g mb) := by
  obtain ⟨t, p, f⟩ := hi
  obtain ⟨tG, pG, fg⟩ := hg
  obtain ⟨tb, pb, fb⟩ := hb
  refine ⟨_, ps_for hp hc (pi_str p) pG pb hs, fun H0 B Ls S z σ H D h hq => ?_⟩
  refine f H0 B Ls [] S z σ H _ h (Cs.go h hq fun x z1 H1 _ x1 hz1 hq1 v hv => ?_)
  split at hq1
  · rename_i s _
    obtain ⟨rfl, ok⟩ := bor_str hv
    exact ⟨s, rfl, it_core fg fb (walk_signs ok) (h.grow x1 hz1) (fun _ _ _ _ _ => trivial) hq1⟩
  · exact hq1.elim
/-- .. a comprehension over a walk -/
theorem lcW_rd {J : It} {ts : List T} {c : MT} {m : ME} {tt : TT} {te : TE} (j : Nat) (w : Walk J ts.length (fun _ => True) (YT X.K ts))
    (ft : ∀ H0 B Ls G S z σ H Q, Stt X.K st H0 B Ls G S z σ H → Ct X W0 st σ H (c S z) (fun x z' H' => Q x H') → tt σ H Q)
    (fe : ∀ H0 B Ls G S z σ H Q, Stt X.K st H0 B Ls G S z σ H → Ct X W0 st σ H (m S z) (fun x z' H' => ∀ v, Bor X.K (hid st H') v x → Q v H') → te σ H Q)
    {H0 B H1 : Hp} {Ls : List (Option (V × Val))} {G : List Addr} {S : List Sv} {σ : L2.St} {Q : VK} {z1 : Zs} (h1 : Stt X.K st H0 B Ls G S z1 σ H1)
    (hq1 : Ct X W st σ H1 (lcT j c m (wipS j S) ts [] z1) (fun x z' H' => ∀ v G', Own X.K H' v x G' → Stt X.K st H0 B Ls (G' ++ G) S z' σ H' → Q v H')) {D : Addr} (nD : H1 D = none) :
    ∃ W : Nat → Nat → Hp → Prop, (∃ m, W 0 m (L2.upd H1 D (.lst []))) ∧ ∀ i m H, W i m H →
      (J.stop i H ∧ Q (.ref D) H) ∨ (J.go i H ∧ ∃ Nx : Hp → Prop, (∀ H', Nx H' → ∃ m', m' < m ∧ W (i + 1) m' H') ∧ ∀ x H', J.yld i H x H' → gName j x (wipe σ [j]) H' fun σ2 H2 => wipe σ2 [j] = wipe σ [j] ∧ tt σ2 H2 fun b H3 =>
        if b = true then te σ2 H3 fun y H4 => ∃ acc, H4 D = some (.lst acc) ∧ acc.length < sizeLine ∧ Nx (L2.upd H4 D (.lst (acc ++ [y]))) else Nx H3) := by
  have hz1 := h1.zr
  have sn : Same H1 (L2.upd H1 D (.lst [])) := Same.upd_new nD
  refine lc_it w (fun i H => ∃ z acc av, LcP X st H0 B Ls G S σ D (fun v H' => (∀ a o, st ≠ some a → a ≠ D → H1 a = some o → H' a = some o) → Q v H') j c m H1 (ts.drop i) H z acc av)
    ⟨z1, [], [], h1.add (G' := [D]) (.of_same sn) (hz1.new sn) (by simp) (fun a ha => by simp at ha; subst ha; exact nD) (fun a ha => by simp at ha; subst ha; exact ⟨_, upd_same, True.intro⟩), upd_same, .nil, fun a o _ _ e => sn a o e, lc_start h1 nD hq1 fun _ _ _ => trivial⟩
    (fun _ _ _ _ => trivial) (fun i x H H' hi ⟨z2, acc, av, P⟩ ⟨e, t, et, rt⟩ => ?_) (fun H ⟨z2, acc, av, P⟩ => ?_)
  · subst e
    obtain ⟨hl, e2⟩ := List.getElem?_eq_some_iff.mp et
    rw [List.drop_eq_getElem_cons hl, e2] at P
    exact lc_turn ft fe P rt
  · rw [List.drop_length] at P
    have hq := P.q
    exact hq H av P.s P.d P.r P.k
@[simp] def eLcS (it : ME) (j : Nat) (c : MT) (m : ME) : ME := fun S z => (it S z).bind fun x z => match x with
  | .im (.str s) => lcT j c m (wipS j S) (signs s) [] z
  | _ => .no
theorem fe_lcS {elt tg iter : Expr} {ifs : List Expr} {scope : Scope} {x : Str} {it : ME} {c : MT} {m : ME} (j : Nat) (hc : X.calm = true) (hN : X.N.Nodup) (hi : RE X W st iter it) (ok : BlkOk X.N X.env.scope scope [(x, j)])
    (hg : ∀ s H C cl fp, PG (Bk X scope s H C cl fp) tg (gName j)) (ht : ∀ s H C cl fp, RTs (Bk X scope s H C cl fp) W0 st ifs c) (he : ∀ s H C cl fp, RE (Bk X scope s H C cl fp) W0 st elt m)
    (hs : ∀ x, foldedSetIterable iter X.env x = pure x := by intro _; rfl) : FE X W st (.ListComp elt [⟨tg, iter, ifs, 0⟩] scope pos) (eLcS it j c m) := by
  obtain ⟨ti, pi, fi⟩ := hi
  obtain ⟨tt, pt, ft⟩ := rts_uni ht
  obtain ⟨te, pe, fe⟩ := re_uni he
  refine ⟨_, pe_lc hc hN (pi_str pi) ok hg pt pe hs, fun H0 B Ls G S z σ H Q h hq => ?_⟩
  refine fi H0 B Ls G S z σ H _ h (hq.bind fun y z1 H1 _ x1 hz1 hq1 v hv => ?_)
  split at hq1
  · rename_i s _
    obtain ⟨rfl, ok⟩ := bor_str hv
    exact ⟨s, rfl, fun D nD => lcW_rd j (walk_signs ok) ft fe (h.grow x1 hz1) hq1 nD⟩
  · exact hq1.elim
theorem se_setLcS (i : Nat) {elt tg iter : Expr} {ifs : List Expr} {scope : Scope} {x y : Str} {py lp : Pos} {it : ME} {c : MT} {m : ME} (j : Nat) (hc : X.calm = true) (hN : X.N.Nodup) (hy : X.N[i]? = some y) (hyl : X.env.scope.names.lookup y = some .local)
    (hsw : swapsWith (.ListComp elt [⟨tg, iter, ifs, 0⟩] scope lp) (some (.Name y py)) pos.line X.env = pure true) (hi : RE X W st iter it) (ok : BlkOk X.N X.env.scope scope [(x, j)])
    (hg : ∀ s H C cl fp, PG (Bk X scope s H C cl fp) tg (gName j)) (ht : ∀ s H C cl fp, RTs (Bk X scope s H C cl fp) W0 st ifs c) (he : ∀ s H C cl fp, RE (Bk X scope s H C cl fp) W0 st elt m)
    (hs : ∀ x, foldedSetIterable iter X.env x = pure x := by intro _; rfl) : SE X W st (.Assign [.Name y py] (.ListComp elt [⟨tg, iter, ifs, 0⟩] scope lp) pos) (sSet i (eLcS it j c m)) := by
  obtain ⟨ti, pi, fi⟩ := hi
  obtain ⟨tt, pt, ft⟩ := rts_uni ht
  obtain ⟨te, pe, fe⟩ := re_uni he
  refine ⟨_, ps_setLc hc hN hy hyl hsw (pi_str pi) ok hg pt pe hs, fun H0 B Ls S z σ H D h hq => ?_⟩
  unfold sSet at hq
  split at hq
  · rename_i hl
    unfold eLcS at hq
    have hq' : Cs X W st H0 B Ls D ((it S z).go S fun x z => (match x with
      | .im (.str s) => lcT j c m (wipS j S) (signs s) [] z
      | _ => Rs.no).go S fun x z => .nx (S.set i (.o x)) z) := by
      cases e : it S z <;> rw [e] at hq <;> exact hq
    refine fi H0 B Ls [] S z σ H _ h (Cs.go h hq' fun y z1 H1 _ x1 hz1 hq1 v hv => ?_)
    split at hq1
    · rename_i s _
      obtain ⟨rfl, ok⟩ := bor_str hv
      refine ⟨s, rfl, fun D' nD => lcW_rd (Q := fun v H1 => gName i v σ H1 D.nx) j (walk_signs ok) ft fe (h.grow x1 hz1) (Cs.go (h.grow x1 hz1) hq1 fun y z2 H2 _ x2 hz2 hq2 v G' ow h2 => ?_) nD⟩
      exact hq2 _ H2 (h2.put ow hl)
    · exact hq1.elim
  · exact hq.elim
/-! ### a text's method of one argument -/
def SpM (X : Cx) (st : Option Addr) (r : V → List V → Hp → VK → Prop) (o : Val → Val → Option Val) : Prop := ∀ (H : Hp) (va vb : V) (xa xb y : Val) (Q : VK), Bor X.K (hid st H) va xa → Bor X.K (hid st H) vb xb → o xa xb = some y →
  (∀ v H' G', Same H H' → Own X.K H' v y G' → G'.Nodup → (∀ a ∈ G', H a = none) → Q v H') → r va [vb] H Q
@[simp] def eSm1 (o : Val → Val → Option Val) (ma mb : ME) : ME := fun S z => (ma S z).bind fun x z => match x with
  | .im (.str a) => (mb S z).bind fun y z => lft (o (.im (.str a)) y) z
  | _ => .no
theorem fe_sm1 {a b : Expr} {ma mb : ME} {ap : Pos} {name : Str} {id : String} {r : V → List V → Hp → VK → Prop} {o : Val → Val → Option Val} (slot : Slot "str" name id) (hty : typeOf (.builtin id) = pure (.type "method_descriptor")) (hm : MtM X id r) (sp : SpM X st r o) (ha : RE X W st a ma) (hb : RE X W st b mb)
    (hbase : attributeBase a name X.env (eval a X.env) = eval a X.env := by rfl)
    (hfew : ((backTo pos (starEach [b] X.env)).all (fun x => !x.1) && (backToKw pos (keywordEach [] X.env)).all (fun x => x.1.isSome)
      && decide (([b] : List Expr).length + ([] : List Keyword).length + (if ([] : List Keyword).isEmpty then 0 else 1) < 30)) = true := by rfl)
    (hline : (ap.endLine == pos.line) = true := by rfl) (hs : starEach [b] X.env = (false, eval b X.env) :: starEach [] X.env := by rfl) (hplain : (backTo pos (starEach [] X.env)).any (·.1) = false := by rfl) :
    FE X W st (.Call (.Attribute a name ap) [b] [] pos) (eSm1 o ma mb) := by
  obtain ⟨ta, pa, fa⟩ := ha
  obtain ⟨tb, pb, fb⟩ := hb
  refine ⟨_, pe_bm PySem.F.plainAttrs_str slot hty hm pa (pa_cons pb pa_nil hs) hbase hfew hline hs hplain, fun H0 B Ls G S z σ H Q h hq => ?_⟩
  refine fa H0 B Ls G S z σ H _ h (Ct.bind hq fun x z1 H1 ex x1 hz1 hq1 v hv => ?_)
  split at hq1
  · rename_i u
    obtain ⟨rfl, ok⟩ := bor_str hv
    refine ⟨rfl, ?_⟩
    refine fb H0 B Ls G S z1 σ H1 _ (h.grow x1 hz1) (hq1.bind fun y z2 H2 _ x2 hz2 hq2 w hw => ?_)
    cases e : o (.im (.str u)) y with
    | none => rw [e] at hq2; exact hq2.elim
    | some k =>
      rw [e] at hq2
      exact sp H2 (.str u) w _ y k Q (.im (.str u ok)) hw e fun v' H' G' s ow nd fr => Ct.fin ((h.grow x1 hz1).grow x2 hz2) hq2 s ow nd fr
  · exact hq1.elim
/-- s.index(t), t within s -/
def rIndex0 : V → List V → Hp → VK → Prop := fun x xs H Q => ∃ (a b : Str) (k : Nat), x = .str a ∧ xs = [.str b] ∧ Txt.index0 a b = some k ∧ Q (.int (k : Nat)) H
theorem mt_index0 : MtM X "str.index" rIndex0 := by
  intro pins s σ H x xs v us Q I rx rs h
  obtain ⟨a, b, k, rfl, rfl, e, w⟩ := h
  obtain ⟨t, rfl⟩ := rx
  cases rs with
  | cons r1 rs =>
    cases rs
    obtain ⟨u, rfl⟩ := r1
    cases q : Builtin.Str.occurrences a b 0 a.length 1 with
    | nil => unfold Txt.index0 at e; rw [q] at e; cases e
    | cons k' rest =>
      have e2 : k' = k := by unfold Txt.index0 at e; rw [q] at e; exact Option.some.inj e
      subst e2
      exact PySem.SC.index q ⟨.int (k' : Nat), H, I.tok _, ⟨_, rfl⟩, w⟩
@[simp] def oIndexS (x y : Val) : Option Val := match x, y with
  | .im (.str a), .im (.str b) => (Txt.index0 a b).map fun k => .im (.int (k : Nat))
  | _, _ => none
theorem sp_index0 : SpM X st rIndex0 oIndexS := by
  intro H va vb xa xb y Q ha hb e q
  unfold oIndexS at e
  split at e
  · rename_i a b
    cases ek : Txt.index0 a b with
    | none => rw [ek] at e; cases e
    | some k =>
      rw [ek] at e; cases e
      obtain ⟨rfl, _⟩ := bor_str ha
      obtain ⟨rfl, _⟩ := bor_str hb
      exact ⟨_, _, k, rfl, rfl, ek, q _ H [] (Same.refl H) (.im (.int _)) List.nodup_nil (fun _ z => by cases z)⟩
  · cases e
@[simp] def eIndexS := eSm1 oIndexS
theorem fe_indexS {a b : Expr} {ma mb : ME} {ap : Pos} (ha : RE X W st a ma) (hb : RE X W st b mb)
    (hbase : attributeBase a "index" X.env (eval a X.env) = eval a X.env := by rfl)
    (hfew : ((backTo pos (starEach [b] X.env)).all (fun x => !x.1) && (backToKw pos (keywordEach [] X.env)).all (fun x => x.1.isSome)
      && decide (([b] : List Expr).length + ([] : List Keyword).length + (if ([] : List Keyword).isEmpty then 0 else 1) < 30)) = true := by rfl)
    (hline : (ap.endLine == pos.line) = true := by rfl) (hs : starEach [b] X.env = (false, eval b X.env) :: starEach [] X.env := by rfl) (hplain : (backTo pos (starEach [] X.env)).any (·.1) = false := by rfl) :
    FE X W st (.Call (.Attribute a "index" ap) [b] [] pos) (eIndexS ma mb) := fe_sm1 PySem.F.slot_str_index PySem.F.type_str_index mt_index0 sp_index0 ha hb hbase hfew hline hs hplain
end
/-! ### constants of the top: nested tuples -/
mutual
def repTB (K : PySem.W.Frag) : T → Value → Bool
  | .non, .none => true
  | .bl b, .bool c => b == c
  | .int i, .int j _ => decide (i = j)
  | .str s, .str z _ => decide (s = z) && sOk s
  | .tup ts, .ref a => match K.lookup a with
    | some ⟨cls, _, .seq its _, _⟩ => decide (cls = .type "tuple") && decide (its.size ≤ sizeLine) && repTsB K ts its.toList
    | _ => false
  | _, _ => false
def repTsB (K : PySem.W.Frag) : List T → List Value → Bool
  | [], [] => true
  | t :: ts, v :: vs => repTB K t v && repTsB K ts vs
  | _, _ => false
end
mutual
theorem repTB_ok {K : PySem.W.Frag} : ∀ {t : T} {u : Value}, repTB K t u = true → ∃ v, RelV v u ∧ ∀ H, RepT K H v t
  | .non, u, h => by
    cases u <;> simp [repTB] at h
    exact ⟨.non, rfl, fun _ => .non⟩
  | .bl b, u, h => by
    cases u <;> simp [repTB] at h
    subst h
    exact ⟨.bl b, rfl, fun _ => .bl b⟩
  | .int i, u, h => by
    cases u <;> simp [repTB] at h
    subst h
    exact ⟨.int i, ⟨_, rfl⟩, fun _ => .int i⟩
  | .str s, u, h => by
    cases u <;> simp [repTB] at h
    obtain ⟨rfl, h⟩ := h
    exact ⟨.str s, ⟨_, rfl⟩, fun _ => .str s h⟩
  | .tup ts, u, h => by
    cases u with
    | ref a =>
      unfold repTB at h
      split at h
      · rename_i cls od its n sl e
        simp only [Bool.and_eq_true, decide_eq_true_eq] at h
        obtain ⟨⟨h1, h2⟩, h3⟩ := h
        obtain ⟨vs, r1, r2⟩ := repTsB_ok h3
        exact ⟨.ref a, rfl, fun H => .tup (.inr ⟨_, its, n, e, h1, rfl, h2, r1⟩) (r2 H)⟩
      · cases h
    | _ => simp [repTB] at h
  | .ls ts, u, h => by cases u <;> simp [repTB] at h
theorem repTsB_ok {K : PySem.W.Frag} : ∀ {ts : List T} {us : List Value}, repTsB K ts us = true → ∃ vs, Vals vs us ∧ ∀ H, RepTs K H vs ts
  | [], us, h => by
    cases us <;> simp [repTsB] at h
    exact ⟨[], .nil, fun _ => .nil⟩
  | t :: ts, us, h => by
    cases us with
    | nil => simp [repTsB] at h
    | cons u us =>
      simp only [repTsB, Bool.and_eq_true] at h
      obtain ⟨v, r1, r2⟩ := repTB_ok h.1
      obtain ⟨vs, r3, r4⟩ := repTsB_ok h.2
      exact ⟨v :: vs, .cons r1 r3, fun H => .cons (r2 H) (r4 H)⟩
end
def constB (K : PySem.W.Frag) (x : Str) (t : T) : Bool := match PySem.W.nsIn K mainGlobals x with
  | some (some u) => repTB K t u
  | _ => false
theorem constB_ok {K : PySem.W.Frag} {h : Heap} {mg : Str → Option Value} {x : Str} {t : T} (X : K.In h) (G : h.Ns mainGlobals mg) (c : constB K x t = true) : ∃ u v, mg x = some u ∧ RelV v u ∧ ∀ H, RepT K H v t := by
  unfold constB at c
  split at c
  · rename_i u e
    obtain ⟨v, r1, r2⟩ := repTB_ok c
    exact ⟨u, v, PySem.W.mg_of X G e, r1, r2⟩
  · cases c
end MM

/-! MU: loops as folds, comprehensions as maps and filters; what a mirror is worth, by the kernel. -/
namespace MM
open PySem PySem.Spec PyProof.Rows L2
/-- a loop that never leaves -/
theorem turns_fold {α : Type} {g : MGt} {body : MS} {z : Zs} (R : α → List Sv → Prop) (step : α → T → α) : ∀ {ts : List T} {a : α} {S : List Sv},
    (∀ t ∈ ts, ∀ a S, R a S → ∃ S1, g t S = some S1 ∧ ∃ S2, (body S1 z = .nx S2 z ∨ body S1 z = .ct S2 z) ∧ R (step a t) S2) → R a S → ∃ S', sTurns g body ts S z = .nx S' z ∧ R (ts.foldl step a) S'
  | [], a, S, _, p => ⟨S, rfl, p⟩
  | t :: ts, a, S, h, p => by
    obtain ⟨S1, e1, S2, e2, p2⟩ := h t (by simp) a S p
    obtain ⟨S', e3, p3⟩ := turns_fold R step (ts := ts) (a := step a t) (S := S2) (fun u hu => h u (by simp [hu])) p2
    refine ⟨S', ?_, p3⟩
    rcases e2 with e2 | e2 <;> simp only [sTurns, e1, e2, e3]
/-- one that may return r -/
theorem turns_exit {α : Type} {g : MGt} {body : MS} {z : Zs} {r : Val} (R : α → List Sv → Prop) (step : α → T → Option α) : ∀ {ts : List T} {a : α} {S : List Sv},
    (∀ t ∈ ts, ∀ a S, R a S → ∃ S1, g t S = some S1 ∧ match step a t with
      | some a' => ∃ S2, (body S1 z = .nx S2 z ∨ body S1 z = .ct S2 z) ∧ R a' S2
      | none => body S1 z = .rt r z) → R a S → match ts.foldlM step a with
      | some a' => ∃ S', sTurns g body ts S z = .nx S' z ∧ R a' S'
      | none => sTurns g body ts S z = .rt r z
  | [], a, S, _, p => ⟨S, rfl, p⟩
  | t :: ts, a, S, h, p => by
    obtain ⟨S1, e1, h1⟩ := h t (by simp) a S p
    rw [List.foldlM_cons]
    cases e : step a t with
    | none =>
      rw [e] at h1
      show sTurns g body (t :: ts) S z = .rt r z
      simp only [sTurns, e1, h1]
    | some a' =>
      rw [e] at h1
      obtain ⟨S2, e2, p2⟩ := h1
      have ih := turns_exit R step (ts := ts) (a := a') (S := S2) (fun u hu => h u (by simp [hu])) p2
      show match ts.foldlM step a' with
        | some a' => _
        | none => _
      cases e3 : ts.foldlM step a' with
      | none =>
        rw [e3] at ih
        rcases e2 with e2 | e2 <;> simp only [sTurns, e1, e2, ih]
      | some a'' =>
        rw [e3] at ih
        obtain ⟨S', e4, p4⟩ := ih
        exact ⟨S', by rcases e2 with e2 | e2 <;> simp only [sTurns, e1, e2, e4], p4⟩
/-- a comprehension as a map -/
theorem lc_mapG {j : Nat} {m : ME} {S0 : List Sv} (hj : j < S0.length) (g : T → T) (z : Zs) : ∀ {ts acc : List T}, (∀ t ∈ ts, m (S0.set j (.o (.im t))) z = .ok (.im (g t)) z) → acc.length + ts.length ≤ 16777216 → lcT j tYs m S0 ts acc z = .ok (.il (acc ++ ts.map g)) z
  | [], acc, _, _ => by simp [lcT]
  | t :: ts, acc, h, hl => by
    rw [List.length_cons] at hl
    have ih := lc_mapG hj g z (ts := ts) (acc := acc ++ [g t]) (fun u hu => h u (by simp [hu])) (by rw [List.length_append, List.length_singleton]; omega)
    simp only [lcT, tYs]
    rw [if_pos hj, h t (by simp)]
    simp only [line_eq]
    rw [if_pos (by omega), ih]
    simp
/-- .. over things that stand for others -/
theorem lc_mapF {α : Type} {j : Nat} {m : ME} {S0 : List Sv} (hj : j < S0.length) (f g : α → T) (z : Zs) : ∀ {ts : List α} {acc : List T}, (∀ t ∈ ts, m (S0.set j (.o (.im (f t)))) z = .ok (.im (g t)) z) → acc.length + ts.length ≤ 16777216 → lcT j tYs m S0 (ts.map f) acc z = .ok (.il (acc ++ ts.map g)) z
  | [], acc, _, _ => by simp [lcT]
  | t :: ts, acc, h, hl => by
    rw [List.length_cons] at hl
    have ih := lc_mapF hj f g z (ts := ts) (acc := acc ++ [g t]) (fun u hu => h u (by simp [hu])) (by rw [List.length_append, List.length_singleton]; omega)
    simp only [List.map_cons, lcT, tYs]
    rw [if_pos hj, h t (by simp)]
    simp only [line_eq]
    rw [if_pos (by omega), ih]
    simp
theorem turns_foldF {α β : Type} {g : MGt} {body : MS} {z : Zs} (f : β → T) (R : α → List Sv → Prop) (step : α → β → α) : ∀ {ts : List β} {a : α} {S : List Sv},
    (∀ t ∈ ts, ∀ a S, R a S → ∃ S1, g (f t) S = some S1 ∧ ∃ S2, (body S1 z = .nx S2 z ∨ body S1 z = .ct S2 z) ∧ R (step a t) S2) → R a S → ∃ S', sTurns g body (ts.map f) S z = .nx S' z ∧ R (ts.foldl step a) S'
  | [], a, S, _, p => ⟨S, rfl, p⟩
  | t :: ts, a, S, h, p => by
    obtain ⟨S1, e1, S2, e2, p2⟩ := h t (by simp) a S p
    obtain ⟨S', e3, p3⟩ := turns_foldF f R step (ts := ts) (a := step a t) (S := S2) (fun u hu => h u (by simp [hu])) p2
    refine ⟨S', ?_, p3⟩
    rcases e2 with e2 | e2 <;> simp only [List.map_cons, sTurns, e1, e2, e3]
/-- .. with a test -/
theorem lc_filtG {j : Nat} {c : MT} {m : ME} {S0 : List Sv} (hj : j < S0.length) (p : T → Bool) (g : T → T) (z : Zs) : ∀ {ts acc : List T}, (∀ t ∈ ts, c (S0.set j (.o (.im t))) z = .ok (p t) z) → (∀ t ∈ ts, p t = true → m (S0.set j (.o (.im t))) z = .ok (.im (g t)) z) → acc.length + ts.length ≤ 16777216 →
    lcT j c m S0 ts acc z = .ok (.il (acc ++ (ts.filter p).map g)) z
  | [], acc, _, _, _ => by simp [lcT]
  | t :: ts, acc, hc, h, hl => by
    rw [List.length_cons] at hl
    simp only [lcT]
    rw [if_pos hj, hc t (by simp)]
    cases e : p t with
    | false =>
      simp only
      rw [lc_filtG hj p g z (ts := ts) (acc := acc) (fun u hu => hc u (by simp [hu])) (fun u hu => h u (by simp [hu])) (by omega), List.filter_cons_of_neg (by simp [e])]
    | true =>
      simp only [h t (by simp) e, line_eq]
      rw [if_pos (by omega), lc_filtG hj p g z (ts := ts) (acc := acc ++ [g t]) (fun u hu => hc u (by simp [hu])) (fun u hu => h u (by simp [hu])) (by rw [List.length_append, List.length_singleton]; omega), List.filter_cons_of_pos (by simp [e])]
      simp
@[simp] theorem bools_map {α : Type} (p : α → Bool) : ∀ ts : List α, bools? (ts.map fun t => .bl (p t)) = some (ts.map p)
  | [] => rfl
  | t :: ts => by
    rw [List.map_cons, List.map_cons]
    show (bools? (ts.map fun t => .bl (p t))).map (p t :: ·) = _
    rw [bools_map p ts]; rfl
@[simp] theorem depS_append : ∀ (a b : List T), depS (a ++ b) = max (depS a) (depS b)
  | [], b => by simp
  | t :: a, b => by
    rw [List.cons_append, depS_cons, depS_cons, depS_append a b]; omega
theorem eqvs_self (a : List T) : eqvs a a = true := eqvs_refl a
/-! ### results read off by the kernel -/
def okB : Rs Val → Option Bool
  | .ok (.im (.bl b)) _ => some b
  | _ => none
def okI : Rs Val → Option Int
  | .ok (.im (.int b)) _ => some b
  | _ => none
theorem okB_some {r : Rs Val} {b : Bool} (h : okB r = some b) : ∃ z, r = .ok (.im (.bl b)) z := by
  unfold okB at h
  split at h
  · cases h; exact ⟨_, rfl⟩
  · cases h
theorem okI_some {r : Rs Val} {b : Int} (h : okI r = some b) : ∃ z, r = .ok (.im (.int b)) z := by
  unfold okI at h
  split at h
  · cases h; exact ⟨_, rfl⟩
  · cases h
end MM

/-! MV: the head with facts of any kind; raise, try. -/
namespace MM
open PySem PySem.Spec PyProof.Rows L2
/-! ### the head's facts and any tests of what the top leaves -/
abbrev AlX : Type := He.AlD × List Bool
def obsX (fa : List He.Fa) (fn : List He.DefD) (xs : List (PySem.W.Frag → Bool)) (K : PySem.W.Frag) : AlX := (He.obsD fa fn K, xs.map fun f => f K)
def valX (fn : List He.DefD) (xs : List (PySem.W.Frag → Bool)) : AlX := (He.valD fn, xs.map fun _ => true)
def SaysX (fa : List He.Fa) (fn : List He.DefD) (xs : List (PySem.W.Frag → Bool)) (K : PySem.W.Frag) : Prop := obsX fa fn xs K = valX fn xs
def obsXG (n : Nat) (fa : List He.Fa) (fn : List He.DefD) (xs : List (PySem.W.Frag → Bool)) (g : Addr → Option Obj) : AlX := obsX fa fn xs (He.frG g (He.asD g n))
def hookX (n : Nat) (fa : List He.Fa) (fn : List He.DefD) (xs : List (PySem.W.Frag → Bool)) : PySem.W.Hook where
  α := AlX
  obs := fun s => obsXG n fa fn xs s.heap.get?
  val := fun _ => valX fn xs
  says := fun _ h => ∃ K : PySem.W.Frag, K.In h ∧ SaysX fa fn xs K
  of := fun _ _ e => ⟨_, He.frG_in, e⟩
  keeps := fun _ _ _ ⟨K, hK, c⟩ k => ⟨K, PySem.W.Frag.In.keeps hK k, c⟩
theorem obsXG_eq {n : Nat} {fa : List He.Fa} {fn : List He.DefD} {xs : List (PySem.W.Frag → Bool)} {g : Addr → Option Obj} {s : Shared} (h : ∀ a, g a = s.heap.get? a) : obsXG n fa fn xs g = (hookX n fa fn xs).obs s := by
  have e : g = s.heap.get? := funext h
  rw [e] <;> rfl
theorem SaysX.d {fa : List He.Fa} {fn : List He.DefD} {xs : List (PySem.W.Frag → Bool)} {K : PySem.W.Frag} (c : SaysX fa fn xs K) : He.SaysD fa fn K := congrArg (fun z : AlX => z.1) c
theorem SaysX.x {fa : List He.Fa} {fn : List He.DefD} {xs : List (PySem.W.Frag → Bool)} {K : PySem.W.Frag} (c : SaysX fa fn xs K) (i : Nat) {f : PySem.W.Frag → Bool} (h : xs[i]? = some f := by rfl) : f K = true := by
  have e : xs.map (fun f => f K) = xs.map fun _ => true := congrArg (fun z : AlX => z.2) c
  have e2 : (xs.map fun f => f K)[i]? = (xs.map fun _ => true)[i]? := by rw [e]
  rw [List.getElem?_map, List.getElem?_map, h] at e2
  exact Option.some.inj e2
/-! ### errors -/
/-- what raising the text's class x needs -/
def ExcF (K : PySem.W.Frag) (mg : Str → Option Value) (x : Str) : Prop := ∃ C, mg x = some (.ref C) ∧ PySem.W.excIn K C He.veBase "ValueError.__new__" = true ∧ PySem.W.keepIn K (.ref C) = true ∧ PySem.W.subIn K (.ref C) (.type "BaseException") = some true ∧ PySem.W.typeIn K (.ref C) = some (.type "type")
section
variable {X : Cx} {W : WX} {st : Option Addr} {pos : Pos}
@[simp] def sRaise (nm : Str) : MS := fun S z => .xc ⟨nm, none⟩ S z
theorem se_raise {x m : Str} {j : Nat} {p p2 p3 : Pos} (F : ExcF X.K X.mg x) (tk : Takes X W) (hc : X.calm = true) (hg : Gl X x) (hdb : (x == ("__debug__" : Str)) = false := by decide) : SE X W st (.Raise (some (.Call (.Name x p) [.Constant (.str m) j p2] [] p3)) none pos) (sRaise x) := by
  obtain ⟨C, gC, q, kC, b, t⟩ := F
  refine ⟨_, ps_raise hc tk (pmk_own PySem.F.excBase_ValueError q gC kC (raises_own b t) hg hdb), fun H0 B Ls S z σ H D h hq => ?_⟩
  exact hq (.ref C) none σ H h ⟨⟨C, gC, rfl⟩, rfl⟩
/-- the suite raises nothing -/
@[simp] def noX : Ro → Ro
  | .xc _ _ _ => .no
  | r => r
@[simp] def sTry (cat : List (Str × Bool)) (b : MS) (mh : Str → MS) : MS := fun S z => match b S z with
  | .xc e S z => match e.fld with
    | none => match cat.lookup e.nm with
      | some true => noX (mh e.nm S z)
      | some false => .xc e S z
      | none => .no
    | some _ => .no
  | r => r
/-- slot i -/
@[simp] def setU (i : Nat) : Ro → Ro
  | .nx S z => if i < S.length then .nx (S.set i .un) z else .no
  | .bk S z => if i < S.length then .bk (S.set i .un) z else .no
  | .ct S z => if i < S.length then .ct (S.set i .un) z else .no
  | .rt x z => .rt x z
  | .ro x S z => if i < S.length then .ro x (S.set i .un) z else .no
  | _ => .no
@[simp] def sTryAs (i : Nat) (cat : List (Str × Bool)) (b : MS) (mh : Str → MS) : MS := fun S z => match b S z with
  | .xc e S z => match e.fld with
    | none => match cat.lookup e.nm with
      | some true => if i < S.length then setU i (mh e.nm (S.set i .un) z) else .no
      | some false => .xc e S z
      | none => .no
    | some _ => .no
  | r => r
theorem Stt.unset {K : PySem.W.Frag} {H0 B H : Hp} {Ls : List (Option (V × Val))} {G : List Addr} {S : List Sv} {z : Zs} {σ : L2.St} {i : Nat} (h : Stt K st H0 B Ls G S z σ H) (hi : i < S.length) (w : Option V) : Stt K st H0 B Ls G (S.set i .un) z (σ.set i w) H := by
  obtain ⟨Gs, hs, nd, fr⟩ := h.ex
  obtain ⟨Ga, Gm, Gb, e, q⟩ := hs.set hi (y := .un) (w := w) (G2 := []) fun l => .un .nil
  subst e
  have sl : List.Sublist (G ++ (Ga ++ [] ++ Gb)) (G ++ (Ga ++ Gm ++ Gb)) := List.Sublist.append_left (by
    rw [List.append_nil]
    exact List.Sublist.append_right (List.sublist_append_left Ga Gm) Gb) G
  exact ⟨h.fr, h.zr, h.ble, h.z0, h.bst, h.gt, h.lks, _, q, nd.sublist sl, fun a ha => fr a (sl.subset ha)⟩
/-- which classes the clause takes -/
def CatOk (K : PySem.W.Frag) (mg : Str → Option Value) (c : Value) (cat : List (Str × Bool)) : Prop := ∀ nm b, cat.lookup nm = some b → ∀ D, mg nm = some (.ref D) → PySem.W.exmOne K (.ref D) c = some b
theorem cat_nil {K : PySem.W.Frag} {mg : Str → Option Value} {c : Value} : CatOk K mg c [] := fun nm b e => by cases e
theorem cat_cons {K : PySem.W.Frag} {mg : Str → Option Value} {c : Value} {x : Str} {b : Bool} {cat : List (Str × Bool)} (h : ∀ D, mg x = some (.ref D) → PySem.W.exmOne K (.ref D) c = some b) (hs : CatOk K mg c cat) : CatOk K mg c ((x, b) :: cat) := fun nm b' e D hD => by
  rw [List.lookup_cons] at e
  split at e
  · rename_i q
    cases e
    rw [beq_iff_eq] at q
    subst q
    exact h D hD
  · exact hs nm b' e D hD
section
variable {x n : Str} {c : Value} {body suite : List Stmt} {b₀ : Stmt} {np pos' : Pos} {mb : MS} {mh : Str → MS} {cat : List (Str × Bool)}
/-- the body's term, whatever the wish -/
theorem body_any (hb : ∀ (W' : WX) (pn : List (Addr × Obj)) (xe : Value → Shared → Prop), Takes (X.tr pn xe) W' → PassesOwn (model X.prog X.w) X.A X.env xe → SEs (X.tr pn xe) W' st body mb) :
    ∃ tb : WX → TS, (∀ (W' : WX) (pn : List (Addr × Obj)) (xe : Value → Shared → Prop), Takes (X.tr pn xe) W' → PassesOwn (model X.prog X.w) X.A X.env xe → PSs (X.tr pn xe) body (tb W')) ∧
      ∀ W' H0 B Ls S z σ H D, Stt X.K st H0 B Ls [] S z σ H → Cs X W' st H0 B Ls D (mb S z) → tb W' D σ H := by
  refine ⟨fun W' D σ H => ∀ pn xe (tk : Takes (X.tr pn xe) W') (ps : PassesOwn (model X.prog X.w) X.A X.env xe), Classical.choose (hb W' pn xe tk ps) D σ H, fun W' pn xe tk ps => ?_, fun W' H0 B Ls S z σ H D h hq pn xe tk ps => ?_⟩
  · exact ⟨fun pins s σ H D I hw => (Classical.choose_spec (hb W' pn xe tk ps)).1.run pins s σ H D I (hw pn xe tk ps)⟩
  · refine (Classical.choose_spec (hb W' pn xe tk ps)).2 H0 B Ls S z σ H D h ?_
    cases e : mb S z <;> rw [e] at hq <;> exact hq
theorem suite_any (hsu : ∀ (a : Addr) (oe : Obj) (C : Addr) (pn : List (Addr × Obj)) (nm : Str), Zc (.ref C) none oe → (∃ vs, oe.data = .fields vs) → X.mg nm = some (.ref C) → (cat.lookup nm).isSome = true → SEs (X.suite a ((a, oe) :: pn)) W0 st (b₀ :: suite) (mh nm)) :
    ∃ ts : Addr → Value → Option Addr → TS, (∀ (a : Addr) (oe : Obj) (cls : Value) (d : Option Addr) (pn : List (Addr × Obj)), Zc cls d oe → (∃ vs, oe.data = .fields vs) → PSs (X.suite a ((a, oe) :: pn)) (b₀ :: suite) (ts a cls d)) ∧
      ∀ a C nm H0 B Ls S z σ H D, X.mg nm = some (.ref C) → (cat.lookup nm).isSome = true → Stt X.K st H0 B Ls [] S z σ H → Cs X W0 st H0 B Ls D (mh nm S z) → ts a (.ref C) none D σ H := by
  refine ⟨fun a cls d D σ H => ∃ C nm, ∃ (e1 : cls = .ref C) (e2 : d = none) (g : X.mg nm = some (.ref C)) (l : (cat.lookup nm).isSome = true), ∀ oe pn (hz : Zc (.ref C) none oe) (hf : ∃ vs, oe.data = .fields vs), Classical.choose (hsu a oe C pn nm hz hf g l) D σ H, fun a oe cls d pn hz hf => ?_, fun a C nm H0 B Ls S z σ H D g l h hq => ?_⟩
  · refine ⟨fun pins s σ H D I hw => ?_⟩
    obtain ⟨C, nm, e1, e2, g, l, hw⟩ := hw
    subst e1 e2
    exact (Classical.choose_spec (hsu a oe C pn nm hz hf g l)).1.run pins s σ H D I (hw oe pn hz hf)
  · refine ⟨C, nm, rfl, rfl, g, l, fun oe pn hz hf => ?_⟩
    refine (Classical.choose_spec (hsu a oe C pn nm hz hf g l)).2 H0 B Ls S z σ H D h ?_
    cases e : mh nm S z <;> rw [e] at hq <;> exact hq
theorem se_try (hs : X.stack = X.env :: X.outer) (hf : X.env.frame = some X.env.locals) (hc : Names X x c) (tk : Takes X W) (hcat : CatOk X.K X.mg c cat)
    (hb : ∀ (W' : WX) (pn : List (Addr × Obj)) (xe : Value → Shared → Prop), Takes (X.tr pn xe) W' → PassesOwn (model X.prog X.w) X.A X.env xe → SEs (X.tr pn xe) W' st body mb)
    (hsu : ∀ (a : Addr) (oe : Obj) (C : Addr) (pn : List (Addr × Obj)) (nm : Str), Zc (.ref C) none oe → (∃ vs, oe.data = .fields vs) → X.mg nm = some (.ref C) → (cat.lookup nm).isSome = true → SEs (X.suite a ((a, oe) :: pn)) W0 st (b₀ :: suite) (mh nm)) :
    SE X W st (.Try body [.ExceptHandler (some (.Name x np)) none (b₀ :: suite) pos'] [] [] pos) (sTry cat mb mh) := by
  obtain ⟨tb, pb, fb⟩ := body_any hb
  obtain ⟨ts, psu, fsu⟩ := suite_any hsu
  refine ⟨_, ps_try_only hs hf hc tk (fun W' pn xe tk ps => pb W' pn xe tk ps) psu, fun H0 B Ls S z σ H D h hq => ?_⟩
  refine fb _ H0 B Ls S z σ H D h ?_
  unfold sTry at hq
  cases e : mb S z with
  | xc c' S1 z1 =>
    rw [e] at hq
    intro cv d σ1 H1 h1 xr
    obtain ⟨nm, fld⟩ := c'
    cases fld with
    | some _ => exact hq.elim
    | none =>
      dsimp only at hq
      obtain ⟨⟨C, g, rfl⟩, hd⟩ := id xr
      dsimp only at g hd
      subst hd
      cases el : cat.lookup nm with
      | none => rw [el] at hq; exact hq.elim
      | some b =>
        rw [el] at hq
        refine ⟨b, hcat nm b el C g, fun eb a _ => ?_, fun eb => ?_⟩
        · subst eb
          refine fsu a C nm H0 B Ls S1 z1 σ1 H1 D g (by rw [el]; rfl) h1 ?_
          cases e2 : mh nm S1 z1 with
          | xc c2 S2 z2 => dsimp only at hq; rw [e2] at hq; exact hq.elim
          | nx S2 z2 => dsimp only at hq; rw [e2] at hq; exact hq
          | bk S2 z2 => dsimp only at hq; rw [e2] at hq; exact hq
          | ct S2 z2 => dsimp only at hq; rw [e2] at hq; exact hq
          | rt x2 z2 => dsimp only at hq; rw [e2] at hq; exact hq
          | ro x2 S2 z2 => dsimp only at hq; rw [e2] at hq; exact hq
          | no => dsimp only at hq; rw [e2] at hq; exact hq.elim
        · subst eb
          exact hq _ _ σ1 H1 h1 xr
  | nx S1 z1 => rw [e] at hq; exact hq
  | rt x z1 => rw [e] at hq; exact hq
  | ro x S1 z1 => rw [e] at hq; exact hq
  | bk S1 z1 => rw [e] at hq; exact hq
  | ct S1 z1 => rw [e] at hq; exact hq
  | no => rw [e] at hq; exact hq
end
end
/-! ### a suite that asks isinstance of its error first -/
/-- slot i holds the error at a -/
def RTx (a : Addr) (i : Nat) (X : Cx) (W : WX) (st : Option Addr) (e : Expr) (m : MT) : Prop := ∃ t, PT X e t ∧ ∀ H0 B Ls G S z σ H Q, Stt X.K st H0 B Ls G S z σ H → σ[i]? = some (some (.ref a)) →
  Ct X W st σ H (m S z) (fun x z' H' => Q x H') → t σ H Q
def RWx (a : Addr) (i : Nat) (X : Cx) (W : WX) (st : Option Addr) (e : Expr) (m : MT) : Prop := ∃ t, PW X e t ∧ ∀ H0 B Ls G S z σ H Q, Stt X.K st H0 B Ls G S z σ H → σ[i]? = some (some (.ref a)) →
  Ct X W st σ H (m S z) (fun x z' H' => Q x H') → t σ H Q
section
variable {X : Cx} {W : WX} {st : Option Addr} {pos : Pos} {ax : Addr} {ix : Nat}
theorem rtx_of {e : Expr} {m : MT} (h : RT X W st e m) : RTx ax ix X W st e m := let ⟨t, p, f⟩ := h; ⟨t, p, fun H0 B Ls G S z σ H Q s _ q => f H0 B Ls G S z σ H Q s q⟩
theorem rtx_rw {e : Expr} {m : MT} (h : RWx ax ix X W st e m) : RTx ax ix X W st e m := let ⟨t, p, f⟩ := h; ⟨t, p.pt, f⟩
theorem rtx_not {e : Expr} {m : MT} (he : RTx ax ix X W st e m) : RTx ax ix X W st (.UnaryOp .Not e pos) (tNt m) := by
  obtain ⟨t, p, f⟩ := he
  refine ⟨tNot t, pt_not p, fun H0 B Ls G S z σ H Q h hx hq => ?_⟩
  exact f H0 B Ls G S z σ H _ h hx (hq.bind fun b z1 H1 _ x1 hz1 hq1 => Ct.ok (k := fun x z' H' => Q x H') hq1 hz1)
variable {a b : Expr} {ma mb : MT} {rest : List Expr}
theorem rwx_and1 (ha : RTx ax ix X W st a ma) : RWx ax ix X W st (.BoolOp .And [a] pos) ma := let ⟨t, p, f⟩ := ha; ⟨t, pw_and1 p, f⟩
theorem rwx_or1 (ha : RTx ax ix X W st a ma) : RWx ax ix X W st (.BoolOp .Or [a] pos) ma := let ⟨t, p, f⟩ := ha; ⟨t, pw_or1 p, f⟩
theorem rwx_and (ha : RTx ax ix X W st a ma) (hb : RWx ax ix X W st (.BoolOp .And (b :: rest) pos) mb) : RWx ax ix X W st (.BoolOp .And (a :: b :: rest) pos) (tAn ma mb) := by
  obtain ⟨t, p, f⟩ := ha
  obtain ⟨u, q, g⟩ := hb
  refine ⟨tAnd t u, pw_and p q, fun H0 B Ls G S z σ H Q h hx hq => ?_⟩
  refine f H0 B Ls G S z σ H _ h hx (hq.bind fun c z1 H1 _ x1 hz1 hq1 => ?_)
  cases c with
  | true => exact iteT (g H0 B Ls G S z1 σ H1 Q (h.grow x1 hz1) hx hq1)
  | false => exact iteF (Ct.ok (k := fun x z' H' => Q x H') hq1 hz1)
theorem rwx_or (ha : RTx ax ix X W st a ma) (hb : RWx ax ix X W st (.BoolOp .Or (b :: rest) pos) mb) : RWx ax ix X W st (.BoolOp .Or (a :: b :: rest) pos) (tOr' ma mb) := by
  obtain ⟨t, p, f⟩ := ha
  obtain ⟨u, q, g⟩ := hb
  refine ⟨tOr t u, pw_or p q, fun H0 B Ls G S z σ H Q h hx hq => ?_⟩
  refine f H0 B Ls G S z σ H _ h hx (hq.bind fun c z1 H1 _ x1 hz1 hq1 => ?_)
  cases c with
  | false => exact iteF (g H0 B Ls G S z1 σ H1 Q (h.grow x1 hz1) hx hq1)
  | true => exact iteT (Ct.ok (k := fun x z' H' => Q x H') hq1 hz1)
end
/-- the answer is told -/
@[simp] def tIs (k : Bool) : MT := fun _ z => .ok k z
/-- a class as a value: its V, its Value -/
structure ClsE (X : Cx) (e : Expr) (cv : Value) : Prop where
  ex : ∃ c : V, PE X e (tC c) ∧ ∀ u, RelV c u → u = cv
theorem clsE_own {X : Cx} {y : Str} {q : Pos} {C : Addr} (hg : Gl X y) (hm : X.mg y = some (.ref C)) (hd : (y == ("__debug__" : Str)) = false := by decide) : ClsE X (.Name y q) (.ref C) := ⟨.ref C, pe_glob hg hm rfl hd, fun u r => r⟩
theorem clsE_ty {X : Cx} {y : Str} {q : Pos} {nm : String} (hg : Gl X y) (hm : X.mg y = none) (hv : bootBuiltins y = some (.type nm)) (hn : y ≠ "__name__" := by decide) (hd : (y == ("__debug__" : Str)) = false := by decide) : ClsE X (.Name y q) (.type nm) := ⟨.ty nm, pe_bltn hg hm hv rfl hn hd, fun u r => r⟩
def KitOk (K : PySem.W.Frag) (mg : Str → Option Value) (cv : Value) (lst : List (Str × Bool)) : Prop := ∀ nm b, lst.lookup nm = some b → ∀ D, mg nm = some (.ref D) → ExcC K D ∧ PySem.W.kitOne K (.ref D) cv = some b
theorem kit_nil {K : PySem.W.Frag} {mg : Str → Option Value} {c : Value} : KitOk K mg c [] := fun nm b e => by cases e
theorem kit_cons {K : PySem.W.Frag} {mg : Str → Option Value} {c : Value} {x : Str} {b : Bool} {cat : List (Str × Bool)} (h : ∀ D, mg x = some (.ref D) → ExcC K D ∧ PySem.W.kitOne K (.ref D) c = some b) (hs : KitOk K mg c cat) : KitOk K mg c ((x, b) :: cat) := fun nm b' e D hD => by
  rw [List.lookup_cons] at e
  split at e
  · rename_i q
    cases e
    rw [beq_iff_eq] at q
    subst q
    exact h D hD
  · exact hs nm b' e D hD
theorem lookup_some {nm : Str} : ∀ {cat lst : List (Str × Bool)}, cat.map (·.1) = lst.map (·.1) → (cat.lookup nm).isSome = true → ∃ b, lst.lookup nm = some b
  | [], _, _, h => by cases h
  | (x, b) :: cat, [], e, _ => by cases e
  | (x, b) :: cat, (y, d) :: lst, e, h => by
    simp only [List.map_cons, List.cons.injEq] at e
    obtain ⟨e1, e2⟩ := e
    subst e1
    rw [List.lookup_cons] at h ⊢
    split at h
    · exact ⟨d, rfl⟩
    · exact lookup_some e2 h
section
variable {X : Cx} {W : WX} {st : Option Addr} {pos : Pos}
theorem rtx_isE {cat lst : List (Str × Bool)} {ax : Addr} {oe : Obj} {C : Addr} {pn : List (Addr × Obj)} {nm : Str} (i : Nat) {n : Str} {np p : Pos} {ce : Expr} {cv : Value} (hz : Zc (.ref C) none oe) (hf : ∃ vs, oe.data = .fields vs) (hC : X.mg nm = some (.ref C)) (hnm : (cat.lookup nm).isSome = true)
    (hc : ClsE (X.suite ax ((ax, oe) :: pn)) ce cv) (hk : KitOk X.K X.mg cv lst) (hg : Gl X "isinstance") (hm : X.mg "isinstance" = none) (hkeys : cat.map (·.1) = lst.map (·.1) := by rfl)
    (hN : X.N[i]? = some n := by rfl) (hv : Vis X.env.scope n := by first | exact Or.inl rfl | exact Or.inr (Or.inl rfl) | exact Or.inr (Or.inr rfl)) (hd : (n == ("__debug__" : Str)) = false := by decide) (hcd : (n == ("__classdict__" : Str)) = false := by decide)
    (he : starEach [.Name n np, ce] X.env = (false, eval (.Name n np) X.env) :: starEach [ce] X.env := by rfl) (hpl : (backTo pos (starEach [ce] X.env)).any (·.1) = false := by rfl) (he2 : starEach [ce] X.env = (false, eval ce X.env) :: starEach [] X.env := by rfl)
    (hw : ∀ whole, isTrue (.Call (.Name "isinstance" p) [.Name n np, ce] [] pos) X.env whole = (do let v ← whole; standAt pos; holding [v] (truthy v)) := by intro _; rfl) :
    RTx ax i (X.suite ax ((ax, oe) :: pn)) W st (.Call (.Name "isinstance" p) [.Name n np, ce] [] pos) (tIs ((lst.lookup nm).getD false)) := by
  obtain ⟨c, pc, uc⟩ := hc.ex
  obtain ⟨b, eb⟩ := lookup_some hkeys hnm
  obtain ⟨xc, kc⟩ := hk nm b eb C hC
  refine ⟨_, pt_val (pe_callB (call_isE xc hz hf) hg hm (by decide +kernel) (pa_cons (pe_var (i := i) hN hv hd hcd) (pa_cons pc pa_nil he2) he) (he := he) (hpl := hpl)) hw, fun H0 B Ls G S z σ H Q h hx hq => ?_⟩
  rw [eb] at hq
  refine ⟨.ref ax, hx, c, cv, b, rfl, uc, kc, b, rfl, ?_⟩
  exact Ct.ok (k := fun x z' H' => Q x H') hq h.zr
def SEx (a : Addr) (i : Nat) (X : Cx) (W : WX) (st : Option Addr) (s : Stmt) (m : MS) : Prop := ∃ t, PS X s t ∧ ∀ H0 B Ls S z σ H D, Stt X.K st H0 B Ls [] S z σ H → σ[i]? = some (some (.ref a)) → Cs X W st H0 B Ls D (m S z) → t D σ H
def SEsx (a : Addr) (i : Nat) (X : Cx) (W : WX) (st : Option Addr) (s : List Stmt) (m : MS) : Prop := ∃ t, PSs X s t ∧ ∀ H0 B Ls S z σ H D, Stt X.K st H0 B Ls [] S z σ H → σ[i]? = some (some (.ref a)) → Cs X W st H0 B Ls D (m S z) → t D σ H
section
variable {ax : Addr} {ix : Nat}
theorem sex_of {s : Stmt} {m : MS} (h : SE X W st s m) : SEx ax ix X W st s m := let ⟨t, p, f⟩ := h; ⟨t, p, fun H0 B Ls S z σ H D s _ q => f H0 B Ls S z σ H D s q⟩
theorem sex_if {c : Expr} {a b : List Stmt} {mc : MT} {ma mb : MS} (hc : RTx ax ix X W st c mc) (ha : SEs X W st a ma) (hb : SEs X W st b mb) : SEx ax ix X W st (.If c a b pos) (sIf mc ma mb) := by
  obtain ⟨tc, pc, fc⟩ := hc
  obtain ⟨ta, pa, fa⟩ := ha
  obtain ⟨tb, pb, fb⟩ := hb
  refine ⟨tIfS tc ta tb, ps_if pc pa pb, fun H0 B Ls S z σ H D h hx hq => ?_⟩
  refine fc H0 B Ls [] S z σ H _ h hx (Cs.go h hq fun k z1 H1 _ x1 hz1 hq1 => ?_)
  cases k with
  | true => exact iteT (fa H0 B Ls S z1 σ H1 D (h.grow x1 hz1) hq1)
  | false => exact iteF (fb H0 B Ls S z1 σ H1 D (h.grow x1 hz1) hq1)
theorem ssx_one {s : Stmt} {m : MS} (h : SEx ax ix X W st s m) : SEsx ax ix X W st [s] m := let ⟨t, p, f⟩ := h; ⟨t, pss_one p, f⟩
theorem ssx_cons {s : Stmt} {r : List Stmt} {a b : MS} (h : SEx ax ix X W st s a) (hr : SEs X W st r b) : SEsx ax ix X W st (s :: r) (sSeq a b) := by
  obtain ⟨t, p, f⟩ := h
  obtain ⟨u, q, g⟩ := hr
  refine ⟨tSeq t u, pss_cons p q, fun H0 B Ls S z σ H D h hx hq => ?_⟩
  refine f H0 B Ls S z σ H { D with nx := u D } h hx ?_
  unfold sSeq at hq
  cases e : a S z with
  | nx S1 z1 => rw [e] at hq; exact fun σ1 H1 h1 => g H0 B Ls S1 z1 σ1 H1 D h1 hq
  | rt x z1 => rw [e] at hq; exact hq
  | ro x S1 z1 => rw [e] at hq; exact hq
  | bk S1 z1 => rw [e] at hq; exact hq
  | ct S1 z1 => rw [e] at hq; exact hq
  | xc c S1 z1 => rw [e] at hq; exact hq
  | no => rw [e] at hq; exact hq
end
section
variable {x n : Str} {c : Value} {body suite : List Stmt} {b₀ : Stmt} {np pos' : Pos} {mb : MS} {mh : Str → MS} {cat : List (Str × Bool)} {i : Nat}
theorem suite_anyx (hsu : ∀ (a : Addr) (oe : Obj) (C : Addr) (pn : List (Addr × Obj)) (nm : Str), Zc (.ref C) none oe → (∃ vs, oe.data = .fields vs) → X.mg nm = some (.ref C) → (cat.lookup nm).isSome = true → SEsx a i (X.suite a ((a, oe) :: pn)) W0 st (b₀ :: suite) (mh nm)) :
    ∃ ts : Addr → Value → Option Addr → TS, (∀ (a : Addr) (oe : Obj) (cls : Value) (d : Option Addr) (pn : List (Addr × Obj)), Zc cls d oe → (∃ vs, oe.data = .fields vs) → PSs (X.suite a ((a, oe) :: pn)) (b₀ :: suite) (ts a cls d)) ∧
      ∀ a C nm H0 B Ls S z σ H D, X.mg nm = some (.ref C) → (cat.lookup nm).isSome = true → Stt X.K st H0 B Ls [] S z σ H → σ[i]? = some (some (.ref a)) → Cs X W0 st H0 B Ls D (mh nm S z) → ts a (.ref C) none D σ H := by
  refine ⟨fun a cls d D σ H => ∃ C nm, ∃ (e1 : cls = .ref C) (e2 : d = none) (g : X.mg nm = some (.ref C)) (l : (cat.lookup nm).isSome = true), ∀ oe pn (hz : Zc (.ref C) none oe) (hf : ∃ vs, oe.data = .fields vs), Classical.choose (hsu a oe C pn nm hz hf g l) D σ H, fun a oe cls d pn hz hf => ?_, fun a C nm H0 B Ls S z σ H D g l h hx hq => ?_⟩
  · refine ⟨fun pins s σ H D I hw => ?_⟩
    obtain ⟨C, nm, e1, e2, g, l, hw⟩ := hw
    subst e1 e2
    exact (Classical.choose_spec (hsu a oe C pn nm hz hf g l)).1.run pins s σ H D I (hw oe pn hz hf)
  · refine ⟨C, nm, rfl, rfl, g, l, fun oe pn hz hf => ?_⟩
    refine (Classical.choose_spec (hsu a oe C pn nm hz hf g l)).2 H0 B Ls S z σ H D h hx ?_
    cases e : mh nm S z <;> rw [e] at hq <;> exact hq
theorem se_tryAs (hs : X.stack = X.env :: X.outer) (hf : X.env.frame = some X.env.locals) (hN : X.N.Nodup) (hi : X.N[i]? = some n) (hln : X.env.kindOf n = some .local) (hc : Names X x c) (tk : Takes X W) (hcat : CatOk X.K X.mg c cat)
    (hb : ∀ (W' : WX) (pn : List (Addr × Obj)) (xe : Value → Shared → Prop), Takes (X.tr pn xe) W' → PassesOwn (model X.prog X.w) X.A X.env xe → SEs (X.tr pn xe) W' st body mb)
    (hsu : ∀ (a : Addr) (oe : Obj) (C : Addr) (pn : List (Addr × Obj)) (nm : Str), Zc (.ref C) none oe → (∃ vs, oe.data = .fields vs) → X.mg nm = some (.ref C) → (cat.lookup nm).isSome = true → SEsx a i (X.suite a ((a, oe) :: pn)) W0 st (b₀ :: suite) (mh nm)) :
    SE X W st (.Try body [.ExceptHandler (some (.Name x np)) (some n) (b₀ :: suite) pos'] [] [] pos) (sTryAs i cat mb mh) := by
  obtain ⟨tb, pb, fb⟩ := body_any hb
  obtain ⟨ts, psu, fsu⟩ := suite_anyx hsu
  refine ⟨_, ps_try_as hs hf hN hi hln hc tk (fun W' pn xe tk ps => pb W' pn xe tk ps) psu, fun H0 B Ls S z σ H D h hq => ?_⟩
  refine fb _ H0 B Ls S z σ H D h ?_
  unfold sTryAs at hq
  cases e : mb S z with
  | xc c' S1 z1 =>
    rw [e] at hq
    intro cv d σ1 H1 h1 xr
    obtain ⟨nm, fld⟩ := c'
    cases fld with
    | some _ => exact hq.elim
    | none =>
      dsimp only at hq
      obtain ⟨⟨C, g, rfl⟩, hd⟩ := id xr
      dsimp only at g hd
      subst hd
      cases el : cat.lookup nm with
      | none => rw [el] at hq; exact hq.elim
      | some b =>
        rw [el] at hq
        refine ⟨b, hcat nm b el C g, fun eb a _ => ?_, fun eb => ?_⟩
        · subst eb
          dsimp only at hq
          split at hq
          · rename_i hl
            have hl2 : i < σ1.length := by
              obtain ⟨Gs, hs, _⟩ := h1.ex
              rw [hs.length]; exact hl
            have un : ∀ {S2 : List Sv} {z2 : Zs} {σ2 : L2.St} {H2 : Hp}, i < S2.length → Stt X.K st H0 B Ls [] S2 z2 σ2 H2 → Stt X.K st H0 B Ls [] (S2.set i .un) z2 (σ2.set i none) H2 := fun hl h => h.unset hl none
            refine fsu a C nm H0 B Ls (S1.set i .un) z1 (σ1.set i (some (.ref a))) H1 _ g (by rw [el]; rfl) (h1.unset hl _) (by rw [List.getElem?_set_self hl2]) ?_
            cases e2 : mh nm (S1.set i .un) z1 with
            | xc c2 S2 z2 => rw [e2] at hq; exact hq.elim
            | no => rw [e2] at hq; exact hq.elim
            | rt x2 z2 => rw [e2] at hq; exact hq
            | ro x2 S2 z2 =>
              rw [e2] at hq
              simp only [setU] at hq
              split at hq
              · rename_i hl3; exact fun v σ2 H2 G2 h2 ow => hq v _ H2 G2 (h2.unset hl3 none) ow
              · exact hq.elim
            | nx S2 z2 =>
              rw [e2] at hq
              simp only [setU] at hq
              split at hq
              · rename_i hl3; exact fun σ2 H2 h2 => hq _ H2 (un hl3 h2)
              · exact hq.elim
            | bk S2 z2 =>
              rw [e2] at hq
              simp only [setU] at hq
              split at hq
              · rename_i hl3; exact fun σ2 H2 h2 => hq _ H2 (un hl3 h2)
              · exact hq.elim
            | ct S2 z2 =>
              rw [e2] at hq
              simp only [setU] at hq
              split at hq
              · rename_i hl3; exact fun σ2 H2 h2 => hq _ H2 (un hl3 h2)
              · exact hq.elim
          · exact hq.elim
        · subst eb
          exact hq _ _ σ1 H1 h1 xr
  | nx S1 z1 => rw [e] at hq; exact hq
  | rt x z1 => rw [e] at hq; exact hq
  | ro x S1 z1 => rw [e] at hq; exact hq
  | bk S1 z1 => rw [e] at hq; exact hq
  | ct S1 z1 => rw [e] at hq; exact hq
  | no => rw [e] at hq; exact hq
end
end
end MM
namespace MM
open PySem PySem.Spec PyProof.Rows L2
/-! ### facts of error classes as tests -/
def excCB (K : PySem.W.Frag) (D : Addr) : Bool := He.eqO (PySem.W.findIn K (.ref D) "__getattribute__") (some (some (.builtin "BaseException.__getattribute__"))) && (He.eqO (PySem.W.findIn K (.ref D) "__getattr__") (some none) && (decide (PySem.W.subIn K (.ref D) (.type "BaseException") = some true) && (PySem.W.hasDictIn K D &&
  (He.eqO (PySem.W.findIn K (.ref D) "__class__") (some (some (.builtin "object.__class__"))) && (He.eqO (PySem.W.specialIn K (.builtin "object.__class__") "__get__") (some (some (.builtin "getset_descriptor.__get__"))) && (decide (PySem.W.takesIn K (.builtin "object.__class__") = some true) && decide (PySem.W.mroIn K D (.type "object") = some true)))))))
theorem excCB_ok {K : PySem.W.Frag} {D : Addr} (h : excCB K D = true) : ExcC K D := by
  unfold excCB at h
  simp only [Bool.and_eq_true, decide_eq_true_eq] at h
  obtain ⟨h1, h2, h3, h4, h5, h6, h7, h8⟩ := h
  exact ⟨He.eqO_ok h1, He.eqO_ok h2, h3, h4, He.eqO_ok h5, He.eqO_ok h6, h7, h8⟩
def kitOB (K : PySem.W.Frag) (D : Addr) (c : Value) (b : Bool) : Bool := decide (PySem.W.kitOne K (.ref D) c = some b)
theorem kitOB_ok {K : PySem.W.Frag} {D : Addr} {c : Value} {b : Bool} (h : kitOB K D c b = true) : PySem.W.kitOne K (.ref D) c = some b := of_decide_eq_true h
end MM
namespace MM
open PySem PySem.Spec PyProof.Rows L2
/-! ### nothing is said -/
def sNo : MS := fun _ _ => .no
theorem sss_no {X : Cx} {W : WX} {st : Option Addr} {s : List Stmt} : SEs X W st s sNo := ⟨fun _ _ _ => False, ⟨fun _ _ _ _ _ _ h => h.elim⟩, fun H0 B Ls S z σ H D h hq => hq⟩
end MM

/-! MW: dicts walked: for, comprehensions, list(d). -/
namespace MM
open PySem PySem.Spec PyProof.Rows L2
/-! ### a dict that is kept as it is for a while -/
open Classical in
/-- F with u at d frozen, where it stands there -/
noncomputable def fzd (d : Addr) (od : Obj) (u : HO) (F : Hp) : Hp := fun a => if a = d ∧ F d = some u then some (.frz od u) else F a
def isDk (u : HO) : Prop := (∃ xs, u = .dK xs) ∨ ∃ xs, u = .dT xs
section
variable {d : Addr} {od : Obj} {u : HO} {F : Hp}
theorem fzd_ne {a : Addr} (h : a ≠ d) : fzd d od u F a = F a := by unfold fzd; rw [if_neg fun c => h c.1]
theorem fzd_at (h : F d = some u) : fzd d od u F d = some (.frz od u) := by unfold fzd; rw [if_pos ⟨rfl, h⟩]
theorem fzd_off (h : F d ≠ some u) : fzd d od u F = F := by funext a; unfold fzd; rw [if_neg fun c => h c.2]
theorem fzd_none {a : Addr} (h : F a = none) : fzd d od u F a = none := by
  by_cases e : F d = some u
  · rw [fzd_ne fun c => by rw [c, e] at h; cases h]; exact h
  · rw [fzd_off e]; exact h
theorem fzd_none' {a : Addr} (h : fzd d od u F a = none) : F a = none := by
  by_cases e : F d = some u
  · by_cases c : a = d
    · rw [c, fzd_at e] at h; cases h
    · rwa [fzd_ne c] at h
  · rwa [fzd_off e] at h
/-- what is no dict is as it was -/
theorem fzd_same (k : isDk u) {a : Addr} {o : HO} (ho : ¬ isDk o) (h : F a = some o) : fzd d od u F a = some o := by
  by_cases e : F d = some u
  · rw [fzd_ne fun c => by
      rw [c, e] at h
      cases h
      exact ho k]
    exact h
  · rw [fzd_off e]; exact h
theorem fzd_same' {a : Addr} {o : HO} (ho : ∀ od u, o ≠ .frz od u ∨ ¬ isDk u) (k : isDk u) (h : fzd d od u F a = some o) : F a = some o := by
  by_cases e : F d = some u
  · by_cases c : a = d
    · rw [c, fzd_at e] at h
      cases h
      rcases ho od u with q | q
      · exact absurd rfl q
      · exact absurd k q
    · rwa [fzd_ne c] at h
  · rwa [fzd_off e] at h
theorem notDk_tup (xs : List V) : ¬ isDk (.tup xs) := by rintro (⟨_, h⟩ | ⟨_, h⟩) <;> cases h
theorem notDk_ins (C dx : Addr) (xs : List (Str × V)) : ¬ isDk (.ins C dx xs) := by rintro (⟨_, h⟩ | ⟨_, h⟩) <;> cases h
theorem notDk_lst (xs : List V) : ¬ isDk (.lst xs) := by rintro (⟨_, h⟩ | ⟨_, h⟩) <;> cases h
theorem notDk_frz (o : Obj) (w : HO) : ¬ isDk (.frz o w) := by rintro (⟨_, h⟩ | ⟨_, h⟩) <;> cases h
theorem fzd_le (k : isDk u) : Le F (fzd d od u F) := ⟨fun a xs h => fzd_same k (notDk_tup xs) h, fun a o xs h => fzd_same k (notDk_frz _ _) h, fun a o xs h => fzd_same k (notDk_frz _ _) h⟩
theorem frz_tup (o : Obj) (xs : List V) (k : isDk u) : ∀ od' u', HO.frz o (.tup xs) ≠ .frz od' u' ∨ ¬ isDk u' := fun od' u' => by
  by_cases q : HO.frz o (.tup xs) = .frz od' u'
  · cases q; exact .inr (notDk_tup xs)
  · exact .inl q
theorem frz_lst (o : Obj) (xs : List V) (k : isDk u) : ∀ od' u', HO.frz o (.lst xs) ≠ .frz od' u' ∨ ¬ isDk u' := fun od' u' => by
  by_cases q : HO.frz o (.lst xs) = .frz od' u'
  · cases q; exact .inr (notDk_lst xs)
  · exact .inl q
theorem fzd_le' (k : isDk u) : Le (fzd d od u F) F :=
  ⟨fun a xs h => fzd_same' (fun _ _ => .inl fun q => by cases q) k h, fun a o xs h => fzd_same' (frz_tup o xs k) k h, fun a o xs h => fzd_same' (frz_lst o xs k) k h⟩
theorem fzd_rd {a : Addr} {w : HO} (k : isDk u) (kw : isDk w) (h : Rd F a w) : Rd (fzd d od u F) a w := by
  by_cases e : F d = some u
  · by_cases c : a = d
    · subst c
      rcases h with h | ⟨o, h⟩
      · rw [e] at h; cases h
        exact .inr ⟨od, fzd_at e⟩
      · rw [e] at h; cases h
        exact absurd k (notDk_frz _ _)
    · rcases h with h | ⟨o, h⟩
      · exact .inl (by rw [fzd_ne c]; exact h)
      · exact .inr ⟨o, by rw [fzd_ne c]; exact h⟩
  · rw [fzd_off e]; exact h
theorem fzd_rd' {a : Addr} {w : HO} (kw : isDk w) (h : Rd (fzd d od u F) a w) : Rd F a w := by
  by_cases e : F d = some u
  · by_cases c : a = d
    · subst c
      rcases h with h | ⟨o, h⟩
      · rw [fzd_at e] at h; cases h
        exact absurd kw (notDk_frz _ _)
      · rw [fzd_at e] at h; cases h
        exact .inl e
    · rcases h with h | ⟨o, h⟩
      · exact .inl (by rw [fzd_ne c] at h; exact h)
      · exact .inr ⟨o, by rw [fzd_ne c] at h; exact h⟩
  · rw [fzd_off e] at h; exact h
end
theorem Bor.via {K : PySem.W.Frag} {F F' : Hp} (le : Le F F') (ls : ∀ a xs, F a = some (.lst xs) → F' a = some (.lst xs)) (is : ∀ a C dx xs, F a = some (.ins C dx xs) → F' a = some (.ins C dx xs)) (rd : ∀ a w, isDk w → Rd F a w → Rd F' a w) {v : V} {x : Val} (h : Bor K F v x) : Bor K F' v x := by
  induction h with
  | im h => exact .im (h.mono le)
  | il h g => exact .il (ls _ _ h) (g.mono le)
  | dk h g => exact .dk (rd _ _ (.inl ⟨_, rfl⟩) h) (g.mono le)
  | dt h g => exact .dt (rd _ _ (.inr ⟨_, rfl⟩) h) (g.mono le)
  | tup h hl g ih => exact .tup (le.sqt h) hl ih
  | lst h hl g ih => exact .lst (ls _ _ h) hl ih
  | ob h hk hl g ih => exact .ob (is _ _ _ _ h) hk hl ih
  | dv h hk g ih => exact .dv (rd _ _ (.inl ⟨_, rfl⟩) h) hk ih
  | dw h hk g ih => exact .dw (rd _ _ (.inr ⟨_, rfl⟩) h) hk ih
  | any => exact .any
section
variable {K : PySem.W.Frag} {st : Option Addr} {d : Addr} {od : Obj} {u : HO}
theorem Bor.fzd {F : Hp} (k : isDk u) {v : V} {x : Val} (h : Bor K F v x) : Bor K (MM.fzd d od u F) v x := h.via (fzd_le k) (fun a xs e => fzd_same k (notDk_lst xs) e) (fun a C dx xs e => fzd_same k (notDk_ins C dx xs) e) fun a w kw r => fzd_rd k kw r
theorem Bor.unfzd {F : Hp} (k : isDk u) {v : V} {x : Val} (h : Bor K (MM.fzd d od u F) v x) : Bor K F v x := h.via (fzd_le' k) (fun a xs e => fzd_same' (fun _ _ => .inl fun q => by cases q) k e) (fun a C dx xs e => fzd_same' (fun _ _ => .inl fun q => by cases q) k e) fun a w kw r => fzd_rd' kw r
theorem hid_fzd {F : Hp} (n : st ≠ some d) : hid st (fzd d od u F) = fzd d od u (hid st F) := by
  have e : hid st F d = F d := by unfold hid; rw [if_neg n]
  funext a
  by_cases c : st = some a
  · have h1 : hid st (MM.fzd d od u F) a = none := by unfold hid; rw [if_pos c]
    have h2 : hid st F a = none := by unfold hid; rw [if_pos c]
    rw [h1, fzd_none h2]
  · have h1 : hid st (MM.fzd d od u F) a = MM.fzd d od u F a := by unfold hid; rw [if_neg c]
    have h2 : hid st F a = F a := by unfold hid; rw [if_neg c]
    rw [h1]
    unfold MM.fzd
    rw [e, h2]
theorem SlS.via {B B' H H' : Hp} {Ls : List (Option (V × Val))} {σ : L2.St} {S : List Sv} {Gs : List Addr} (hb : ∀ v x, Bor K B v x → Bor K B' v x) (le : Le H H') (h : SlS K st B H Ls σ S Gs) (k : ∀ a ∈ Gs, ∀ o, H a = some o → H' a = some o) : SlS K st B' H' Ls σ S Gs := by
  induction h with
  | nil => exact .nil
  | un h ih => exact .un (ih k)
  | b h g ih => exact .b (hb _ _ h) (ih k)
  | o h g ih => exact .o (h.mono le fun a ha => k a (List.mem_append_left _ ha)) (ih fun a ha => k a (List.mem_append_right _ ha))
  | s h g ih => exact .s h (ih k)
  | lk g ih => exact .lk (ih k)
  | a h g ih => exact .a (h.mono le fun a ha => k a (List.mem_append_left _ ha)) (ih fun a ha => k a (List.mem_append_right _ ha))
variable {H0 B H : Hp} {Ls : List (Option (V × Val))} {G : List Addr} {S : List Sv} {z : Zs} {σ : L2.St}
theorem Stt.st_ne (h : Stt K st H0 B Ls G S z σ H) (k : isDk u) (hd : H d = some u) : st ≠ some d := fun c => by
  obtain ⟨l, q, _⟩ := h.zr d c
  rw [hd] at q; cases q
  exact notDk_lst _ k
theorem Stt.frz (h : Stt K st H0 B Ls G S z σ H) (k : isDk u) (hd : H d = some u) (hb : H0 d = some u ∨ B d = some u) : Stt K st (fzd d od u H0) (fzd d od u B) Ls G S z σ (upd H d (.frz od u)) := by
  have nd := h.st_ne k hd
  have h0 : ∀ o, H0 d = some o → o = u := fun o e => by have := h.fr.k d o nd e; rw [hd] at this; cases this; rfl
  have hB : ∀ o, B d = some o → o = u := fun o e => by have := h.ble d o e; rw [hd] at this; cases this; rfl
  obtain ⟨Gs, hs, ndp, fr⟩ := h.ex
  have ow : ∀ a ∈ G ++ Gs, a ≠ d := fun a ha c => by
    subst c
    obtain ⟨q1, q2⟩ := fr a ha
    rcases hb with q | q
    · rw [q1] at q; cases q
    · rw [q2] at q; cases q
  have st_ne : ∀ {a}, st = some a → a ≠ d := fun {a} e c => nd (by rw [e, c])
  have zrf : ∀ {z : Zs} {F : Hp}, Zr K st z F → Zr K st z (fzd d od u F) := fun {z F} hz a e => by
    obtain ⟨l, q1, q2, q3, q4⟩ := hz a e
    exact ⟨l, fzd_same k (notDk_lst _) q1, q2, fzd_same k (notDk_lst _) q3, q4⟩
  refine ⟨⟨fun a o n e => ?_, fun a x r e ha => ?_⟩, fun a e => ?_, fun a o e => ?_, ?_, fun a e => fzd_none (h.bst a e), fun a ha => ?_, fun j v x e => (h.lks j v x e).fzd k, Gs, ?_, ndp, fun a ha => ⟨fzd_none (fr a ha).1, fzd_none (fr a ha).2⟩⟩
  · by_cases c : a = d
    · subst c
      cases q : H0 a with
      | none => rw [fzd_none q] at e; cases e
      | some o' =>
        have := h0 o' q
        subst this
        rw [fzd_at q] at e
        rw [upd_same]; exact e
    · rw [fzd_ne c] at e
      rw [upd_ne c]; exact h.fr.k a o n e
  · rw [fzd_ne (st_ne e)] at ha
    rw [upd_ne (st_ne e)]
    exact h.fr.l a x r e ha
  · obtain ⟨l, q1, q2, q3, q4⟩ := h.zr a e
    have nl : l ≠ d := fun c => by
      rw [c, hd] at q3; cases q3
      exact notDk_lst _ k
    exact ⟨l, by rw [upd_ne (st_ne e)]; exact q1, q2, by rw [upd_ne nl]; exact q3, q4⟩
  · by_cases c : a = d
    · subst c
      cases q : B a with
      | none => rw [fzd_none q] at e; cases e
      | some o' =>
        have := hB o' q
        subst this
        rw [fzd_at q] at e
        rw [upd_same]; exact e
    · rw [fzd_ne c] at e
      rw [upd_ne c]; exact h.ble a o e
  · obtain ⟨z0, hz0⟩ := h.z0
    exact ⟨z0, zrf hz0⟩
  · obtain ⟨o, e, m⟩ := h.gt a ha
    exact ⟨o, by rw [upd_ne (ow a (List.mem_append_left _ ha))]; exact e, m⟩
  · rw [hid_fzd nd]
    refine hs.via (fun v x b => b.fzd k) (Le.upd hd (fun xs c => ?_) (fun ob xs c => ?_) fun ob xs c => ?_) fun a ha o e => ?_
    · subst c; exact notDk_tup _ k
    · subst c; exact notDk_frz _ _ k
    · subst c; exact notDk_frz _ _ k
    · rw [upd_ne (ow a (List.mem_append_right _ ha))]; exact e
/-- what was told of the base before -/
structure FzB (K : PySem.W.Frag) (st : Option Addr) (H0 B : Hp) (d : Addr) (u : HO) : Prop where
  k : isDk u
  nd : st ≠ some d
  b : H0 d = some u ∨ B d = some u
  h0 : ∀ o, H0 d = some o → o = u
  hB : ∀ o, B d = some o → o = u
theorem Stt.fzb (h : Stt K st H0 B Ls G S z σ H) (k : isDk u) (hd : H d = some u) (hb : H0 d = some u ∨ B d = some u) : FzB K st H0 B d u :=
  ⟨k, h.st_ne k hd, hb, fun o e => by have := h.fr.k d o (h.st_ne k hd) e; rw [hd] at this; cases this; rfl, fun o e => by have := h.ble d o e; rw [hd] at this; cases this; rfl⟩
theorem FzB.at_ (f : FzB K st H0 B d u) (h1 : SameX st (fzd d od u H0) H) (h2 : Same (fzd d od u B) H) : H d = some (.frz od u) := by
  rcases f.b with q | q
  · exact h1.k d _ f.nd (fzd_at q)
  · exact h2 d _ (fzd_at q)
theorem FzB.same (f : FzB K st H0 B d u) (h1 : SameX st (fzd d od u H0) H) : SameX st H0 (upd H d u) := by
  refine ⟨fun a o n e => ?_, fun a x r e ha => ?_⟩
  · by_cases c : a = d
    · subst c; rw [upd_same, f.h0 o e]
    · rw [upd_ne c]; exact h1.k a o n (by rw [fzd_ne c]; exact e)
  · have c : a ≠ d := fun c => f.nd (by rw [e, c])
    rw [upd_ne c]
    exact h1.l a x r e (by rw [fzd_ne c]; exact ha)
theorem FzB.sameB (f : FzB K st H0 B d u) (h2 : Same (fzd d od u B) H) : Same B (upd H d u) := fun a o e => by
  by_cases c : a = d
  · subst c; rw [upd_same, f.hB o e]
  · rw [upd_ne c]; exact h2 a o (by rw [fzd_ne c]; exact e)
theorem FzB.zr (f : FzB K st H0 B d u) (hd : H d = some (.frz od u)) (hz : Zr K st z H) : Zr K st z (upd H d u) := fun a e => by
  obtain ⟨l, q1, q2, q3, q4⟩ := hz a e
  have c : a ≠ d := fun c => f.nd (by rw [e, c])
  have nl : l ≠ d := fun c => by rw [c, hd] at q3; cases q3
  exact ⟨l, by rw [upd_ne c]; exact q1, q2, by rw [upd_ne nl]; exact q3, q4⟩
theorem FzB.le (f : FzB K st H0 B d u) (hd : H d = some (.frz od u)) : Le H (upd H d u) := by
  refine Le.upd hd (fun xs c => by cases c) (fun ob xs c => ?_) fun ob xs c => ?_
  · cases c; exact notDk_tup _ f.k
  · cases c; exact notDk_lst _ f.k
theorem Stt.unfrz (f : FzB K st H0 B d u) (h : Stt K st (fzd d od u H0) (fzd d od u B) Ls G S z σ H) : H d = some (.frz od u) ∧ Stt K st H0 B Ls G S z σ (upd H d u) := by
  have hd := f.at_ h.fr h.ble
  obtain ⟨Gs, hs, ndp, fr⟩ := h.ex
  have ow : ∀ a ∈ G ++ Gs, a ≠ d := fun a ha c => by
    subst c
    obtain ⟨q1, q2⟩ := fr a ha
    rcases f.b with q | q
    · rw [fzd_at q] at q1; cases q1
    · rw [fzd_at q] at q2; cases q2
  refine ⟨hd, f.same h.fr, f.zr hd h.zr, f.sameB h.ble, ?_, fun a e => fzd_none' (h.bst a e), fun a ha => ?_, fun j v x e => (h.lks j v x e).unfzd f.k, Gs, ?_, ndp, fun a ha => ⟨fzd_none' (fr a ha).1, fzd_none' (fr a ha).2⟩⟩
  · obtain ⟨z0, hz0⟩ := h.z0
    refine ⟨z0, fun a e => ?_⟩
    obtain ⟨l, q1, q2, q3, q4⟩ := hz0 a e
    exact ⟨l, fzd_same' (fun _ _ => .inl fun q => by cases q) f.k q1, q2, fzd_same' (fun _ _ => .inl fun q => by cases q) f.k q3, q4⟩
  · obtain ⟨o, e, m⟩ := h.gt a ha
    exact ⟨o, by rw [upd_ne (ow a (List.mem_append_left _ ha))]; exact e, m⟩
  · rw [hid_fzd f.nd] at hs
    exact hs.via (fun v x b => b.unfzd f.k) (f.le hd) fun a ha o e => by rw [upd_ne (ow a (List.mem_append_right _ ha))]; exact e
end
end MM
namespace MM
open PySem PySem.Spec PyProof.Rows L2
/-! ### what a dict walks over -/
def kyT : Key → T
  | .inl i => .int i
  | .inr s => .str s
def kOk : Key → Bool
  | .inl _ => true
  | .inr s => sOk s
theorem kyT_rep {K : PySem.W.Frag} {H : Hp} {k : Key} (h : kOk k = true) : RepT K H (kV k) (kyT k) := by
  cases k with
  | inl i => exact .int i
  | inr s => exact .str s h
/-- the things a dict walks over -/
@[simp] def keysV : Val → Option (List T)
  | .dk kvs => if (kvs.all fun kv => kOk kv.1) = true then some (kvs.map fun kv => kyT kv.1) else none
  | .dt kvs => if (kvs.all fun kv => kv.1.all kOk) = true then some (kvs.map fun kv => .tup (kv.1.map kyT)) else none
  | _ => none
/-- the dict u walks over ts -/
inductive DictAt (K : PySem.W.Frag) (H : Hp) : HO → Val → Prop
  | dk {xs : List (Key × V)} {kvs : List (Key × T)} : RepK K H xs kvs → DictAt K H (.dK xs) (.dk kvs)
  | dt {xs : List (List Key × V)} {kvs : List (List Key × T)} : RepK K H xs kvs → DictAt K H (.dT xs) (.dt kvs)
theorem DictAt.k {K : PySem.W.Frag} {H : Hp} {u : HO} {x : Val} (h : DictAt K H u x) : isDk u := by
  cases h
  · exact .inl ⟨_, rfl⟩
  · exact .inr ⟨_, rfl⟩
theorem DictAt.mut {K : PySem.W.Frag} {H : Hp} {u : HO} {x : Val} (h : DictAt K H u x) : Mut (some u) := by cases h <;> exact trivial
theorem fst_get {κ α β : Type} {xs : List (κ × α)} {ys : List (κ × β)} (h : xs.map (·.1) = ys.map (·.1)) {i : Nat} {k : κ} {a : α} (e : xs[i]? = some (k, a)) : ∃ b, ys[i]? = some (k, b) := by
  have h1 : (xs.map (·.1))[i]? = some k := by rw [List.getElem?_map, e]; rfl
  rw [h, List.getElem?_map] at h1
  cases q : ys[i]? with
  | none => rw [q] at h1; cases h1
  | some y => rw [q] at h1; obtain ⟨k', b⟩ := y; cases h1; exact ⟨b, rfl⟩
theorem kts_rep {K : PySem.W.Frag} {H : Hp} : ∀ {ks : List Key}, ks.all kOk = true → RepTs K H (ks.map kV) (ks.map kyT)
  | [], _ => .nil
  | k :: ks, h => by
    simp only [List.all_cons, Bool.and_eq_true] at h
    exact .cons (kyT_rep h.1) (kts_rep h.2)
/-- for over it, wherever it stands frozen -/
theorem keys_go {K : PySem.W.Frag} {H H1 : Hp} {u : HO} {x : Val} {ts : List T} (h : DictAt K H1 u x) (hk : keysV x = some ts) {d : Addr} {od : Obj} (hd : H d = some (.frz od u)) {σ : L2.St} {i : Nat} (e1 : σ[i]? = some (some (.ref d))) {R : It → Hp → Prop} (go : ∀ J, Walk J ts.length (fun H => H d = some (.frz od u)) (YT K ts) → R J H) :
    iKeys (tVar i) σ H R := by
  refine ⟨.ref d, e1, ?_⟩
  cases h with
  | @dk xs kvs r =>
    simp only [keysV] at hk
    split at hk
    · rename_i ok
      cases hk
      refine ⟨d, od, rfl, .inl ⟨xs, hd, go _ ?_⟩⟩
      have hl : (kvs.map fun kv => kyT kv.1).length = xs.length := by
        have := congrArg List.length r.1
        simpa using this.symm
      rw [hl]
      refine Walk.mono walk_keys (fun _ h => h) fun i H x H' hi _ ⟨e1, k, v, ek, ev⟩ => ?_
      obtain ⟨t, et⟩ := fst_get r.1 ek
      refine ⟨e1, kyT k, by rw [List.getElem?_map, et]; rfl, ?_⟩
      rw [ev]
      exact kyT_rep (List.all_eq_true.mp ok _ (List.mem_of_getElem? et))
    · cases hk
  | @dt xs kvs r =>
    simp only [keysV] at hk
    split at hk
    · rename_i ok
      cases hk
      refine ⟨d, od, rfl, .inr ⟨xs, hd, go _ ?_⟩⟩
      have hl : (kvs.map fun kv => T.tup (kv.1.map kyT)).length = xs.length := by
        have := congrArg List.length r.1
        simpa using this.symm
      rw [hl]
      refine Walk.mono walk_keysT (fun _ h => h) fun i H x H' hi _ ⟨e1, k, v, q, ek, ev, eq⟩ => ?_
      obtain ⟨t, et⟩ := fst_get r.1 ek
      refine ⟨e1, .tup (k.map kyT), by rw [List.getElem?_map, et]; rfl, ?_⟩
      subst e1
      rw [ev]
      exact .tup (.inl (.inl eq)) (kts_rep (List.all_eq_true.mp ok _ (List.mem_of_getElem? et)))
    · cases hk
section
variable {X : Cx} {W : WX} {st : Option Addr} {pos : Pos}
/-- an owned slot that holds a dict, locked and frozen -/
theorem Stt.lockD {K : PySem.W.Frag} {H0 B H : Hp} {Ls : List (Option (V × Val))} {S : List Sv} {z : Zs} {σ : L2.St} {i : Nat} {x : Val} {ts : List T} (h : Stt K st H0 B Ls [] S z σ H) (e : S[i]? = some (.o x)) (hk : keysV x = some ts) :
    ∃ d u, σ[i]? = some (some (.ref d)) ∧ DictAt K H u x ∧ H d = some u ∧ Own K (Bex B H [d]) (.ref d) x [d] ∧ (H0 d = none ∧ B d = none) ∧ Bex B H [d] d = some u ∧ Stt K st H0 (Bex B H [d]) (Ls.set i (some (.ref d, x))) [] (S.set i (.lk x)) z σ H := by
  obtain ⟨v, Gi, e1, od, nd, fr, h2⟩ := h.lock e
  cases od with
  | im _ => cases hk
  | il _ _ => cases hk
  | tnil _ => cases hk
  | tup _ _ _ _ => cases hk
  | lst _ _ _ _ => cases hk
  | ob _ _ _ _ _ => cases hk
  | dv _ _ _ _ => cases hk
  | dw _ _ _ _ => cases hk
  | any => cases hk
  | @dk d xs kvs q r =>
    have hd := h2.ble _ _ q
    exact ⟨d, _, e1, .dk (r.mono (Le.of_same h2.ble)), hd, .dk q r, fr d (by simp), q, h2⟩
  | @dt d xs kvs q r =>
    have hd := h2.ble _ _ q
    exact ⟨d, _, e1, .dt (r.mono (Le.of_same h2.ble)), hd, .dt q r, fr d (by simp), q, h2⟩
/-- the outcomes of a body while the dict is frozen -/
def lockE (d : Addr) (od : Obj) (u : HO) (D : Ends) : Ends := ⟨fun σ' H' => H' d = some (.frz od u) ∧ D.nx σ' (upd H' d u), fun v H' => H' d = some (.frz od u) ∧ D.rt v (upd H' d u), fun σ' H' => H' d = some (.frz od u) ∧ D.bk σ' (upd H' d u), fun σ' H' => H' d = some (.frz od u) ∧ D.ct σ' (upd H' d u)⟩
theorem Cs.unfrz {H0 B : Hp} {Ls : List (Option (V × Val))} {D : Ends} {r : Ro} {d : Addr} {od : Obj} {u : HO} (f : FzB X.K st H0 B d u) (hq : Cs X W st H0 B Ls D (noX r)) : Cs X W st (fzd d od u H0) (fzd d od u B) Ls (lockE d od u D) r := by
  cases r with
  | nx S z => exact fun σ H h => ⟨(h.unfrz f).1, hq σ _ (h.unfrz f).2⟩
  | bk S z => exact fun σ H h => ⟨(h.unfrz f).1, hq σ _ (h.unfrz f).2⟩
  | ct S z => exact fun σ H h => ⟨(h.unfrz f).1, hq σ _ (h.unfrz f).2⟩
  | xc c S z => exact hq.elim
  | no => exact hq.elim
  | ro x S z =>
    intro v σ H G h ow
    have hd := f.at_ h.fr h.ble
    refine ⟨hd, hq v σ (upd H d u) G (h.unfrz f).2 (ow.mono (f.le hd) fun a ha o e => ?_)⟩
    obtain ⟨o', e', m⟩ := ow.there a ha
    have : a ≠ d := fun c => by
      subst c
      rw [hd] at e'; cases e'
      exact m
    rw [upd_ne this]; exact e
  | rt x z =>
    intro v H G sx sb hz ow nd fr
    have hd := f.at_ sx sb
    have le := f.le hd
    refine ⟨hd, hq v (upd H d u) G (f.same sx) (f.sameB sb) (f.zr hd hz) (ow.mono le fun a ha o e => ?_) nd fun a ha => fzd_none' (fr a ha)⟩
    obtain ⟨o', e', m⟩ := ow.there a ha
    have : a ≠ d := fun c => by
      subst c
      rw [hd] at e'; cases e'
      exact m
    rw [upd_ne this]; exact e
@[simp] def sForD (i : Nat) (g : MGt) (body : MS) : MS := fun S z => match S[i]? with
  | some (.o x) => match keysV x with
    | some ts => (noX (sTurns g body ts (S.set i (.lk x)) z)).map (unlk i)
    | none => .no
  | some (.b x) => match keysV x with
    | some ts => noX (sTurns g body ts S z)
    | none => .no
  | _ => .no
theorem bor_dict {K : PySem.W.Frag} {H : Hp} {v : V} {x : Val} {ts : List T} (h : Bor K H v x) (hk : keysV x = some ts) : ∃ d u, v = .ref d ∧ Rd H d u ∧ DictAt K H u x := by
  cases h with
  | im _ => cases hk
  | il _ _ => cases hk
  | tup _ _ _ => cases hk
  | lst _ _ _ => cases hk
  | ob _ _ _ _ => cases hk
  | dv _ _ _ => cases hk
  | dw _ _ _ => cases hk
  | any => cases hk
  | dk q r => exact ⟨_, _, rfl, q, .dk r⟩
  | dt q r => exact ⟨_, _, rfl, q, .dt r⟩
theorem se_forD (i : Nat) {x : Str} {xp : Pos} {tg : Expr} {body : List Stmt} {g : MGt} {mb : MS} (hp : PassesOwn (model X.prog X.w) X.A X.env X.xe) (hc : X.calm = true) (hg : GE X st tg g) (hb : SEs X W st body mb)
    (hN : X.N[i]? = some x := by rfl) (hv : Vis X.env.scope x := by first | exact Or.inl rfl | exact Or.inr (Or.inl rfl) | exact Or.inr (Or.inr rfl)) (hd : (x == ("__debug__" : Str)) = false := by decide) (hcd : (x == ("__classdict__" : Str)) = false := by decide)
    (hs : ∀ y, foldedSetIterable (.Name x xp) X.env y = pure y := by intro _; rfl) : SE X W st (.For tg (.Name x xp) body [] pos) (sForD i g mb) := by
  obtain ⟨tG, pG, fg⟩ := hg
  obtain ⟨tb, pb, fb⟩ := hb
  have p0 := ps_for hp hc (pi_keys (tg := tg) (pe_var (X := X) (pos := xp) hN hv hd hcd)) pG pb hs (pos := pos)
  refine ⟨fun D σ H => tLock (tFor (iKeys (tVar i)) tG tb) D σ H ∨ tFor (iKeys (tVar i)) tG tb D σ H, ⟨fun pins s σ H D I hw => hw.elim (fun q => (ps_lock p0).run pins s σ H D I q) fun q => p0.run pins s σ H D I q⟩, fun H0 B Ls S z σ H D h hq => ?_⟩
  obtain ⟨Gs, hsl, nd, fr⟩ := h.ex
  unfold sForD at hq
  split at hq
  · rename_i y e
    split at hq
    · rename_i ts ek
      obtain ⟨d, u, e1, da, hdu, ow, ⟨f0, f1⟩, hB, h2⟩ := h.lockD e ek
      have hl : i < Ls.length := by rw [hsl.lengthL]; exact (List.getElem?_eq_some_iff.mp e).1
      have hq2 := Cs.unlock (Bex.up h.ble) h.lks hl ow (by simp) (fun a ha => by simp at ha; subst ha; exact ⟨f0, f1⟩) hq
      left
      refine ⟨d, u, hdu, da.mut, fun od => ?_⟩
      have hL := h2.frz (od := od) da.k hdu (.inr hB)
      have f := h2.fzb da.k hdu (.inr hB)
      show iKeys (tVar i) σ _ _
      exact keys_go da ek upd_same e1 fun J w => it_core fg fb w hL (fun S z σ H h => f.at_ h.fr h.ble) (Cs.unfrz f hq2)
    · exact hq.elim
  · rename_i y e
    split at hq
    · rename_i ts ek
      obtain ⟨v, e1, bw⟩ := hsl.get_b e
      obtain ⟨d, u, rfl, rd, da⟩ := bor_dict bw ek
      rcases rd with q | ⟨o, q⟩
      · left
        have q0 := not_hid q
        have nst : st ≠ some d := fun c => by
          unfold hid at q
          rw [if_pos c] at q; cases q
        have hdu := h.fr.k d _ nst q0
        have f := h.fzb da.k hdu (.inl q0)
        refine ⟨d, u, hdu, da.mut, fun od => ?_⟩
        have hL := h.frz (od := od) da.k hdu (.inl q0)
        show iKeys (tVar i) σ _ _
        exact keys_go da ek upd_same e1 fun J w => it_core fg fb w hL (fun S z σ H h => f.at_ h.fr h.ble) (Cs.unfrz f hq)
      · right
        have q0 := not_hid q
        have nst : st ≠ some d := fun c => by
          unfold hid at q
          rw [if_pos c] at q; cases q
        have at_ : ∀ S z σ H, Stt X.K st H0 B Ls [] S z σ H → H d = some (.frz o u) := fun S z σ H h => h.fr.k d _ nst q0
        show iKeys (tVar i) σ H _
        refine keys_go da ek (at_ _ _ _ _ h) e1 fun J w => it_core fg fb w h at_ ?_
        cases er : sTurns g mb ts S z <;> rw [er] at hq <;> first | exact hq | exact hq.elim
    · exact hq.elim
  · exact hq.elim
end
end MM
namespace MM
open PySem PySem.Spec PyProof.Rows L2
section
variable {K : PySem.W.Frag} {st : Option Addr} {H0 B B' H : Hp} {Ls : List (Option (V × Val))} {G : List Addr} {S : List Sv} {z : Zs} {σ : L2.St} {i : Nat} {x y : Val} {v : V} {Gi : List Addr}
theorem Stt.lockG (h : Stt K st H0 B Ls G S z σ H) (e : S[i]? = some (.o x)) :
    ∃ v Gi, σ[i]? = some (some v) ∧ Own K (Bex B H Gi) v x Gi ∧ Gi.Nodup ∧ (∀ a ∈ Gi, H0 a = none ∧ B a = none) ∧ Stt K st H0 (Bex B H Gi) (Ls.set i (some (v, x))) G (S.set i (.lk x)) z σ H := by
  obtain ⟨Gs, hs, nd, fr⟩ := h.ex
  obtain ⟨v, Gi, Ga, Gb, e1, o1, eg, put⟩ := hs.get_o e
  subst eg
  have od : Own K (Bex B H Gi) v x Gi := o1.mono (Bex.le h.ble) fun a ha o e => by rw [Bex.in_ ha]; exact e
  have put' := put (hid st H0) H (some (v, x)) (.lk x) (some v) [] (fun _ _ q => q) (Le.refl H) (fun _ _ _ q => q) (.lk .nil)
  rw [set_same e1] at put'
  have nd0 := List.nodup_append.mp nd
  have nd1 := List.nodup_append.mp nd0.2.1
  have nd2 := List.nodup_append.mp nd1.1
  have nin : ∀ a ∈ G ++ (Ga ++ [] ++ Gb), a ∉ Gi := fun a ha hi => by
    simp only [List.append_nil, List.mem_append] at ha
    rcases ha with q | q | q
    · exact nd0.2.2 a q a (by simp [hi]) rfl
    · exact nd2.2.2 a q a hi rfl
    · exact nd1.2.2 a (List.mem_append_right _ hi) a q rfl
  refine ⟨v, Gi, e1, od, nd2.2.1, fun a ha => fr a (by simp [ha]), h.fr, h.zr, Bex.sub h.ble, h.z0, fun a c => ?_, h.gt, fun j w y ej => ?_, _, put', ?_, fun a ha => ?_⟩
  · obtain ⟨l, q, _⟩ := h.zr a c
    exact Bex.none (fun hx => h.nst (fr a (by simp [hx])).1 c) (h.bst a c) q True.intro
  · rw [List.getElem?_set] at ej
    split at ej
    · split at ej
      · injection ej with ej
        injection ej with ej
        injection ej with e1 e2
        subst e1 e2
        exact od.bor
      · cases ej
    · exact (h.lks j w y ej).mono (Bex.up h.ble)
  · exact nd.sublist (List.Sublist.append_left (by simpa using List.Sublist.append_right (List.sublist_append_left Ga Gi) Gb) G)
  · have ha' : a ∈ G ++ (Ga ++ Gi ++ Gb) := by
      simp only [List.append_nil, List.mem_append] at ha ⊢
      rcases ha with q | q | q
      · exact .inl q
      · exact .inr (.inl (.inl q))
      · exact .inr (.inr q)
    refine ⟨(fr a ha').1, ?_⟩
    rcases List.mem_append.mp ha' with q | q
    · obtain ⟨o, q, m⟩ := h.gt a q
      exact Bex.none (nin a ha) (fr a ha').2 q m
    · obtain ⟨o, q, m⟩ := hs.there a q
      exact Bex.none (nin a ha) (fr a ha').2 q m
theorem Stt.unlockG (h : Stt K st H0 B' (Ls.set i (some (v, x))) G S z σ H) (e : S[i]? = some (.lk y)) (hb : Same B B')
    (lk : ∀ (j : Nat) v x, Ls[j]? = some (some (v, x)) → Bor K B v x) (hl : i < Ls.length) (od : Own K B' v x Gi) (nd : Gi.Nodup) (fr : ∀ a ∈ Gi, H0 a = none ∧ B a = none) : y = x ∧ Stt K st H0 B Ls G (S.set i (.o x)) z σ H := by
  obtain ⟨Gs, hs, nds, frs⟩ := h.ex
  obtain ⟨w, e1, e2⟩ := hs.get_lk e
  rw [List.getElem?_set_self hl] at e2
  injection e2 with e2
  injection e2 with e2
  injection e2 with e2 e3
  subst e2 e3
  refine ⟨rfl, ?_⟩
  have ow : Own K H v x Gi := od.mono (Le.of_same h.ble) fun a _ o q => h.ble a o q
  obtain ⟨Ga, Gm, Gb, eg, q⟩ := hs.setL (i := i) (List.getElem?_eq_some_iff.mp e).1 (l := Ls[i]) (y := .o x) (w := some v) (G2 := Gi ++ []) (.o ow .nil)
  rw [set_same e1, List.set_set, List.append_nil] at q
  have el : Ls.set i Ls[i] = Ls := by simp
  rw [el] at q
  subst eg
  have dj : ∀ a ∈ G ++ (Ga ++ Gm ++ Gb), a ∉ Gi := fun a ha hi => by
    obtain ⟨o, c, _⟩ := od.there a hi
    rw [(frs a ha).2] at c; cases c
  have nb : ∀ a, B' a = none → B a = none := fun a e => by
    cases q : B a with
    | none => rfl
    | some o => rw [hb a o q] at e; cases e
  have nds1 := List.nodup_append.mp nds
  refine ⟨h.fr, h.zr, fun a o e => h.ble a o (hb a o e), h.z0, fun a e => nb a (h.bst a e), h.gt, lk, _, q, ?_, fun a ha => ?_⟩
  · refine List.nodup_append.mpr ⟨nds1.1, nodup_mid (Gm := Gm) ?_, fun a ha b hb2 c => ?_⟩
    · refine List.nodup_append.mpr ⟨nd, nds1.2.1, fun a ha b hb e => ?_⟩
      subst e
      exact dj a (List.mem_append_right _ hb) ha
    · subst c
      simp only [List.mem_append] at hb2
      rcases hb2 with (q | q) | q
      · exact nds1.2.2 a ha a (by simp [q]) rfl
      · exact dj a (List.mem_append_left _ ha) q
      · exact nds1.2.2 a ha a (by simp [q]) rfl
  · simp only [List.mem_append] at ha
    rcases ha with q | (q | q) | q
    · have := frs a (by simp [q]); exact ⟨this.1, nb a this.2⟩
    · have := frs a (by simp [q]); exact ⟨this.1, nb a this.2⟩
    · exact fr a q
    · have := frs a (by simp [q]); exact ⟨this.1, nb a this.2⟩
/-- back from the frozen dict, whatever came to the owned part -/
def BackD (K : PySem.W.Frag) (st : Option Addr) (H0 B H0' B' : Hp) (Ls Ls' : List (Option (V × Val))) (S S' : List Sv) (d : Addr) (od : Obj) (u : HO) : Prop := ∀ G z σ H, Stt K st H0' B' Ls' G S' z σ H → H d = some (.frz od u) ∧ Stt K st H0 B Ls G S z σ (upd H d u)
/-- the dict of slot i is frozen: what the slots then are, and the way back -/
theorem Stt.openD {ts : List T} (h : Stt K st H0 B Ls G S z σ H) {S' : List Sv} (e : (S[i]? = some (.o x) ∧ S' = S.set i (.lk x)) ∨ (S[i]? = some (.b x) ∧ S' = S)) (hk : keysV x = some ts) : ∃ d u, σ[i]? = some (some (.ref d)) ∧ DictAt K H u x ∧
    ((H d = some u ∧ ∀ od, ∃ H0' B' Ls', Stt K st H0' B' Ls' G S' z σ (upd H d (.frz od u)) ∧ BackD K st H0 B H0' B' Ls Ls' S S' d od u ∧ ∀ G S z σ H, Stt K st H0' B' Ls' G S z σ H → H d = some (.frz od u)) ∨
      ∃ od, S' = S ∧ ∀ G S z σ H, Stt K st H0 B Ls G S z σ H → H d = some (.frz od u)) := by
  rcases e with ⟨e, rfl⟩ | ⟨e, rfl⟩
  · obtain ⟨v, Gi, e1, od, ndi, fri, h2⟩ := h.lockG e
    obtain ⟨Gs, hsl, _, _⟩ := h.ex
    have hl : i < Ls.length := by rw [hsl.lengthL]; exact (List.getElem?_eq_some_iff.mp e).1
    have hlS : i < S.length := (List.getElem?_eq_some_iff.mp e).1
    have back : ∀ {d : Addr} {od' : Obj} {u : HO}, isDk u → H d = some u → Bex B H Gi d = some u → ∀ G z σ H', Stt K st (fzd d od' u H0) (fzd d od' u (Bex B H Gi)) (Ls.set i (some (v, x))) G (S.set i (.lk x)) z σ H' → H' d = some (.frz od' u) ∧ Stt K st H0 B Ls G S z σ (upd H' d u) := fun {d od' u} k hd hB G z σ H' h' => by
      have f := h2.fzb k hd (.inr hB)
      obtain ⟨q1, q2⟩ := h'.unfrz f
      obtain ⟨_, q3⟩ := q2.unlockG (y := x) (List.getElem?_set_self hlS) (Bex.up h.ble) h.lks hl od ndi fri
      rw [List.set_set, set_same e] at q3
      exact ⟨q1, q3⟩
    have at_ : ∀ {d : Addr} {od' : Obj} {u : HO}, isDk u → H d = some u → Bex B H Gi d = some u → ∀ G S z σ H', Stt K st (fzd d od' u H0) (fzd d od' u (Bex B H Gi)) (Ls.set i (some (v, x))) G S z σ H' → H' d = some (.frz od' u) := fun k hd hB G S z σ H' h' => (h2.fzb k hd (.inr hB)).at_ h'.fr h'.ble
    cases od with
    | im _ => cases hk
    | il _ _ => cases hk
    | tnil _ => cases hk
    | tup _ _ _ _ => cases hk
    | lst _ _ _ _ => cases hk
    | ob _ _ _ _ _ => cases hk
    | dv _ _ _ _ => cases hk
    | dw _ _ _ _ => cases hk
    | any => cases hk
    | @dk d xs kvs q r =>
      have hd := h2.ble _ _ q
      have k : isDk (.dK xs) := .inl ⟨_, rfl⟩
      exact ⟨d, _, e1, .dk (r.mono (Le.of_same h2.ble)), .inl ⟨hd, fun od' => ⟨_, _, _, h2.frz k hd (.inr q), back k hd q, at_ k hd q⟩⟩⟩
    | @dt d xs kvs q r =>
      have hd := h2.ble _ _ q
      have k : isDk (.dT xs) := .inr ⟨_, rfl⟩
      exact ⟨d, _, e1, .dt (r.mono (Le.of_same h2.ble)), .inl ⟨hd, fun od' => ⟨_, _, _, h2.frz k hd (.inr q), back k hd q, at_ k hd q⟩⟩⟩
  · obtain ⟨Gs, hsl, _, _⟩ := h.ex
    obtain ⟨v, e1, bw⟩ := hsl.get_b e
    obtain ⟨d, u, rfl, rd, da⟩ := bor_dict bw hk
    have da' : DictAt K H u x := by
      have le : Le (hid st H0) H := Le.of_same fun a o q => hid_same st H a o (h.fr.hid a o q)
      cases da with
      | dk r => exact .dk (r.mono le)
      | dt r => exact .dt (r.mono le)
    have nst : ∀ {w : HO}, hid st H0 d = some w → st ≠ some d := fun {w} q c => by
      unfold hid at q
      rw [if_pos c] at q; cases q
    refine ⟨d, u, e1, da', ?_⟩
    rcases rd with q | ⟨o, q⟩
    · have q0 := not_hid q
      have hdu := h.fr.k d _ (nst q) q0
      exact .inl ⟨hdu, fun od => ⟨_, _, _, h.frz da.k hdu (.inl q0), fun G z σ H' h' => h'.unfrz (h.fzb da.k hdu (.inl q0)), fun G S z σ H' h' => (h.fzb da.k hdu (.inl q0)).at_ h'.fr h'.ble⟩⟩
    · exact .inr ⟨o, rfl, fun G S z σ H h => h.fr.k d _ (nst q) (not_hid q)⟩
end
section
variable {X : Cx} {W : WX} {st : Option Addr} {pos : Pos}
/-- a comprehension over a walk, the wish told -/
theorem lcG_rd {J : It} {ts : List T} {GH : Hp → Prop} {c : MT} {m : ME} {tt : TT} {te : TE} (j : Nat) (w : Walk J ts.length GH (YT X.K ts))
    (ft : ∀ H0 B Ls G S z σ H Q, Stt X.K st H0 B Ls G S z σ H → Ct X W0 st σ H (c S z) (fun x z' H' => Q x H') → tt σ H Q)
    (fe : ∀ H0 B Ls G S z σ H Q, Stt X.K st H0 B Ls G S z σ H → Ct X W0 st σ H (m S z) (fun x z' H' => ∀ v, Bor X.K (hid st H') v x → Q v H') → te σ H Q)
    {H0 B H1 : Hp} {Ls : List (Option (V × Val))} {G : List Addr} {S : List Sv} {σ : L2.St} {Q : VK} {z1 : Zs} (h1 : Stt X.K st H0 B Ls G S z1 σ H1) (hG : ∀ G S z σ H, Stt X.K st H0 B Ls G S z σ H → GH H) {D : Addr} (nD : H1 D = none)
    (hq1 : LcK X.K st H0 B Ls G S σ D (fun v H' => (∀ a o, st ≠ some a → a ≠ D → H1 a = some o → H' a = some o) → Q v H') (lcT j c m (wipS j S) ts [] z1)) :
    ∃ W : Nat → Nat → Hp → Prop, (∃ m, W 0 m (L2.upd H1 D (.lst []))) ∧ ∀ i m H, W i m H →
      (J.stop i H ∧ Q (.ref D) H) ∨ (J.go i H ∧ ∃ Nx : Hp → Prop, (∀ H', Nx H' → ∃ m', m' < m ∧ W (i + 1) m' H') ∧ ∀ x H', J.yld i H x H' → gName j x (wipe σ [j]) H' fun σ2 H2 => wipe σ2 [j] = wipe σ [j] ∧ tt σ2 H2 fun b H3 =>
        if b = true then te σ2 H3 fun y H4 => ∃ acc, H4 D = some (.lst acc) ∧ acc.length < sizeLine ∧ Nx (L2.upd H4 D (.lst (acc ++ [y]))) else Nx H3) := by
  have hz1 := h1.zr
  have sn : Same H1 (L2.upd H1 D (.lst [])) := Same.upd_new nD
  refine lc_it w (fun i H => ∃ z acc av, LcP X st H0 B Ls G S σ D (fun v H' => (∀ a o, st ≠ some a → a ≠ D → H1 a = some o → H' a = some o) → Q v H') j c m H1 (ts.drop i) H z acc av)
    ⟨z1, [], [], h1.add (G' := [D]) (.of_same sn) (hz1.new sn) (by simp) (fun a ha => by simp at ha; subst ha; exact nD) (fun a ha => by simp at ha; subst ha; exact ⟨_, upd_same, True.intro⟩), upd_same, .nil, fun a o _ _ e => sn a o e, hq1⟩
    (fun i H _ ⟨_, _, _, P⟩ => hG _ _ _ _ _ P.s) (fun i x H H' hi ⟨z2, acc, av, P⟩ ⟨e, t, et, rt⟩ => ?_) (fun H ⟨z2, acc, av, P⟩ => ?_)
  · subst e
    obtain ⟨hl, e2⟩ := List.getElem?_eq_some_iff.mp et
    rw [List.drop_eq_getElem_cons hl, e2] at P
    exact lc_turn ft fe P rt
  · rw [List.drop_length] at P
    have hq := P.q
    exact hq H av P.s P.d P.r P.k
@[simp] def eLcD (i j : Nat) (c : MT) (m : ME) : ME := fun S z => match S[i]? with
  | some (.o x) => match keysV x with
    | some ts => lcT j c m (wipS j (S.set i (.lk x))) ts [] z
    | none => .no
  | some (.b x) => match keysV x with
    | some ts => lcT j c m (wipS j S) ts [] z
    | none => .no
  | _ => .no
theorem eLcD_cases {i j : Nat} {c : MT} {m : ME} {S : List Sv} {z : Zs} (P : Rs Val → Prop) (h : P (eLcD i j c m S z)) (no : ¬ P .no) : ∃ x ts S', keysV x = some ts ∧ ((S[i]? = some (.o x) ∧ S' = S.set i (.lk x)) ∨ (S[i]? = some (.b x) ∧ S' = S)) ∧ P (lcT j c m (wipS j S') ts [] z) := by
  unfold eLcD at h
  split at h
  · rename_i x e
    split at h
    · rename_i ts ek; exact ⟨x, ts, _, ek, .inl ⟨e, rfl⟩, h⟩
    · exact absurd h no
  · rename_i x e
    split at h
    · rename_i ts ek; exact ⟨x, ts, _, ek, .inr ⟨e, rfl⟩, h⟩
    · exact absurd h no
  · exact absurd h no
theorem lcD_rd {c : MT} {m : ME} {tt : TT} {te : TE} (i j : Nat)
    (ft : ∀ H0 B Ls G S z σ H Q, Stt X.K st H0 B Ls G S z σ H → Ct X W0 st σ H (c S z) (fun x z' H' => Q x H') → tt σ H Q)
    (fe : ∀ H0 B Ls G S z σ H Q, Stt X.K st H0 B Ls G S z σ H → Ct X W0 st σ H (m S z) (fun x z' H' => ∀ v, Bor X.K (hid st H') v x → Q v H') → te σ H Q) :
    ∀ H0 B Ls G S z σ H Q, Stt X.K st H0 B Ls G S z σ H → Ct X W st σ H (eLcD i j c m S z) (fun x z' H' => ∀ v G', Own X.K H' v x G' → Stt X.K st H0 B Ls (G' ++ G) S z' σ H' → Q v H') → tLockE (tLc (iKeys (tVar i)) (gName j) tt te [j]) σ H Q ∨ tLc (iKeys (tVar i)) (gName j) tt te [j] σ H Q := by
  intro H0 B Ls G S z σ H Q h hq
  obtain ⟨x, ts, S', ek, eS, hq⟩ := eLcD_cases (fun r => Ct X W st σ H r (fun x z' H' => ∀ v G', Own X.K H' v x G' → Stt X.K st H0 B Ls (G' ++ G) S z' σ H' → Q v H')) hq id
  obtain ⟨d, u, e1, da, hh⟩ := h.openD eS ek
  rcases hh with ⟨hd, hh⟩ | ⟨od, rfl, hG⟩
  · left
    refine ⟨d, u, hd, da.mut, fun od => ?_⟩
    obtain ⟨H0', B', Ls', hL, back, at_⟩ := hh od
    show iKeys (tVar i) σ _ _
    refine keys_go da ek upd_same e1 fun J w => fun D nD => ?_
    have nD0 : H D = none := by
      by_cases c : D = d
      · rw [c, upd_same] at nD; cases nD
      · rwa [upd_ne c] at nD
    refine lcG_rd (Q := fun v H' => H' d = some (.frz od u) ∧ Q v (upd H' d u)) j w ft fe hL at_ nD ?_
    cases er : lcT j c m (wipS j S') ts [] z with
    | ok x z' =>
      obtain ⟨us, rfl⟩ := lcT_il er
      rw [er] at hq
      intro H' av hs hD r k
      obtain ⟨hd', hs'⟩ := back _ _ _ _ hs
      have nDd : D ≠ d := fun c => by rw [c, upd_same] at nD; cases nD
      have hD' : upd H' d u D = some (.lst av) := by rw [upd_ne nDd]; exact hD
      have le : Le H' (upd H' d u) := by
        refine Le.upd hd' (fun xs c => by cases c) (fun ob xs c => ?_) fun ob xs c => ?_
        · cases c; exact notDk_tup _ da.k
        · cases c; exact notDk_lst _ da.k
      refine ⟨hd', hq (upd H' d u) (SameX.two h hs' nD0 fun a o n1 n2 e => ?_) hs'.zr _ [D] (.il hD' (r.mono le)) (by simpa using hs')⟩
      by_cases c : a = d
      · subst c
        rw [hd] at e; cases e
        rw [upd_same]
      · rw [upd_ne c]
        exact k a o n1 n2 (by rw [upd_ne c]; exact e)
    | ex d z => exact absurd er lcT_ex
    | no => rw [er] at hq; exact hq.elim
  · right
    show iKeys (tVar i) σ _ _
    refine keys_go da ek (hG _ _ _ _ _ h) e1 fun J w => fun D nD => ?_
    exact lcG_rd j w ft fe h (fun G S z σ H h => hG _ _ _ _ _ h) nD (lc_start h nD hq fun _ _ _ => trivial)
end
end MM
namespace MM
open PySem PySem.Spec PyProof.Rows L2
section
variable {X : Cx} {W : WX} {st : Option Addr} {pos : Pos}
theorem fe_lcD (i : Nat) {elt tg : Expr} {ifs : List Expr} {scope : Scope} {x d : Str} {xp : Pos} {c : MT} {m : ME} (j : Nat) (hc : X.calm = true) (hN : X.N.Nodup) (ok : BlkOk X.N X.env.scope scope [(x, j)])
    (hg : ∀ s H C cl fp, PG (Bk X scope s H C cl fp) tg (gName j)) (ht : ∀ s H C cl fp, RTs (Bk X scope s H C cl fp) W0 st ifs c) (he : ∀ s H C cl fp, RE (Bk X scope s H C cl fp) W0 st elt m)
    (hi : X.N[i]? = some d := by rfl) (hv : Vis X.env.scope d := by first | exact Or.inl rfl | exact Or.inr (Or.inl rfl) | exact Or.inr (Or.inr rfl)) (hd : (d == ("__debug__" : Str)) = false := by decide) (hcd : (d == ("__classdict__" : Str)) = false := by decide)
    (hs : ∀ x, foldedSetIterable (.Name d xp) X.env x = pure x := by intro _; rfl) : FE X W st (.ListComp elt [⟨tg, .Name d xp, ifs, 0⟩] scope pos) (eLcD i j c m) := by
  obtain ⟨tt, pt, ft⟩ := rts_uni ht
  obtain ⟨te, pe, fe⟩ := re_uni he
  have p0 := pe_lc hc hN (pi_keys (tg := tg) (pe_var (X := X) (pos := xp) hi hv hd hcd)) ok hg pt pe hs (pos := pos)
  exact ⟨fun σ H Q => tLockE (tLc (iKeys (tVar i)) (gName j) tt te [j]) σ H Q ∨ tLc (iKeys (tVar i)) (gName j) tt te [j] σ H Q,
    ⟨fun pins s σ H Q I hw => hw.elim (fun q => (pe_lock p0).run pins s σ H Q I q) fun q => p0.run pins s σ H Q I q⟩, lcD_rd i j ft fe⟩
theorem se_setLcD (k i : Nat) {elt tg : Expr} {ifs : List Expr} {scope : Scope} {x d y : Str} {xp py lp : Pos} {c : MT} {m : ME} (j : Nat) (hc : X.calm = true) (hN : X.N.Nodup) (hy : X.N[k]? = some y) (hyl : X.env.scope.names.lookup y = some .local)
    (hsw : swapsWith (.ListComp elt [⟨tg, .Name d xp, ifs, 0⟩] scope lp) (some (.Name y py)) pos.line X.env = pure true) (ok : BlkOk X.N X.env.scope scope [(x, j)])
    (hg : ∀ s H C cl fp, PG (Bk X scope s H C cl fp) tg (gName j)) (ht : ∀ s H C cl fp, RTs (Bk X scope s H C cl fp) W0 st ifs c) (he : ∀ s H C cl fp, RE (Bk X scope s H C cl fp) W0 st elt m)
    (hi : X.N[i]? = some d := by rfl) (hv : Vis X.env.scope d := by first | exact Or.inl rfl | exact Or.inr (Or.inl rfl) | exact Or.inr (Or.inr rfl)) (hd : (d == ("__debug__" : Str)) = false := by decide) (hcd : (d == ("__classdict__" : Str)) = false := by decide)
    (hs : ∀ x, foldedSetIterable (.Name d xp) X.env x = pure x := by intro _; rfl) : SE X W st (.Assign [.Name y py] (.ListComp elt [⟨tg, .Name d xp, ifs, 0⟩] scope lp) pos) (sSet k (eLcD i j c m)) := by
  obtain ⟨tt, pt, ft⟩ := rts_uni ht
  obtain ⟨te, pe, fe⟩ := re_uni he
  have p0 := ps_setLc hc hN hy hyl hsw (pi_keys (tg := tg) (pe_var (X := X) (pos := xp) hi hv hd hcd)) ok hg pt pe hs (pos := lp) (spos := pos)
  refine ⟨fun D σ H => tLockE (tLc (iKeys (tVar i)) (gName j) tt te [j]) σ H (fun v H1 => gName k v σ H1 D.nx) ∨ tLc (iKeys (tVar i)) (gName j) tt te [j] σ H (fun v H1 => gName k v σ H1 D.nx), ?_, fun H0 B Ls S z σ H D h hq => ?_⟩
  · exact ⟨fun pins s σ H D I hw => hw.elim (fun q => (ps_lock p0).run pins s σ H D I (let ⟨d, u, h1, h2, h3⟩ := q; ⟨d, u, h1, h2, fun od => h3 od⟩)) fun q => p0.run pins s σ H D I q⟩
  · unfold sSet at hq
    split at hq
    · rename_i hl
      refine lcD_rd i j ft fe H0 B Ls [] S z σ H _ h (Cs.go h hq fun y z1 H1 _ x1 hz1 hq1 v G' ow h1 => ?_)
      exact hq1 _ H1 (h1.put ow hl)
    · exact hq.elim
end
end MM
namespace MM
open PySem PySem.Spec PyProof.Rows L2
section
variable {X : Cx} {W : WX} {st : Option Addr} {pos : Pos}
/-- the turns of a dict comprehension -/
def dcT (j : Nat) (c : MT) (mk mv : ME) (S0 : List Sv) : List T → List (Key × T) → Zs → Rs Val
  | [], acc, z => .ok (.dk acc) z
  | t :: ts, acc, z => if j < S0.length then match c (S0.set j (.o (.im t))) z with
    | .ok true z => match mk (S0.set j (.o (.im t))) z with
      | .ok (.im u) z => match mv (S0.set j (.o (.im t))) z with
        | .ok (.im v) z => match u.key? with
          | some k => if acc.length < sizeLine then dcT j c mk mv S0 ts (putT acc k v) z else .no
          | none => .no
        | _ => .no
      | _ => .no
    | .ok false z => dcT j c mk mv S0 ts acc z
    | _ => .no
    else .no
def DcK (K : PySem.W.Frag) (st : Option Addr) (H0 B : Hp) (Ls : List (Option (V × Val))) (G : List Addr) (S : List Sv) (σ : L2.St) (D : Addr) (Q : VK) : Rs Val → Prop
  | .ok (.dk acc) z => ∀ H av, Stt K st H0 B Ls (D :: G) S z σ H → H D = some (.dK av) → RepK K H av acc → Q (.ref D) H
  | _ => False
structure DcP (X : Cx) (st : Option Addr) (H0 B : Hp) (Ls : List (Option (V × Val))) (G : List Addr) (S : List Sv) (σ : L2.St) (D : Addr) (Q : VK) (j : Nat) (c : MT) (mk mv : ME) (H1 : Hp) (ts : List T) (H : Hp) (z : Zs) (acc : List (Key × T)) (av : List (Key × V)) : Prop where
  s : Stt X.K st H0 B Ls (D :: G) S z σ H
  d : H D = some (.dK av)
  r : RepK X.K H av acc
  k : ∀ a o, st ≠ some a → a ≠ D → H1 a = some o → H a = some o
  q : DcK X.K st H0 B Ls G S σ D Q (dcT j c mk mv (wipS j S) ts acc z)
theorem dc_turn {j : Nat} {c : MT} {mk mv : ME} {tt : TT} {tk tv : TE}
    (fc : ∀ H0 B Ls G S z σ H Q, Stt X.K st H0 B Ls G S z σ H → Ct X W0 st σ H (c S z) (fun x z' H' => Q x H') → tt σ H Q)
    (fk : ∀ H0 B Ls G S z σ H Q, Stt X.K st H0 B Ls G S z σ H → Ct X W0 st σ H (mk S z) (fun x z' H' => ∀ v, Bor X.K (hid st H') v x → Q v H') → tk σ H Q)
    (fm : ∀ H0 B Ls G S z σ H Q, Stt X.K st H0 B Ls G S z σ H → Ct X W0 st σ H (mv S z) (fun x z' H' => ∀ v, Bor X.K (hid st H') v x → Q v H') → tv σ H Q)
    {H0 B H1 H : Hp} {Ls : List (Option (V × Val))} {G : List Addr} {S : List Sv} {σ : L2.St} {D : Addr} {Q : VK} {z : Zs} {acc : List (Key × T)} {ts : List T} {av : List (Key × V)} {t : T} {v : V}
    (P : DcP X st H0 B Ls G S σ D Q j c mk mv H1 (t :: ts) H z acc av) (r : RepT X.K H v t) :
    gName j v (wipe σ [j]) H fun σ2 H2 => wipe σ2 [j] = wipe σ [j] ∧ tt σ2 H2 fun b H3 => if b = true then tk σ2 H3 fun y H4 => tv σ2 H4 fun x H5 => ∃ kvs k, y = kV k ∧ H5 D = some (.dK kvs) ∧ kvs.length < sizeLine ∧ (∃ z acc av, DcP X st H0 B Ls G S σ D Q j c mk mv H1 ts (L2.upd H5 D (.dK (putK kvs k x))) z acc av)
      else ∃ z acc av, DcP X st H0 B Ls G S σ D Q j c mk mv H1 ts H3 z acc av := by
  have hq := P.q
  unfold dcT at hq
  split at hq
  · rename_i hj
    have hj' : j < S.length := by unfold wipS at hj; simpa using hj
    have hs := P.s.slot hj' r
    have nD : st ≠ some D := by
      obtain ⟨Gs, _, _, fr⟩ := P.s.ex
      exact P.s.nst (fr D (by simp)).1
    refine ⟨by simp [wipe], ?_⟩
    show tt ((σ.set j none).set j (some v)) H _
    unfold wipS at hq
    refine fc _ _ _ _ _ _ _ _ _ hs ?_
    cases ec : c ((S.set j .un).set j (.o (.im t))) z with
    | no => rw [ec] at hq; exact hq.elim
    | ex d z1 => rw [ec] at hq; exact hq.elim
    | ok b z1 =>
      rw [ec] at hq
      intro H3 x3 hz3
      have s3 := P.s.grow x3 hz3
      have d3 := x3.k D _ nD P.d
      have r3 := P.r.mono (x3.le P.s.zr)
      cases b with
      | false => exact iteF ⟨z1, acc, av, s3, d3, r3, fun a o h1 h2 h3 => x3.k a o h1 (P.k a o h1 h2 h3), hq⟩
      | true =>
        refine iteT ?_
        refine fk _ _ _ _ _ _ _ _ _ (hs.grow x3 hz3) ?_
        dsimp only at hq
        cases em : mk ((S.set j .un).set j (.o (.im t))) z1 with
        | no => rw [em] at hq; exact hq.elim
        | ex d z2 => rw [em] at hq; exact hq.elim
        | ok y z2 =>
          rw [em] at hq
          intro H4 x4 hz4 w hw
          cases y with
          | im u =>
            dsimp only at hq
            refine fm _ _ _ _ _ _ _ _ _ ((hs.grow x3 hz3).grow x4 hz4) ?_
            cases en : mv ((S.set j .un).set j (.o (.im t))) z2 with
            | no => rw [en] at hq; exact hq.elim
            | ex d z3 => rw [en] at hq; exact hq.elim
            | ok y2 z3 =>
              rw [en] at hq
              intro H5 x5 hz5 w2 hw2
              cases y2 with
              | im v2 =>
                dsimp only at hq
                split at hq
                · rename_i k ek
                  split at hq
                  · rename_i hl
                    have s4 := s3.grow x4 hz4
                    have d4 := x4.k D _ nD d3
                    have r4 := r3.mono (x4.le s3.zr)
                    have s5 := s4.grow x5 hz5
                    have d5 := x5.k D _ nD d4
                    have r5 := r4.mono (x5.le s4.zr)
                    have hlen := congrArg List.length r5.1
                    rw [List.length_map, List.length_map] at hlen
                    cases hw with
                    | im hw =>
                      cases hw2 with
                      | im hw2 =>
                        refine ⟨av, k, rep_key hw ek, d5, by rw [hlen]; exact hl, z3, putT acc k v2, putK av k w2, s5.chgG d5 True.intro True.intro, upd_same, repK_put ((repT_hid hw2).mono (Le.upd_dK d5)) (r5.mono (Le.upd_dK d5)), fun a o h1 h2 h3 => ?_, hq⟩
                        rw [upd_ne h2]
                        exact x5.k a o h1 (x4.k a o h1 (x3.k a o h1 (P.k a o h1 h2 h3)))
                  · exact hq.elim
                · exact hq.elim
              | _ => exact hq.elim
          | _ => exact hq.elim
  · exact hq.elim
theorem dcT_ok {j : Nat} {c : MT} {mk mv : ME} {S0 : List Sv} : ∀ {ts : List T} {acc : List (Key × T)} {z : Zs} {r : Rs Val}, dcT j c mk mv S0 ts acc z = r → (∃ us z', r = .ok (.dk us) z') ∨ r = .no
  | [], acc, z, r, h => by cases h; exact .inl ⟨_, _, rfl⟩
  | t :: ts, acc, z, r, h => by
    unfold dcT at h
    split at h
    · split at h
      · split at h
        · split at h
          · split at h
            · split at h
              · exact dcT_ok h
              · exact .inr h.symm
            · exact .inr h.symm
          · exact .inr h.symm
        · exact .inr h.symm
      · exact dcT_ok h
      · exact .inr h.symm
    · exact .inr h.symm
theorem dc_it {J : It} {n : Nat} {G : Hp → Prop} {Y : Nat → Hp → V → Hp → Prop} (w : Walk J n G Y) {g : TG} {tt : TT} {tk tv : TE} {vs : List Nat} {σ : L2.St} {H1 : Hp} {D : Addr} {Qd : Hp → Prop} (Pv : Nat → Hp → Prop) (h0 : Pv 0 (upd H1 D (.dK []))) (hG : ∀ i H, i ≤ n → Pv i H → G H)
    (hs : ∀ i x H H', i < n → Pv i H → Y i H x H' → g x (wipe σ vs) H' fun σ2 H2 => wipe σ2 vs = wipe σ vs ∧ tt σ2 H2 fun b H3 =>
      if b = true then tk σ2 H3 fun y H4 => tv σ2 H4 fun z H5 => ∃ kvs k, y = kV k ∧ H5 D = some (.dK kvs) ∧ kvs.length < sizeLine ∧ Pv (i + 1) (upd H5 D (.dK (putK kvs k z))) else Pv (i + 1) H3) (hd : ∀ H, Pv n H → Qd H) :
    ∃ W : Nat → Nat → Hp → Prop, (∃ m, W 0 m (upd H1 D (.dK []))) ∧ ∀ i m H, W i m H →
      (J.stop i H ∧ Qd H) ∨ (J.go i H ∧ ∃ Nx : Hp → Prop, (∀ H', Nx H' → ∃ m', m' < m ∧ W (i + 1) m' H') ∧ ∀ x H', J.yld i H x H' → g x (wipe σ vs) H' fun σ2 H2 => wipe σ2 vs = wipe σ vs ∧ tt σ2 H2 fun b H3 =>
        if b = true then tk σ2 H3 fun y H4 => tv σ2 H4 fun z H5 => ∃ kvs k, y = kV k ∧ H5 D = some (.dK kvs) ∧ kvs.length < sizeLine ∧ Nx (upd H5 D (.dK (putK kvs k z))) else Nx H3) := by
  refine ⟨fun i m H => m = n - i ∧ i ≤ n ∧ Pv i H, ⟨n, by simp, Nat.zero_le _, h0⟩, ?_⟩
  rintro i m H ⟨rfl, hi, p⟩
  have q := hG i H hi p
  by_cases hlt : i < n
  · refine .inr ⟨w.goes i H hlt q, Pv (i + 1), fun H' p' => ⟨n - (i + 1), by omega, rfl, hlt, p'⟩, fun x H' y => hs i x H H' hlt p (w.yields i H x H' hlt q y)⟩
  · have e : i = n := by omega
    subst e
    exact .inl ⟨w.stops H q, hd H p⟩
theorem dc_start {H0 B H1 : Hp} {Ls : List (Option (V × Val))} {G : List Addr} {S : List Sv} {σ : L2.St} {Q : VK} {z1 : Zs} {D : Addr} {j : Nat} {c : MT} {mk mv : ME} {ts : List T} (h1 : Stt X.K st H0 B Ls G S z1 σ H1) (nD : H1 D = none)
    (hq : Ct X W st σ H1 (dcT j c mk mv (wipS j S) ts [] z1) (fun x z' H' => ∀ v G', Own X.K H' v x G' → Stt X.K st H0 B Ls (G' ++ G) S z' σ H' → Q v H')) :
    DcK X.K st H0 B Ls G S σ D (fun v H' => (∀ a o, st ≠ some a → a ≠ D → H1 a = some o → H' a = some o) → Q v H') (dcT j c mk mv (wipS j S) ts [] z1) := by
  cases e : dcT j c mk mv (wipS j S) ts [] z1 with
  | ok x z =>
    rcases dcT_ok e with ⟨us, z', q⟩ | q
    · cases q
      rw [e] at hq
      exact fun H av hs hd r k => hq H (SameX.two h1 hs nD k) hs.zr _ [D] (.dk hd r) (by simpa using hs)
    · cases q
  | ex d z => rcases dcT_ok e with ⟨us, z', q⟩ | q <;> cases q
  | no => rw [e] at hq; exact hq
theorem dcG_rd {J : It} {ts : List T} {GH : Hp → Prop} {c : MT} {mk mv : ME} {tt : TT} {tk tv : TE} (j : Nat) (w : Walk J ts.length GH (YT X.K ts))
    (ft : ∀ H0 B Ls G S z σ H Q, Stt X.K st H0 B Ls G S z σ H → Ct X W0 st σ H (c S z) (fun x z' H' => Q x H') → tt σ H Q)
    (fk : ∀ H0 B Ls G S z σ H Q, Stt X.K st H0 B Ls G S z σ H → Ct X W0 st σ H (mk S z) (fun x z' H' => ∀ v, Bor X.K (hid st H') v x → Q v H') → tk σ H Q)
    (fe : ∀ H0 B Ls G S z σ H Q, Stt X.K st H0 B Ls G S z σ H → Ct X W0 st σ H (mv S z) (fun x z' H' => ∀ v, Bor X.K (hid st H') v x → Q v H') → tv σ H Q)
    {H0 B H1 : Hp} {Ls : List (Option (V × Val))} {G : List Addr} {S : List Sv} {σ : L2.St} {Q : VK} {z1 : Zs} (h1 : Stt X.K st H0 B Ls G S z1 σ H1) (hG : ∀ G S z σ H, Stt X.K st H0 B Ls G S z σ H → GH H) {D : Addr} (nD : H1 D = none)
    (hq1 : DcK X.K st H0 B Ls G S σ D (fun v H' => (∀ a o, st ≠ some a → a ≠ D → H1 a = some o → H' a = some o) → Q v H') (dcT j c mk mv (wipS j S) ts [] z1)) :
    ∃ W : Nat → Nat → Hp → Prop, (∃ m, W 0 m (L2.upd H1 D (.dK []))) ∧ ∀ i m H, W i m H →
      (J.stop i H ∧ Q (.ref D) H) ∨ (J.go i H ∧ ∃ Nx : Hp → Prop, (∀ H', Nx H' → ∃ m', m' < m ∧ W (i + 1) m' H') ∧ ∀ x H', J.yld i H x H' → gName j x (wipe σ [j]) H' fun σ2 H2 => wipe σ2 [j] = wipe σ [j] ∧ tt σ2 H2 fun b H3 =>
        if b = true then tk σ2 H3 fun y H4 => tv σ2 H4 fun z H5 => ∃ kvs k, y = kV k ∧ H5 D = some (.dK kvs) ∧ kvs.length < sizeLine ∧ Nx (upd H5 D (.dK (putK kvs k z))) else Nx H3) := by
  have hz1 := h1.zr
  have sn : Same H1 (L2.upd H1 D (.dK [])) := Same.upd_new nD
  refine dc_it w (fun i H => ∃ z acc av, DcP X st H0 B Ls G S σ D (fun v H' => (∀ a o, st ≠ some a → a ≠ D → H1 a = some o → H' a = some o) → Q v H') j c mk mv H1 (ts.drop i) H z acc av)
    ⟨z1, [], [], h1.add (G' := [D]) (.of_same sn) (hz1.new sn) (by simp) (fun a ha => by simp at ha; subst ha; exact nD) (fun a ha => by simp at ha; subst ha; exact ⟨_, upd_same, True.intro⟩), upd_same, ⟨rfl, .nil⟩, fun a o _ _ e => sn a o e, hq1⟩
    (fun i H _ ⟨_, _, _, P⟩ => hG _ _ _ _ _ P.s) (fun i x H H' hi ⟨z2, acc, av, P⟩ ⟨e, t, et, rt⟩ => ?_) (fun H ⟨z2, acc, av, P⟩ => ?_)
  · subst e
    obtain ⟨hl, e2⟩ := List.getElem?_eq_some_iff.mp et
    rw [List.drop_eq_getElem_cons hl, e2] at P
    exact dc_turn ft fk fe P rt
  · rw [List.drop_length] at P
    have hq := P.q
    exact hq H av P.s P.d P.r P.k
@[simp] def eDcD (i j : Nat) (c : MT) (mk mv : ME) : ME := fun S z => match S[i]? with
  | some (.o x) => match keysV x with
    | some ts => dcT j c mk mv (wipS j (S.set i (.lk x))) ts [] z
    | none => .no
  | some (.b x) => match keysV x with
    | some ts => dcT j c mk mv (wipS j S) ts [] z
    | none => .no
  | _ => .no
theorem eDcD_cases {i j : Nat} {c : MT} {mk mv : ME} {S : List Sv} {z : Zs} (P : Rs Val → Prop) (h : P (eDcD i j c mk mv S z)) (no : ¬ P .no) : ∃ x ts S', keysV x = some ts ∧ ((S[i]? = some (.o x) ∧ S' = S.set i (.lk x)) ∨ (S[i]? = some (.b x) ∧ S' = S)) ∧ P (dcT j c mk mv (wipS j S') ts [] z) := by
  unfold eDcD at h
  split at h
  · rename_i x e
    split at h
    · rename_i ts ek; exact ⟨x, ts, _, ek, .inl ⟨e, rfl⟩, h⟩
    · exact absurd h no
  · rename_i x e
    split at h
    · rename_i ts ek; exact ⟨x, ts, _, ek, .inr ⟨e, rfl⟩, h⟩
    · exact absurd h no
  · exact absurd h no
theorem dcD_rd {c : MT} {mk mv : ME} {tt : TT} {tk tv : TE} (i j : Nat)
    (ft : ∀ H0 B Ls G S z σ H Q, Stt X.K st H0 B Ls G S z σ H → Ct X W0 st σ H (c S z) (fun x z' H' => Q x H') → tt σ H Q)
    (fk : ∀ H0 B Ls G S z σ H Q, Stt X.K st H0 B Ls G S z σ H → Ct X W0 st σ H (mk S z) (fun x z' H' => ∀ v, Bor X.K (hid st H') v x → Q v H') → tk σ H Q)
    (fe : ∀ H0 B Ls G S z σ H Q, Stt X.K st H0 B Ls G S z σ H → Ct X W0 st σ H (mv S z) (fun x z' H' => ∀ v, Bor X.K (hid st H') v x → Q v H') → tv σ H Q) :
    ∀ H0 B Ls G S z σ H Q, Stt X.K st H0 B Ls G S z σ H → Ct X W st σ H (eDcD i j c mk mv S z) (fun x z' H' => ∀ v G', Own X.K H' v x G' → Stt X.K st H0 B Ls (G' ++ G) S z' σ H' → Q v H') → tLockE (tDc (iKeys (tVar i)) (gName j) tt tk tv [j]) σ H Q ∨ tDc (iKeys (tVar i)) (gName j) tt tk tv [j] σ H Q := by
  intro H0 B Ls G S z σ H Q h hq
  obtain ⟨x, ts, S', ek, eS, hq⟩ := eDcD_cases (fun r => Ct X W st σ H r (fun x z' H' => ∀ v G', Own X.K H' v x G' → Stt X.K st H0 B Ls (G' ++ G) S z' σ H' → Q v H')) hq id
  obtain ⟨d, u, e1, da, hh⟩ := h.openD eS ek
  rcases hh with ⟨hd, hh⟩ | ⟨od, rfl, hG⟩
  · left
    refine ⟨d, u, hd, da.mut, fun od => ?_⟩
    obtain ⟨H0', B', Ls', hL, back, at_⟩ := hh od
    show iKeys (tVar i) σ _ _
    refine keys_go da ek upd_same e1 fun J w => fun D nD => ?_
    have nD0 : H D = none := by
      by_cases c : D = d
      · rw [c, upd_same] at nD; cases nD
      · rwa [upd_ne c] at nD
    refine dcG_rd (Q := fun v H' => H' d = some (.frz od u) ∧ Q v (upd H' d u)) j w ft fk fe hL at_ nD ?_
    cases er : dcT j c mk mv (wipS j S') ts [] z with
    | ok x z' =>
      rcases dcT_ok er with ⟨us, z2, q⟩ | q
      · cases q
        rw [er] at hq
        intro H' av hs hD r k
        obtain ⟨hd', hs'⟩ := back _ _ _ _ hs
        have nDd : D ≠ d := fun c => by rw [c, upd_same] at nD; cases nD
        have hD' : upd H' d u D = some (.dK av) := by rw [upd_ne nDd]; exact hD
        have le : Le H' (upd H' d u) := by
          refine Le.upd hd' (fun xs c => by cases c) (fun ob xs c => ?_) fun ob xs c => ?_
          · cases c; exact notDk_tup _ da.k
          · cases c; exact notDk_lst _ da.k
        refine ⟨hd', hq (upd H' d u) (SameX.two h hs' nD0 fun a o n1 n2 e => ?_) hs'.zr _ [D] (.dk hD' (r.mono le)) (by simpa using hs')⟩
        by_cases c : a = d
        · subst c
          rw [hd] at e; cases e
          rw [upd_same]
        · rw [upd_ne c]
          exact k a o n1 n2 (by rw [upd_ne c]; exact e)
      · cases q
    | ex d z => rcases dcT_ok er with ⟨us, z', q⟩ | q <;> cases q
    | no => rw [er] at hq; exact hq.elim
  · right
    show iKeys (tVar i) σ _ _
    refine keys_go da ek (hG _ _ _ _ _ h) e1 fun J w => fun D nD => ?_
    exact dcG_rd j w ft fk fe h (fun G S z σ H h => hG _ _ _ _ _ h) nD (dc_start h nD hq)
theorem fe_dcD (i : Nat) {ek ev tg : Expr} {ifs : List Expr} {scope : Scope} {x d : Str} {xp : Pos} {c : MT} {mk mv : ME} (j : Nat) (hc : X.calm = true) (hN : X.N.Nodup) (ok : BlkOk X.N X.env.scope scope [(x, j)])
    (hg : ∀ s H C cl fp, PG (Bk X scope s H C cl fp) tg (gName j)) (ht : ∀ s H C cl fp, RTs (Bk X scope s H C cl fp) W0 st ifs c) (hk : ∀ s H C cl fp, RE (Bk X scope s H C cl fp) W0 st ek mk) (he : ∀ s H C cl fp, RE (Bk X scope s H C cl fp) W0 st ev mv)
    (hi : X.N[i]? = some d := by rfl) (hv : Vis X.env.scope d := by first | exact Or.inl rfl | exact Or.inr (Or.inl rfl) | exact Or.inr (Or.inr rfl)) (hd : (d == ("__debug__" : Str)) = false := by decide) (hcd : (d == ("__classdict__" : Str)) = false := by decide)
    (hs : ∀ x, foldedSetIterable (.Name d xp) X.env x = pure x := by intro _; rfl) : FE X W st (.DictComp ek ev [⟨tg, .Name d xp, ifs, 0⟩] scope pos) (eDcD i j c mk mv) := by
  obtain ⟨tt, pt, ft⟩ := rts_uni ht
  obtain ⟨tk, pk, fk⟩ := re_uni hk
  obtain ⟨te, pe, fe⟩ := re_uni he
  have p0 := pe_dc hc hN (pi_keys (tg := tg) (pe_var (X := X) (pos := xp) hi hv hd hcd)) ok hg pt pk pe hs (pos := pos)
  exact ⟨fun σ H Q => tLockE (tDc (iKeys (tVar i)) (gName j) tt tk te [j]) σ H Q ∨ tDc (iKeys (tVar i)) (gName j) tt tk te [j] σ H Q,
    ⟨fun pins s σ H Q I hw => hw.elim (fun q => (pe_lock p0).run pins s σ H Q I q) fun q => p0.run pins s σ H Q I q⟩, dcD_rd i j ft fk fe⟩
end
end MM
namespace MM
open PySem PySem.Spec PyProof.Rows L2
section
variable {X : Cx} {W : WX} {st : Option Addr} {pos : Pos}
/-- if d.setdefault(k, v) != e: .. -/
@[simp] def sIfSetd (i : Nat) (mk mv mf : ME) (a b : MS) : MS := fun S z => match S[i]? with
  | some (.o (.dk kvs)) => (mk S z).go S fun k z => (mv S z).go S fun v z => match k, v with
    | .im kt, .im t => match kt.key? with
      | some kk => if kvs.length < sizeLine then match look kvs kk with
        | some u => (mf S z).go S fun y z => match oEq true (.im u) y with
          | some (.im (.bl true)) => a S z
          | some (.im (.bl false)) => b S z
          | _ => .no
        | none => (mf (S.set i (.o (.dk (putT kvs kk t)))) z).go (S.set i (.o (.dk (putT kvs kk t)))) fun y z => match oEq true (.im t) y with
          | some (.im (.bl true)) => a (S.set i (.o (.dk (putT kvs kk t)))) z
          | some (.im (.bl false)) => b (S.set i (.o (.dk (putT kvs kk t)))) z
          | _ => .no
        else .no
      | none => .no
    | _, _ => .no
  | _ => .no
theorem se_ifSetd (i : Nat) {x : Str} {xp apos cpos qpos : Pos} {k v f : Expr} {a b : List Stmt} {mk mv mf : ME} {ma mb : MS} (hu : X.A.units + 64 < cLine) (hk : RE X W st k mk) (he : RE X W st v mv) (hf : RE X W st f mf) (ha : SEs X W st a ma) (hb : SEs X W st b mb)
    (m2 : M2 X (.Name x xp) "setdefault" apos k v cpos)
    (hN : X.N[i]? = some x := by rfl) (hv : Vis X.env.scope x := by first | exact Or.inl rfl | exact Or.inr (Or.inl rfl) | exact Or.inr (Or.inr rfl)) (hd : (x == ("__debug__" : Str)) = false := by decide) (hcd : (x == ("__classdict__" : Str)) = false := by decide)
    (hm : behindInMarks .NotEq f = false := by first | exact nomark _ | rfl) : SE X W st (.If (.Compare (.Call (.Attribute (.Name x xp) "setdefault" apos) [k, v] [] cpos) [.NotEq] [f] qpos) a b pos) (sIfSetd i mk mv mf ma mb) := by
  obtain ⟨tk, pk, fk⟩ := hk
  obtain ⟨tv, pv, fv⟩ := he
  obtain ⟨tf, pf, ff⟩ := hf
  obtain ⟨ta, pa, fa⟩ := ha
  obtain ⟨tb, pb, fb⟩ := hb
  refine ⟨_, ps_if (pt_cmpR (op_neW hu) (pe_dsetd (pe_var hN hv hd hcd) pk pv m2) pf hm) pa pb, fun H0 B Ls S z σ H D h hq => ?_⟩
  unfold sIfSetd at hq
  split at hq
  · rename_i kvs es
    obtain ⟨l, ys, e1, h1, h2, _⟩ := get_dk h es
    refine ⟨.ref l, e1, l, rfl, .inl ⟨ys, .inl h1⟩, ?_⟩
    refine fk H0 B Ls [] S z σ H _ h (Cs.go h hq fun k z1 H1 _ x1 hz1 hq1 vk hvk => ?_)
    have g1 := h.grow x1 hz1
    refine fv H0 B Ls [] S z1 σ H1 _ g1 (Cs.go g1 hq1 fun v z2 H2 _ x2 hz2 hq2 vv hvv => ?_)
    have g2 := g1.grow x2 hz2
    have hvk := hvk.mono x2.hid
    split at hq2
    · rename_i kt t
      split at hq2
      · rename_i kk ek
        split at hq2
        · rename_i hl
          obtain ⟨l', ys', e1', h3, h4, own⟩ := get_dk g2 es
          rw [e1] at e1'; cases e1'
          have hlen := congrArg List.length h4.1
          rw [List.length_map, List.length_map] at hlen
          have look_ := repK_look kk h4
          cases hvk with
          | im hvk =>
            cases hvv with
            | im hvv =>
              have fin : ∀ {S' : List Sv} {H' : Hp} {w : V} {u : T}, Stt X.K st H0 B Ls [] S' z2 σ H' → Bor X.K (hid st H') w (.im u) → Cs X W st H0 B Ls D ((mf S' z2).go S' fun y z => match oEq true (.im u) y with
                  | some (.im (.bl true)) => ma S' z
                  | some (.im (.bl false)) => mb S' z
                  | _ => .no) → tf σ H' (fun y H2 => rEqW X.K true w y H2 (fun x H3 => ∃ b, x = .bl b ∧ (if b = true then ta D σ H3 else tb D σ H3))) := fun {S' H' w u} g hw hq => by
                refine ff H0 B Ls [] S' z2 σ H' _ g (Cs.go g hq fun y z3 H3 _ x3 hz3 hq3 vy hvy => ?_)
                have g3 := g.grow x3 hz3
                cases eo : oEq true (.im u) y with
                | none => rw [eo] at hq3; exact hq3.elim
                | some r =>
                  rw [eo] at hq3
                  refine op2_eq (X := X) (st := st) H3 w vy _ _ r _ (hw.mono x3.hid) hvy eo fun v' H' G' s ow nd fr => ?_
                  have g4 := g3.grow (.of_same s) (g3.zr.new s)
                  cases ow with
                  | im rr =>
                    cases rr with
                    | bl bb =>
                      refine ⟨bb, rfl, ?_⟩
                      cases bb with
                      | true => exact iteT (fa H0 B Ls S' z3 σ H' D g4 hq3)
                      | false => exact iteF (fb H0 B Ls S' z3 σ H' D g4 hq3)
                    | _ => exact hq3.elim
                  | _ => exact hq3.elim
              refine ⟨ys', kk, h3, rep_key hvk ek, by rw [hlen]; exact hl, fun v hv => ?_, fun hn => ?_⟩
              · cases el : look kvs kk with
                | none => rw [el] at look_; rw [look_] at hv; cases hv
                | some u =>
                  rw [el] at look_ hq2
                  obtain ⟨v', q1, q2⟩ := look_
                  rw [hv] at q1; cases q1
                  exact fin g2 (.im (q2.mono g2.zr.le)) hq2
              · cases el : look kvs kk with
                | some u => rw [el] at look_; obtain ⟨v', q1, q2⟩ := look_; rw [hn] at q1; cases q1
                | none =>
                  rw [el] at hq2
                  have le : Le H2 (L2.upd H2 l (.dK (putK ys' kk vv))) := Le.upd_dK h3
                  have g3 := g2.chg (o := .dK (putK ys' kk vv)) es own h3 True.intro True.intro (.dk upd_same (repK_put ((repT_hid hvv).mono le) (h4.mono le)))
                  exact fin g3 (.im (((repT_hid hvv).mono le).mono g3.zr.le)) hq2
        · exact hq2.elim
      · exact hq2.elim
    · exact hq2.elim
  · exact hq.elim
end
end MM
namespace MM
open PySem PySem.Spec PyProof.Rows L2
section
variable {P : Program} {w : World} {K : PySem.W.Frag} {mg : Str → Option Value} {base : Heap}
section
variable {x qual : Str} {st : Stmt} {f : Addr} {fd : FuncData} {N ps : List Str} {k : Nat}
/-- a def with defaults -/
theorem fnPD {dvs : List V} {kws : List (Str × V)} (F : FunD K x qual (defArgs st) (defBody st) (defScope st) dvs kws f fd) (S : FnScope N ps (defScope st)) (m : MS)
    (hb : ∀ (cdv : Value) (A : Around) (outer : List Env) (s : Shared) (H : Hp) (E : XK), Room k (A.deeper (envOfC qual (defScope st) s.heap.objs.size f cdv)) →
      SEs (cxOf (L2.CX P w) P w K mg base N qual (defScope st) f cdv A outer s H E) (fun cls d _ H => E cls d H) none (defBody st) m) :
    FnOk P w K mg base (L2.CX P w) (k + 1) f fd ps (spP K mg (runP N.length ps.length m)) := by
  refine F.ok S (fun vs H Q E h => ?_) (fun cdv A outer s H vs Q E hr h => ?_)
  · obtain ⟨xs, hv, hm⟩ := h
    by_cases e : xs.length = ps.length
    · rw [hv.length]; exact e
    · unfold runP at hm
      rw [if_neg e] at hm
      exact hm.elim
  · obtain ⟨xs, hv, hm⟩ := h
    by_cases e : xs.length = ps.length
    · unfold runP at hm
      rw [if_pos e] at hm
      obtain ⟨t, p, g⟩ := hb cdv A outer s H E hr
      refine ⟨t, p, ?_⟩
      have en : (List.replicate (N.length - vs.length) (none : Option V)) = List.replicate (N.length - ps.length) none := by rw [hv.length, e]
      have stt : Stt K none H (fun _ => none) (List.replicate (xs.length + (N.length - ps.length)) none) [] (xs.map Sv.b ++ List.replicate (N.length - ps.length) .un) z0 (start N vs) H := by
        refine ⟨.refl _ _, fun a e => (by cases e), fun a o e => (by cases e), ⟨z0, fun a e => (by cases e)⟩, fun a e => (by cases e), fun a e => (by cases e), fun j v x e => ?_, [], ?_, List.nodup_nil, fun a e => (by cases e)⟩
        · rw [List.getElem?_replicate] at e
          split at e <;> cases e
        · unfold L2.start
          rw [en, hid_none]
          exact sls_start hv
      refine g H (fun _ => none) _ _ z0 (start N vs) H _ stt (cs_end ?_)
      revert hm
      generalize endR (m (xs.map Sv.b ++ List.replicate (N.length - ps.length) .un) z0) = r
      intro hm
      cases r with
      | ok y z => exact fun v H' G sx _ ow nd fr => hm v H' G sx.same ow nd fr
      | ex c z => exact fun cv d H' sx _ xr => hm cv d H' sx.same xr
      | no => exact hm
    · unfold runP at hm
      rw [if_neg e] at hm
      exact hm.elim
end
end
section
variable {X : Cx} {W : WX} {st : Option Addr} {pos : Pos}
/-- list(d) -/
@[simp] def oListD : List Val → Option Val
  | [.dk kvs] => if (kvs.all fun kv => kOk kv.1) = true then some (.il (kvs.map fun kv => kyT kv.1)) else none
  | _ => none
theorem fn_listD : Fn X st (fun xs H Q => ∃ (a : Addr) (kvs : List (Key × V)), xs = [.ref a] ∧ Rd H a (.dK kvs) ∧ ∀ p, H p = none → Q (.ref p) (upd H p (.lst (kvs.map fun kv => kV kv.1)))) oListD := by
  intro H vs xs y Q hv e q
  unfold oListD at e
  split at e
  · rename_i kvs
    split at e
    · rename_i ok
      cases e
      obtain ⟨v, rfl, h⟩ := hv.one
      cases h with
      | @dk a xs _ h1 h2 =>
        have rd : Rd H a (.dK xs) := by
          rcases h1 with h1 | ⟨o, h1⟩
          · exact .inl (not_hid h1)
          · exact .inr ⟨o, not_hid h1⟩
        refine ⟨a, xs, rfl, rd, fun p np => q _ _ [p] (Same.upd_new np) (.il upd_same ?_) (by simp) (fun a ha => by simp at ha; subst ha; exact np)⟩
        have e1 : (xs.map fun kv => kV kv.1) = (kvs.map (·.1)).map kV := by rw [← h2.1, List.map_map]; rfl
        have e2 : (kvs.map fun kv => kyT kv.1) = (kvs.map (·.1)).map kyT := by rw [List.map_map]; rfl
        rw [e1, e2]
        exact kts_rep (List.all_eq_true.mpr fun k hk => by
          obtain ⟨p, hp, rfl⟩ := List.mem_map.mp hk
          exact List.all_eq_true.mp ok p hp)
    · cases e
  · cases e
@[simp] def eListD := eFn oListD
theorem fe_listD {p : Pos} {e : Expr} {ms : MAs} (hc : X.calm = true) (hg : Gl X "list") (hm : X.mg "list" = none) (ha : RA X W st [e] ms) (he : starEach [e] X.env = (false, eval e X.env) :: starEach [] X.env := by rfl) : FE X W st (.Call (.Name "list" p) [e] [] pos) (eListD ms) := fe_callTy (call_listD hc) fn_listD hg hm (by decide +kernel) ha (he := he)
end
end MM
namespace MM
open PySem PySem.Spec PyProof.Rows L2
section
variable {P : Program} {w : World} {K : PySem.W.Frag} {mg : Str → Option Value} {base : Heap} {x qual : Str} {st : Stmt} {f : Addr} {fd : FuncData} {N ps : List Str} {k : Nat}
/-- a def's body keeps its promise -/
theorem fn_body (S : FnScope N ps (defScope st)) (m : MS) {cdv : Value}
    (hb : ∀ (A : Around) (outer : List Env) (s : Shared) (H : Hp) (E : XK), Room k (A.deeper (envOfC qual (defScope st) s.heap.objs.size f cdv)) →
      SEs (cxOf (L2.CX P w) P w K mg base N qual (defScope st) f cdv A outer s H E) (fun cls d _ H => E cls d H) none (defBody st) m)
    (A : Around) (outer : List Env) (s : Shared) (H : Hp) (vs : List V) (Q : VK) (E : XK) (hr : Room k (A.deeper (envOfC qual (defScope st) s.heap.objs.size f cdv))) (h : spP K mg (runP N.length ps.length m) vs H Q E) :
    ∃ t, PSs (cxOf (L2.CX P w) P w K mg base N qual (defScope st) f cdv A outer s H E) (defBody st) t ∧ t { nx := fun _ H' => Q .non H', rt := Q } (start N vs) H := by
  obtain ⟨xs, hv, hm⟩ := h
  by_cases e : xs.length = ps.length
  · unfold runP at hm
    rw [if_pos e] at hm
    obtain ⟨t, p, g⟩ := hb A outer s H E hr
    refine ⟨t, p, ?_⟩
    have en : (List.replicate (N.length - vs.length) (none : Option V)) = List.replicate (N.length - ps.length) none := by rw [hv.length, e]
    have stt : Stt K none H (fun _ => none) (List.replicate (xs.length + (N.length - ps.length)) none) [] (xs.map Sv.b ++ List.replicate (N.length - ps.length) .un) z0 (start N vs) H := by
      refine ⟨.refl _ _, fun a e => (by cases e), fun a o e => (by cases e), ⟨z0, fun a e => (by cases e)⟩, fun a e => (by cases e), fun a e => (by cases e), fun j v x e => ?_, [], ?_, List.nodup_nil, fun a e => (by cases e)⟩
      · rw [List.getElem?_replicate] at e
        split at e <;> cases e
      · unfold L2.start
        rw [en, hid_none]
        exact sls_start hv
    refine g H (fun _ => none) _ _ z0 (start N vs) H _ stt (cs_end ?_)
    revert hm
    generalize endR (m (xs.map Sv.b ++ List.replicate (N.length - ps.length) .un) z0) = r
    intro hm
    cases r with
    | ok y z => exact fun v H' G sx _ ow nd fr => hm v H' G sx.same ow nd fr
    | ex c z => exact fun cv d H' sx _ xr => hm cv d H' sx.same xr
    | no => exact hm
  · unfold runP at hm
    rw [if_neg e] at hm
    exact hm.elim

def ims? : List Val → Option (List T)
  | [] => some []
  | .im t :: xs => (ims? xs).map (t :: ·)
  | _ :: _ => none
theorem ims_im (ts : List T) : ims? (ts.map .im) = some ts := by
  induction ts with
  | nil => rfl
  | cons t ts ih => simp [ims?, ih]
theorem borS_ims {H : Hp} : ∀ {vs : List V} {xs : List Val} {ts : List T}, BorS K H vs xs → ims? xs = some ts → RepTs K H vs ts
  | _, _, ts, .nil, e => by cases e; exact .nil
  | _, _, ts, .cons (l₂ := xs) h t, e => by
    cases h with
    | im h =>
      simp only [ims?] at e
      cases e2 : ims? xs with
      | none => rw [e2] at e; cases e
      | some us => rw [e2] at e; cases e; exact .cons h (borS_ims t e2)
    | _ => cases e
/-- f(a, .., *more): what is left over as a tuple -/
def starF (n : Nat) (m : MF) : MF := fun xs => match ims? (xs.drop n) with
  | some ts => if n ≤ xs.length ∧ ts.length ≤ sizeLine then m (xs.take n ++ [.im (.tup ts)]) else .no
  | none => .no
theorem BorS.take {H : Hp} : ∀ {vs : List V} {xs : List Val} (n : Nat), BorS K H vs xs → BorS K H (vs.take n) (xs.take n)
  | _, _, 0, _ => by rw [List.take_zero, List.take_zero]; exact Paired.nil
  | _, _, n + 1, .nil => by rw [List.take_nil, List.take_nil]; exact Paired.nil
  | _, _, n + 1, .cons h t => by rw [List.take_succ_cons, List.take_succ_cons]; exact Paired.cons h (BorS.take n t)
theorem BorS.drop {H : Hp} : ∀ {vs : List V} {xs : List Val} (n : Nat), BorS K H vs xs → BorS K H (vs.drop n) (xs.drop n)
  | _, _, 0, h => h
  | _, _, n + 1, .nil => by rw [List.drop_nil, List.drop_nil]; exact Paired.nil
  | _, _, n + 1, .cons h t => by rw [List.drop_succ_cons, List.drop_succ_cons]; exact BorS.drop n t
theorem fnS {pv : Str} {oc dV kV doc pm cdv ct : Value} {od an : Option Addr} {osl : Array (Option Value)} {name : Str} {params : Arguments} (lk : K.lookup f = some ⟨oc, od, .func (PySem.W.fnOf name qual params (defBody st) (defScope st) dV kV doc pm an cdv ct), osl⟩) (hcd : PySem.W.codeIn K cdv qual = true) (S : FnScope N (ps ++ [pv]) (defScope st))
    (hb : ∀ us rest : List Value, us.length = ps.length → bindArgs (PySem.W.fnOf name qual params (defBody st) (defScope st) dV kV doc pm an cdv ct) ⟨us ++ rest, []⟩ = (newTuple rest >>= fun t => pure (ps.zip us ++ [(pv, t)])))
    (m : MS) (body : ∀ (A : Around) (outer : List Env) (s : Shared) (H : Hp) (E : XK), Room k (A.deeper (envOfC qual (defScope st) s.heap.objs.size f cdv)) →
      SEs (cxOf (L2.CX P w) P w K mg base N qual (defScope st) f cdv A outer s H E) (fun cls d _ H => E cls d H) none (defBody st) m) :
    FnR P w K mg base (L2.CX P w) (k + 1) f (spP K mg (starF ps.length (runP N.length (ps.length + 1) m))) := by
  have hl : (ps ++ [pv]).length = ps.length + 1 := by simp
  refine (StX.fn_star (sp := spP K mg (runP N.length (ps.length + 1) m)) lk hcd S StX.cxUp hb fun A outer s H vs Q E hr h => fn_body S m body A outer s H vs Q E hr (by rw [hl]; exact h)).imp fun vs H Q E h => ?_
  obtain ⟨xs, hv, hm⟩ := h
  unfold starF at hm
  split at hm
  · rename_i y z e0
    split at e0
    · rename_i ts et
      split at e0
      · rename_i hc
        have hlen : vs.length = xs.length := hv.length
        have rt := borS_ims (hv.drop ps.length) et
        refine ⟨vs.take ps.length, vs.drop ps.length, (List.take_append_drop ..).symm, by rw [List.length_take]; omega, by rw [rt.length]; exact hc.2, fun p np => ?_⟩
        have sn := Same.upd_new (o := .tup (vs.drop ps.length)) np
        refine ⟨_, ((hv.take ps.length).mono sn).append (.cons (.im (.tup (.inl (.inl upd_same)) (rt.mono (Le.of_same sn)))) .nil), ?_⟩
        rw [e0]
        exact fun v H' G s ow nd fr => hm v H' G (sn.trans s) ow nd fun a ha => by
          have q := fr a ha
          have : a ≠ p := fun c => by rw [c, upd_same] at q; cases q
          rwa [upd_ne this] at q
      · cases e0
    · cases e0
  · rename_i c z e0
    split at e0
    · rename_i ts et
      split at e0
      · rename_i hc
        have hlen : vs.length = xs.length := hv.length
        have rt := borS_ims (hv.drop ps.length) et
        refine ⟨vs.take ps.length, vs.drop ps.length, (List.take_append_drop ..).symm, by rw [List.length_take]; omega, by rw [rt.length]; exact hc.2, fun p np => ?_⟩
        have sn := Same.upd_new (o := .tup (vs.drop ps.length)) np
        refine ⟨_, ((hv.take ps.length).mono sn).append (.cons (.im (.tup (.inl (.inl upd_same)) (rt.mono (Le.of_same sn)))) .nil), ?_⟩
        rw [e0]
        exact fun cv d H' s xr => hm cv d H' (sn.trans s) xr
      · cases e0
    · cases e0
  · exact hm.elim
theorem fnSF {x : Str} {pv : Str} (F : Fun K x qual st f fd) (S : FnScope N (ps ++ [pv]) (defScope st))
    (hb : ∀ (kV doc pm : Value) (an : Option Addr) (cdv ct : Value) (us rest : List Value), us.length = ps.length → bindArgs (PySem.W.fnOf x qual (defArgs st) (defBody st) (defScope st) .none kV doc pm an cdv ct) ⟨us ++ rest, []⟩ = (newTuple rest >>= fun t => pure (ps.zip us ++ [(pv, t)])))
    (m : MS) (body : ∀ (cdv : Value) (A : Around) (outer : List Env) (s : Shared) (H : Hp) (E : XK), Room k (A.deeper (envOfC qual (defScope st) s.heap.objs.size f cdv)) →
      SEs (cxOf (L2.CX P w) P w K mg base N qual (defScope st) f cdv A outer s H E) (fun cls d _ H => E cls d H) none (defBody st) m) :
    FnR P w K mg base (L2.CX P w) (k + 1) f (spP K mg (starF ps.length (runP N.length (ps.length + 1) m))) := by
  obtain ⟨oc, od, kV, doc, pm, an, cdv, ct, osl, rfl, lk, hcd⟩ := F.ex
  exact fnS lk hcd S (hb kV doc pm an cdv ct) m (body cdv)
end
section
variable {X : Cx} {CX : CXT} {k : Nat} {f : Addr} {sp : Sp} {E : L2.St → XK} {x : Str} {p pos : Pos} {e : Expr} {es : List Expr} {t : TA}
theorem pe_callRS (F : FnR X.prog X.w X.K X.mg X.base CX k f sp) (hr : Room k X.A) (hg : Gl X x) (hm : X.mg x = some (.ref f)) (hk : PySem.W.keepIn X.K (.ref f) = true) (hx : ∀ σ, PassesAt CX X σ (E σ))
    (ha : PA X (e :: es) t) (hdb : (x == ("__debug__" : Str)) = false := by decide) (he : starEach (e :: es) X.env = (false, eval e X.env) :: starEach es X.env := by rfl) (hpl : (backTo pos (starEach es X.env)).any (·.1) = false := by rfl) :
    PE X (.Call (.Name x p) (e :: es) [] pos) (tCallS sp E t) := by
  refine ⟨fun pins s σ H Q I h => ?_⟩
  refine wpAny_Call_Name_kw (ld_glob I hg hm ?_ hdb)
  refine PySem.W.callWith_K (h₀ := X.base) I.ok.mod.kin hk (thn (ha.run pos pins s σ H _ I h) fun us s1 ⟨vs, H1, I1, r, q⟩ => ⟨I1.kIn, ?_⟩) he hpl
  refine wpAny_call (codeAny_mono (F X.A X.stack s1 H1 us vs Q (E σ) hr I1.env0 r q) fun r s' hq => ?_)
  cases r with
  | error e => exact hx σ pins H1 s1 e s' I1 hq
  | ok fl =>
    cases fl with
    | ret u => exact I1.after hq
    | next => exact False.elim hq
    | brk => exact False.elim hq
    | cont => exact False.elim hq
end
section
variable {X : Cx} {W : WX} {st : Option Addr} {pos p : Pos} {k : Nat} {f : Addr} {x : Str} {e : Expr} {es : List Expr} {ms : MAs}
theorem fe_callR {m : MF} (F : FnR X.prog X.w X.K X.mg X.base (L2.CX X.prog X.w) k f (spP X.K X.mg m)) (hr : Room k X.A) (hg : Gl X x) (hm : X.mg x = some (.ref f)) (hk : PySem.W.keepIn X.K (.ref f) = true) (tk : Takes X W)
    (ha : RA X W st (e :: es) ms) (hdb : (x == ("__debug__" : Str)) = false := by decide) (he : starEach (e :: es) X.env = (false, eval e X.env) :: starEach es X.env := by rfl) (hpl : (backTo pos (starEach es X.env)).any (·.1) = false := by rfl) :
    FE X W st (.Call (.Name x p) (e :: es) [] pos) (eCall m ms) := by
  obtain ⟨t, pa, g⟩ := ha
  refine ⟨tCallS _ (WE W) t, pe_callRS F hr hg hm hk (fun σ => passAt tk σ) pa hdb he hpl, fun H0 B Ls G S z σ H Q h hq => ?_⟩
  refine g H0 B Ls G S z σ H _ h (hq.bind fun xs z1 H1 _ x1 hz1 hq1 vs hvs => ?_)
  refine ⟨xs, hvs.hid, ?_⟩
  have h1 := h.grow x1 hz1
  split at hq1
  · rename_i y _ em
    exact fun v H' G' s ow nd fr => Ct.fin h1 hq1 s ow nd fr
  · rename_i c _ em
    exact fun cv d H' s xr => hq1 cv d H' (.of_same s) (hz1.new s) xr
  · exact hq1.elim
end
end MM
namespace MM
open PySem PySem.Spec PyProof.Rows L2
/-! ### list(range(a, b)), comprehensions over range(a, b) -/
theorem rep_rg {K : PySem.W.Frag} {H : Hp} (a : Int) : ∀ n : Nat, RepTs K H ((List.range n).map fun (i : Nat) => V.int (a + i)) (rngI a n)
  | 0 => .nil
  | n + 1 => by
    unfold rngI
    rw [List.range_succ, List.map_append, List.map_append]
    exact (rep_rg a n).append (.one (.int _))
@[simp] def eListRg (ms : MAs) : ME := fun S z => (ms S z).bind fun xs z => match xs with
  | [.im (.int i), .im (.int j)] => if (inR i && inR j) = true ∧ (j - i).toNat ≤ 16777216 then .ok (.il (rngI i (j - i).toNat)) z else .no
  | _ => .no
section
variable {X : Cx} {W : WX} {st : Option Addr} {pos : Pos}
theorem fe_listRg {a b : Expr} {ma mb : ME} {p rp lp : Pos} (hc : X.calm = true) (hl : Gl X "list") (hlm : X.mg "list" = none) (hg : Gl X "range") (hm : X.mg "range" = none) (ha : RE X W st a ma) (hb : RE X W st b mb)
    (na : starEach [a, b] X.env = (false, eval a X.env) :: starEach [b] X.env := by rfl) (nb : starEach [b] X.env = (false, eval b X.env) :: starEach [] X.env := by rfl) (hp : (backTo rp (starEach [b] X.env)).any (·.1) = false := by rfl)
    (nl : starEach [.Call (.Name "range" p) [a, b] [] rp] X.env = (false, eval (.Call (.Name "range" p) [a, b] [] rp) X.env) :: starEach [] X.env := by rfl) :
    FE X W st (.Call (.Name "list" lp) [.Call (.Name "range" p) [a, b] [] rp] [] pos) (eListRg (aCons ma (aCons mb aNil))) := by
  obtain ⟨ta, pa, fa⟩ := ha
  obtain ⟨tb, pb, fb⟩ := hb
  refine ⟨_, pe_listRg hc hl hlm (prg_2 hg hm pa pb na nb hp) nl, fun H0 B Ls G S z σ H Q h hq => ?_⟩
  have hq' : Ct X W st σ H ((ma S z).bind fun x z => (mb S z).bind fun y z => (match [x, y] with
    | [.im (.int i), .im (.int j)] => if (inR i && inR j) = true ∧ (j - i).toNat ≤ 16777216 then .ok (.il (rngI i (j - i).toNat)) z else .no
    | _ => .no : Rs Val)) (fun x z' H' => ∀ v G', Own X.K H' v x G' → Stt X.K st H0 B Ls (G' ++ G) S z' σ H' → Q v H') := by
    unfold eListRg at hq
    simp only [aCons, aNil] at hq
    cases e : ma S z with
    | ok x z1 =>
      rw [e] at hq
      simp only [Rs.bind] at hq ⊢
      cases e2 : mb S z1 with
      | ok y z2 => rw [e2] at hq; exact hq
      | ex c z2 => rw [e2] at hq; exact hq
      | no => rw [e2] at hq; exact hq
    | ex c z1 => rw [e] at hq; exact hq
    | no => rw [e] at hq; exact hq
  refine fa H0 B Ls G S z σ H _ h (hq'.bind fun x z1 H1 _ x1 hz1 hq1 v hv => ?_)
  have h1 := h.grow x1 hz1
  refine fb H0 B Ls G S z1 σ H1 _ h1 (hq1.bind fun y z2 H2 _ x2 hz2 hq2 w hw => ?_)
  have h2 := h1.grow x2 hz2
  split at hq2
  · rename_i i j e
    cases e
    split at hq2
    · rename_i c
      have c1 := c.1
      simp only [Bool.and_eq_true] at c1
      obtain ⟨i1, i2⟩ := inR_ok c1.1
      obtain ⟨j1, j2⟩ := inR_ok c1.2
      refine ⟨i, j, bor_int hv, bor_int hw, ⟨i1, i2, j1, j2, c.2⟩, fun q nq => ?_⟩
      exact Ct.fin h2 hq2 (Same.upd_new nq) (.il upd_same (rep_rg i _)) (by simp) (fun a ha => by simp at ha; subst ha; exact nq)
    · exact hq2.elim
  · exact hq2.elim
theorem lcR2_rd {ms : MAs} {c : MT} {m : ME} {ti : TA} {tt : TT} {te : TE} (j : Nat)
    (fi : ∀ H0 B Ls G S z σ H Q, Stt X.K st H0 B Ls G S z σ H → Ct X W st σ H (ms S z) (fun xs z' H' => ∀ vs, BorS X.K (hid st H') vs xs → Q vs H') → ti σ H Q)
    (ft : ∀ H0 B Ls G S z σ H Q, Stt X.K st H0 B Ls G S z σ H → Ct X W0 st σ H (c S z) (fun x z' H' => Q x H') → tt σ H Q)
    (fe : ∀ H0 B Ls G S z σ H Q, Stt X.K st H0 B Ls G S z σ H → Ct X W0 st σ H (m S z) (fun x z' H' => ∀ v, Bor X.K (hid st H') v x → Q v H') → te σ H Q) :
    ∀ H0 B Ls G S z σ H Q, Stt X.K st H0 B Ls G S z σ H → Ct X W st σ H (eLcR rngT2 ms j c m S z) (fun x z' H' => ∀ v G', Own X.K H' v x G' → Stt X.K st H0 B Ls (G' ++ G) S z' σ H' → Q v H') → tLc (iRng2 ti) (gName j) tt te [j] σ H Q := by
  intro H0 B Ls G S z σ H Q h hq
  refine fi H0 B Ls G S z σ H _ h (hq.bind fun ys z1 H1 _ x1 hz1 hq1 vs hvs => ?_)
  have h1 := h.grow x1 hz1
  cases e : rngT2 ys with
  | none => rw [e] at hq1; exact hq1.elim
  | some ts =>
    rw [e] at hq1
    obtain ⟨lo, hi, rfl, cr, cr2, rfl⟩ := rng_two hvs e
    obtain ⟨c1, c2⟩ := inR_ok cr
    obtain ⟨d1, d2⟩ := inR_ok cr2
    refine ⟨lo, hi, rfl, ⟨c1, c2, d1, d2⟩, fun D nD => ?_⟩
    have sn : Same H1 (L2.upd H1 D (.lst [])) := Same.upd_new nD
    refine lc_range (lo := lo) (n := (hi - lo).toNat) (fun i H => ∃ z acc av, LcP X st H0 B Ls G S σ D (fun v H' => (∀ a o, st ≠ some a → a ≠ D → H1 a = some o → H' a = some o) → Q v H') j c m H1 ((rngI lo (hi - lo).toNat).drop i) H z acc av)
      ⟨z1, [], [], h1.add (G' := [D]) (.of_same sn) (hz1.new sn) (by simp) (fun a ha => by simp at ha; subst ha; exact nD) (fun a ha => by simp at ha; subst ha; exact ⟨_, upd_same, True.intro⟩), upd_same, .nil, fun a o _ _ e => sn a o e, lc_start h1 nD hq1 fun _ _ _ => trivial⟩
      (fun i H hi ⟨z2, acc, av, P⟩ => ?_) (fun H ⟨z2, acc, av, P⟩ => ?_)
    · rw [rngI_drop hi] at P
      exact lc_turn ft fe P (.int _)
    · rw [List.drop_eq_nil_of_le (by unfold rngI; simp)] at P
      have hq := P.q
      exact hq H av P.s P.d P.r P.k
theorem fe_lcR2 {elt tg a b : Expr} {ifs : List Expr} {scope : Scope} {x : Str} {ms : MAs} {c : MT} {m : ME} {p rp : Pos} (j : Nat) (hc : X.calm = true) (hN : X.N.Nodup) (hgl : Gl X "range") (hm : X.mg "range" = none) (ha : RA X W st [a, b] ms) (ok : BlkOk X.N X.env.scope scope [(x, j)])
    (hg : ∀ s H C cl fp, PG (Bk X scope s H C cl fp) tg (gName j)) (ht : ∀ s H C cl fp, RTs (Bk X scope s H C cl fp) W0 st ifs c) (he : ∀ s H C cl fp, RE (Bk X scope s H C cl fp) W0 st elt m)
    (hsa : starEach [a, b] X.env = [(false, eval a X.env), (false, eval b X.env)] := by rfl) (hsb : starEach [b] X.env = [(false, eval b X.env)] := by rfl) (hs : ∀ x, foldedSetIterable (.Call (.Name "range" p) [a, b] [] rp) X.env x = pure x := by intro _; rfl) :
    FE X W st (.ListComp elt [⟨tg, .Call (.Name "range" p) [a, b] [] rp, ifs, 0⟩] scope pos) (eLcR rngT2 ms j c m) := by
  obtain ⟨ti, pi, fi⟩ := ha
  obtain ⟨tt, pt, ft⟩ := rts_uni ht
  obtain ⟨te, pe, fe⟩ := re_uni he
  exact ⟨_, pe_lc hc hN (pi_range2 hgl hm pi hsa hsb) ok hg pt pe hs, lcR2_rd j fi ft fe⟩
/-! ### a fresh list that is appended to and forgotten -/
@[simp] def sAppT (mr m : ME) : MS := fun S z => (mr S z).go S fun y z => match y with
  | .il ts => (m S z).go S fun x z => match x with
    | .im _ => if ts.length < sizeLine then .nx S z else .no
    | _ => .no
  | _ => .no
theorem Stt.dropG {K : PySem.W.Frag} {H0 B H : Hp} {Ls : List (Option (V × Val))} {G : List Addr} {S : List Sv} {z : Zs} {σ : L2.St} {l : Addr} (h : Stt K st H0 B Ls (l :: G) S z σ H) : Stt K st H0 B Ls G S z σ H := by
  obtain ⟨Gs, hs, nd, fr⟩ := h.ex
  exact ⟨h.fr, h.zr, h.ble, h.z0, h.bst, fun a ha => h.gt a (.tail _ ha), h.lks, Gs, hs, (List.nodup_cons.mp nd).2, fun a ha => fr a (.tail _ ha)⟩
theorem Cs.goG {α : Type} {H0 B H : Hp} {Ls : List (Option (V × Val))} {D : Ends} {S : List Sv} {z : Zs} {σ : L2.St} {r : Rs α} {f : α → Zs → Ro} {k' : α → Zs → Hp → Prop} {l : Addr} (h : Stt X.K st H0 B Ls [l] S z σ H) (hq : Cs X W st H0 B Ls D (r.go S f))
    (g : ∀ a z1 H1, r = .ok a z1 → SameX st H H1 → Zr X.K st z1 H1 → Cs X W st H0 B Ls D (f a z1) → k' a z1 H1) : Ct X W st σ H r k' := by
  cases r with
  | ok a z => exact fun H' y hz => g a z H' rfl y hz hq
  | ex c z1 => exact fun cv d H' y hz xr => hq cv d σ H' (h.grow y hz).dropG xr
  | no => exact hq
structure ClT (X : Cx) (r : Expr) (n : Str) (ap cp : Pos) (e : Expr) : Prop where
  base : attributeBase r n X.env (eval r X.env) = eval r X.env
  few : ((backTo cp (starEach [e] X.env)).all (fun x => !x.1) && (backToKw cp (keywordEach [] X.env)).all (fun x => x.1.isSome)
      && decide (([e] : List Expr).length + ([] : List Keyword).length + (if ([] : List Keyword).isEmpty then 0 else 1) < 30)) = true
  line : (ap.endLine == cp.line) = true
  star : starEach [e] X.env = (false, eval e X.env) :: starEach [] X.env
  plain : (backTo cp (starEach [] X.env)).any (·.1) = false
theorem se_appT {r e : Expr} {mr m : ME} {ap cp : Pos} (hr : FE X W st r mr) (he : RE X W st e m) (c : ClT X r "append" ap cp e := by exact ⟨rfl, rfl, rfl, rfl, rfl⟩)
    (hs : swapsWith (.Call (.Attribute r "append" ap) [e] [] cp) none pos.line X.env = pure false := by rfl) :
    SE X W st (.Expr (.Call (.Attribute r "append" ap) [e] [] cp) pos) (sAppT mr m) := by
  obtain ⟨tr, pr, fr⟩ := hr
  obtain ⟨t, pe, f⟩ := he
  refine ⟨_, ps_expr (pe_bm PySem.F.plainAttrs_list PySem.F.slot_list_append PySem.F.type_list_append mt_append pr (pa_cons pe pa_nil c.star) c.base c.few c.line c.star c.plain) hs, fun H0 B Ls S z σ H D h hq => ?_⟩
  refine fr H0 B Ls [] S z σ H _ h (Cs.go h hq fun y z1 H1 _ x1 hz1 hq1 v G' ow h1 => ?_)
  cases y with
  | il ts =>
    obtain ⟨a, xs, rfl, rfl, e1, rt⟩ := own_il ow
    refine ⟨tyL e1, ?_⟩
    refine f H0 B Ls [a] S z1 σ H1 _ h1 (Cs.goG h1 hq1 fun x z2 H2 _ x2 hz2 hq2 w hw => ?_)
    have h2 := h1.grow x2 hz2
    cases x with
    | im u =>
      dsimp only at hq2
      split at hq2
      · rename_i hl
        have nst : st ≠ some a := by
          obtain ⟨Gs, _, _, fr⟩ := h1.ex
          exact h1.nst (fr a (by simp)).1
        have e2 := x2.k a _ nst e1
        exact ⟨a, xs, w, rfl, rfl, e2, by rw [rt.length]; exact hl, hq2 σ _ (h2.chgG (o := .lst (xs ++ [w])) e2 True.intro True.intro).dropG⟩
      · exact hq2.elim
    | _ => exact hq2.elim
  | _ => exact hq1.elim
/-! ### comprehensions with two names -/
def wipS2 (i j : Nat) (S : List Sv) : List Sv := (S.set j .un).set i .un
def lcT2 (i j : Nat) (c : MT) (m : ME) (S0 : List Sv) : List T → List T → Zs → Rs Val
  | [], acc, z => .ok (.il acc) z
  | t :: ts, acc, z => if i < S0.length ∧ j < S0.length ∧ i ≠ j then match t with
    | .tup [a, b] => match c ((S0.set i (.o (.im a))).set j (.o (.im b))) z with
      | .ok true z => match m ((S0.set i (.o (.im a))).set j (.o (.im b))) z with
        | .ok (.im u) z => if acc.length < sizeLine then lcT2 i j c m S0 ts (acc ++ [u]) z else .no
        | _ => .no
      | .ok false z => lcT2 i j c m S0 ts acc z
      | _ => .no
    | _ => .no
    else .no
structure LcP2 (X : Cx) (st : Option Addr) (H0 B : Hp) (Ls : List (Option (V × Val))) (G : List Addr) (S : List Sv) (σ : L2.St) (D : Addr) (Q : VK) (i j : Nat) (c : MT) (m : ME) (H1 : Hp) (ts : List T) (H : Hp) (z : Zs) (acc : List T) (av : List V) : Prop where
  s : Stt X.K st H0 B Ls (D :: G) S z σ H
  d : H D = some (.lst av)
  r : RepTs X.K H av acc
  k : ∀ a o, st ≠ some a → a ≠ D → H1 a = some o → H a = some o
  q : LcK X.K st H0 B Ls G S σ D Q (lcT2 i j c m (wipS2 i j S) ts acc z)
theorem set4 {α : Type} {l : List α} {i j : Nat} {u w a b : α} (n : i ≠ j) : (((l.set j u).set i w).set i a).set j b = (l.set i a).set j b := by
  rw [List.set_set, List.set_comm _ _ (Ne.symm n), List.set_set]
theorem wipe_two {σ : L2.St} {i j : Nat} {a b : Option V} (n : i ≠ j) : wipe (((wipe σ [i, j]).set i a).set j b) [i, j] = wipe σ [i, j] := by
  simp only [wipe]
  have e : ∀ {l : L2.St} {c : Option V}, ((((l.set j none).set i none).set i a).set j b).set j c = ((l.set i a).set j c) := fun {l c} => by
    rw [set4 n, List.set_set]
  rw [e, List.set_comm _ _ n, List.set_set]
theorem lc_turn2 {i j : Nat} {c : MT} {m : ME} {tt : TT} {te : TE}
    (fc : ∀ H0 B Ls G S z σ H Q, Stt X.K st H0 B Ls G S z σ H → Ct X W0 st σ H (c S z) (fun x z' H' => Q x H') → tt σ H Q)
    (fm : ∀ H0 B Ls G S z σ H Q, Stt X.K st H0 B Ls G S z σ H → Ct X W0 st σ H (m S z) (fun x z' H' => ∀ v, Bor X.K (hid st H') v x → Q v H') → te σ H Q)
    {H0 B H1 H : Hp} {Ls : List (Option (V × Val))} {G : List Addr} {S : List Sv} {σ : L2.St} {D : Addr} {Q : VK} {z : Zs} {acc ts : List T} {av : List V} {t : T} {v : V}
    (P : LcP2 X st H0 B Ls G S σ D Q i j c m H1 (t :: ts) H z acc av) (r : RepT X.K H v t) :
    gTup X.K 2 (gCons (gName i) (gCons (gName j) gNil)) v (wipe σ [i, j]) H fun σ2 H2 => wipe σ2 [i, j] = wipe σ [i, j] ∧ tt σ2 H2 fun b H3 => if b = true then te σ2 H3 fun y H4 => ∃ acc', H4 D = some (.lst acc') ∧ acc'.length < sizeLine ∧ (∃ z acc av, LcP2 X st H0 B Ls G S σ D Q i j c m H1 ts (L2.upd H4 D (.lst (acc' ++ [y]))) z acc av)
      else ∃ z acc av, LcP2 X st H0 B Ls G S σ D Q i j c m H1 ts H3 z acc av := by
  have hq := P.q
  unfold lcT2 at hq
  split at hq
  · rename_i hj
    obtain ⟨hi, hj, hn⟩ := hj
    have hi' : i < S.length := by unfold wipS2 at hi; simpa using hi
    have hj' : j < S.length := by unfold wipS2 at hj; simpa using hj
    have nD : st ≠ some D := by
      obtain ⟨Gs, _, _, fr⟩ := P.s.ex
      exact P.s.nst (fr D (by simp)).1
    split at hq
    · rename_i a b
      cases r with
      | @tup p xs _ r1 r2 =>
        cases r2 with
        | cons ra rb =>
          rename_i va vr
          cases rb with
          | cons rb rn =>
            rename_i vb vn
            cases rn
            refine ⟨p, _, rfl, r1, rfl, va, _, rfl, vb, _, rfl, rfl, wipe_two hn, ?_⟩
            have hs : Stt X.K st H0 B Ls (D :: G) (((wipS2 i j S).set i (.o (.im a))).set j (.o (.im b))) z (((wipe σ [i, j]).set i (some va)).set j (some vb)) H := by
              unfold wipS2
              simp only [wipe]
              rw [set4 hn, set4 hn]
              exact Stt.put (G' := []) (Stt.put (G' := []) P.s (.im ra) hi') (.im rb) (by simpa using hj')
            refine fc _ _ _ _ _ _ _ _ _ hs ?_
            cases ec : c (((wipS2 i j S).set i (.o (.im a))).set j (.o (.im b))) z with
            | no => rw [ec] at hq; exact hq.elim
            | ex d z1 => rw [ec] at hq; exact hq.elim
            | ok b' z1 =>
              rw [ec] at hq
              intro H3 x3 hz3
              have s3 := P.s.grow x3 hz3
              have d3 := x3.k D _ nD P.d
              have r3 := P.r.mono (x3.le P.s.zr)
              cases b' with
              | false => exact iteF ⟨z1, acc, av, s3, d3, r3, fun a o h1 h2 h3 => x3.k a o h1 (P.k a o h1 h2 h3), hq⟩
              | true =>
                refine iteT ?_
                refine fm _ _ _ _ _ _ _ _ _ (hs.grow x3 hz3) ?_
                dsimp only at hq
                cases em : m (((wipS2 i j S).set i (.o (.im a))).set j (.o (.im b))) z1 with
                | no => rw [em] at hq; exact hq.elim
                | ex d z2 => rw [em] at hq; exact hq.elim
                | ok y z2 =>
                  rw [em] at hq
                  intro H4 x4 hz4 w hw
                  cases y with
                  | im u =>
                    dsimp only at hq
                    split at hq
                    · rename_i hl
                      have s4 := s3.grow x4 hz4
                      have d4 := x4.k D _ nD d3
                      have r4 := r3.mono (x4.le s3.zr)
                      refine ⟨av, d4, by rw [r4.length]; exact hl, z2, acc ++ [u], av ++ [w], s4.chgG d4 True.intro True.intro, upd_same, ?_, fun a o h1 h2 h3 => ?_, hq⟩
                      · cases hw with
                        | im hw => exact (r4.append (.one (repT_hid hw))).mono (Le.upd_lst d4)
                      · rw [upd_ne h2]
                        exact x4.k a o h1 (x3.k a o h1 (P.k a o h1 h2 h3))
                    · exact hq.elim
                  | _ => exact hq.elim
    · exact hq.elim
  · exact hq.elim
theorem lcT2_ex {i j : Nat} {c : MT} {m : ME} {S0 : List Sv} : ∀ {ts acc : List T} {z : Zs} {e : Exc} {z' : Zs}, lcT2 i j c m S0 ts acc z ≠ .ex e z'
  | [], acc, z, e, z' => by intro h; cases h
  | t :: ts, acc, z, e, z' => by
    unfold lcT2
    intro h
    split at h
    · split at h
      · split at h
        · split at h
          · split at h
            · exact lcT2_ex h
            · cases h
          · cases h
        · exact lcT2_ex h
        · cases h
      · cases h
    · cases h
theorem lcT2_il {i j : Nat} {c : MT} {m : ME} {S0 : List Sv} : ∀ {ts acc : List T} {z : Zs} {x : Val} {z' : Zs}, lcT2 i j c m S0 ts acc z = .ok x z' → ∃ us, x = .il us
  | [], acc, z, x, z', h => by cases h; exact ⟨_, rfl⟩
  | t :: ts, acc, z, x, z', h => by
    unfold lcT2 at h
    split at h
    · split at h
      · split at h
        · split at h
          · split at h
            · exact lcT2_il h
            · cases h
          · cases h
        · exact lcT2_il h
        · cases h
      · cases h
    · cases h
theorem lc_start2 {H0 B H1 : Hp} {Ls : List (Option (V × Val))} {G : List Addr} {S : List Sv} {σ : L2.St} {Q : VK} {z1 : Zs} {D : Addr} {i j : Nat} {c : MT} {m : ME} {ts : List T} (h1 : Stt X.K st H0 B Ls G S z1 σ H1) (nD : H1 D = none)
    (hq : Ct X W st σ H1 (lcT2 i j c m (wipS2 i j S) ts [] z1) (fun x z' H' => ∀ v G', Own X.K H' v x G' → Stt X.K st H0 B Ls (G' ++ G) S z' σ H' → Q v H')) :
    LcK X.K st H0 B Ls G S σ D (fun v H' => (∀ a o, st ≠ some a → a ≠ D → H1 a = some o → H' a = some o) → Q v H') (lcT2 i j c m (wipS2 i j S) ts [] z1) := by
  cases e : lcT2 i j c m (wipS2 i j S) ts [] z1 with
  | ok x z =>
    obtain ⟨us, rfl⟩ := lcT2_il e
    rw [e] at hq
    exact fun H av hs hd r k => hq H (SameX.two h1 hs nD k) hs.zr _ [D] (.il hd r) (by simpa using hs)
  | ex d z => exact absurd e lcT2_ex
  | no => rw [e] at hq; exact hq
theorem lcW2_rd {J : It} {n : Nat} {GH : Hp → Prop} {Y : Nat → Hp → V → Hp → Prop} {ts : List T} {c : MT} {m : ME} {tt : TT} {te : TE} (i j : Nat) (w : Walk J n GH Y) (hn : n = ts.length)
    (ft : ∀ H0 B Ls G S z σ H Q, Stt X.K st H0 B Ls G S z σ H → Ct X W0 st σ H (c S z) (fun x z' H' => Q x H') → tt σ H Q)
    (fe : ∀ H0 B Ls G S z σ H Q, Stt X.K st H0 B Ls G S z σ H → Ct X W0 st σ H (m S z) (fun x z' H' => ∀ v, Bor X.K (hid st H') v x → Q v H') → te σ H Q)
    {H0 B H1 : Hp} {Ls : List (Option (V × Val))} {G : List Addr} {S : List Sv} {σ : L2.St} {Q : VK} {z1 : Zs} (h1 : Stt X.K st H0 B Ls G S z1 σ H1)
    (hG : ∀ H, Le H1 H → GH H) (hY : ∀ k H x H', k < n → Le H1 H → Y k H x H' → Same H H' ∧ ∃ t, ts[k]? = some t ∧ RepT X.K H' x t)
    (hq1 : Ct X W st σ H1 (lcT2 i j c m (wipS2 i j S) ts [] z1) (fun x z' H' => ∀ v G', Own X.K H' v x G' → Stt X.K st H0 B Ls (G' ++ G) S z' σ H' → Q v H')) {D : Addr} (nD : H1 D = none) :
    ∃ W : Nat → Nat → Hp → Prop, (∃ m, W 0 m (L2.upd H1 D (.lst []))) ∧ ∀ k m H, W k m H →
      (J.stop k H ∧ Q (.ref D) H) ∨ (J.go k H ∧ ∃ Nx : Hp → Prop, (∀ H', Nx H' → ∃ m', m' < m ∧ W (k + 1) m' H') ∧ ∀ x H', J.yld k H x H' → gTup X.K 2 (gCons (gName i) (gCons (gName j) gNil)) x (wipe σ [i, j]) H' fun σ2 H2 => wipe σ2 [i, j] = wipe σ [i, j] ∧ tt σ2 H2 fun b H3 =>
        if b = true then te σ2 H3 fun y H4 => ∃ acc, H4 D = some (.lst acc) ∧ acc.length < sizeLine ∧ Nx (L2.upd H4 D (.lst (acc ++ [y]))) else Nx H3) := by
  have hz1 := h1.zr
  have sn : Same H1 (L2.upd H1 D (.lst [])) := Same.upd_new nD
  have le : ∀ {H z acc av} {us : List T}, LcP2 X st H0 B Ls G S σ D (fun v H' => (∀ a o, st ≠ some a → a ≠ D → H1 a = some o → H' a = some o) → Q v H') i j c m H1 us H z acc av → Le H1 H := fun P => (SameX.two h1 P.s nD P.k).le hz1
  refine lc_it w (fun k H => ∃ z acc av, LcP2 X st H0 B Ls G S σ D (fun v H' => (∀ a o, st ≠ some a → a ≠ D → H1 a = some o → H' a = some o) → Q v H') i j c m H1 (ts.drop k) H z acc av)
    ⟨z1, [], [], h1.add (G' := [D]) (.of_same sn) (hz1.new sn) (by simp) (fun a ha => by simp at ha; subst ha; exact nD) (fun a ha => by simp at ha; subst ha; exact ⟨_, upd_same, True.intro⟩), upd_same, .nil, fun a o _ _ e => sn a o e, lc_start2 h1 nD hq1⟩
    (fun _ _ _ ⟨_, _, _, P⟩ => hG _ (le P)) (fun k x H H' hi ⟨z2, acc, av, P⟩ y => ?_) (fun H ⟨z2, acc, av, P⟩ => ?_)
  · obtain ⟨sm, t, et, rt⟩ := hY k H x H' hi (le P) y
    obtain ⟨hl, e2⟩ := List.getElem?_eq_some_iff.mp et
    rw [List.drop_eq_getElem_cons hl, e2] at P
    have P' : LcP2 X st H0 B Ls G S σ D (fun v H' => (∀ a o, st ≠ some a → a ≠ D → H1 a = some o → H' a = some o) → Q v H') i j c m H1 (t :: ts.drop (k + 1)) H' z2 acc av :=
      ⟨P.s.grow (.of_same sm) (P.s.zr.new sm), sm _ _ P.d, P.r.mono (Le.of_same sm), fun a o h1 h2 h3 => sm _ _ (P.k a o h1 h2 h3), P.q⟩
    exact lc_turn2 ft fe P' rt
  · rw [hn, List.drop_length] at P
    have hq := P.q
    exact hq H av P.s P.d P.r P.k
@[simp] def eLcZ (ms : MAs) (i j : Nat) (c : MT) (m : ME) : ME := fun S z => (ms S z).bind fun xs z => match xs with
  | [.im (.tup ts), .im (.tup us)] => lcT2 i j c m (wipS2 i j S) (zipT ts us) [] z
  | _ => .no
theorem fe_lcZ {elt e e2 : Expr} {elts : List Expr} {kk : Nat} {tpos p ip : Pos} {ifs : List Expr} {scope : Scope} {x y : Str} {ms : MAs} {c : MT} {m : ME} (i j : Nat) (hc : X.calm = true) (hN : X.N.Nodup) (hgl : Gl X "zip") (hm : X.mg "zip" = none) (ha : RA X W st [e, e2] ms)
    (ok : BlkOk X.N X.env.scope scope [(x, i), (y, j)])
    (hg : ∀ s H C cl fp, PG (Bk X scope s H C cl fp) (.Tuple elts kk tpos) (gTup X.K 2 (gCons (gName i) (gCons (gName j) gNil)))) (ht : ∀ s H C cl fp, RTs (Bk X scope s H C cl fp) W0 st ifs c) (he : ∀ s H C cl fp, RE (Bk X scope s H C cl fp) W0 st elt m)
    (hs0 : starEach [e, e2] X.env = (false, eval e X.env) :: starEach [e2] X.env := by rfl) (hpl : (backTo ip (starEach [e2] X.env)).any (·.1) = false := by rfl) (hs : ∀ x, foldedSetIterable (.Call (.Name "zip" p) [e, e2] [] ip) X.env x = pure x := by intro _; rfl) :
    FE X W st (.ListComp elt [⟨.Tuple elts kk tpos, .Call (.Name "zip" p) [e, e2] [] ip, ifs, 0⟩] scope pos) (eLcZ ms i j c m) := by
  obtain ⟨ti, pi, fi⟩ := ha
  obtain ⟨tt, pt, ft⟩ := rts_uni ht
  obtain ⟨te, pe, fe⟩ := re_uni he
  refine ⟨_, pe_lc hc hN (RZ.pi_zipA hgl hm pi hs0 hpl) ok hg pt pe hs, fun H0 B Ls G S z σ H Q h hq => ?_⟩
  refine fi H0 B Ls G S z σ H _ h (hq.bind fun xs z1 H1 _ x1 hz1 hq1 vs hvs => ?_)
  have g1 := h.grow x1 hz1
  split at hq1
  · rename_i ts us _
    obtain ⟨v, w, rfl, b1, b2⟩ := hvs.two
    cases bor_hid b1 with
    | im r1 =>
      cases bor_hid b2 with
      | im r2 =>
        cases r1 with
        | @tup a xs _ q1 q2 =>
          cases r2 with
          | @tup b ys _ q3 q4 =>
            refine ⟨a, b, xs, ys, rfl, .inr ⟨q1, q3, fun D nD => ?_⟩⟩
            refine lcW2_rd i j (walk_zipT rfl) (ts := zipT ts us) (by rw [zipT_length, q2.length, q4.length]) ft fe g1 (fun H le => ⟨le.sqt q1, le.sqt q3⟩) (fun k H x H' hk le y => ?_) hq1 nD
            obtain ⟨p, u, v, rfl, hp, e, e1, e2⟩ := y
            obtain ⟨t, et, rt⟩ := (q2.mono le).getV e1
            obtain ⟨t2, et2, rt2⟩ := (q4.mono le).getV e2
            subst e
            have s1 : Same H (L2.upd H p (.tup [u, v])) := Same.upd_new hp
            have le2 := Le.of_same s1
            exact ⟨s1, _, zipT_get et et2, .tup (.inl (.inl upd_same)) (.cons (rt.mono le2) (.cons (rt2.mono le2) .nil))⟩
  · exact hq1.elim
end
end MM
namespace MM
open PySem PySem.Spec PyProof.Rows L2
section
variable {X : Cx} {W : WX} {st : Option Addr} {pos : Pos}
theorem Stt.fzG {K : PySem.W.Frag} {H0 B H : Hp} {Ls : List (Option (V × Val))} {G : List Addr} {S : List Sv} {z : Zs} {σ : L2.St} {l : Addr} {o u : HO} (h : Stt K st H0 B Ls (l :: G) S z σ H) (hu : H l = some u) (mu : Mu u) : Stt K st H0 B Ls G S z σ (L2.upd H l o) := by
  obtain ⟨Gs, hs, nd, fr⟩ := h.ex
  have fl := fr l (by simp)
  obtain ⟨sx, zr⟩ := SameX.upd h o fl.1
  have nd2 := (List.nodup_cons.mp nd).1
  refine ⟨sx, zr, fun a u' q => ?_, h.z0, h.bst, fun a ha => ?_, h.lks, Gs, ?_, (List.nodup_cons.mp nd).2, fun a ha => fr a (.tail _ ha)⟩
  · rw [upd_ne (ne_of_none q fl.2)]; exact h.ble a u' q
  · rw [upd_ne (fun c => nd2 (by subst c; exact List.mem_append_left _ ha))]; exact h.gt a (.tail _ ha)
  · exact hs.mono (Le.upd_mu hu mu) fun a ha u' q => by
      rw [upd_ne (fun c => nd2 (by subst c; exact List.mem_append_right _ ha))]; exact q
/-- the end of an expression that moves the stream, whose new list is kept as it is -/
theorem Ct.finFzX {H0 B : Hp} {Ls : List (Option (V × Val))} {G : List Addr} {S : List Sv} {z z2 : Zs} {σ : L2.St} {H H1 : Hp} {Q : VK} {x : Val} (h : Stt X.K st H0 B Ls G S z σ H)
    (hq : Ct X W st σ H (fz x z2) (fun x z' H' => ∀ v G', Own X.K H' v x G' → Stt X.K st H0 B Ls (G' ++ G) S z' σ H' → Q v H')) {v : V} {G' : List Addr} (s : SameX st H H1) (hz : Zr X.K st z2 H1) (o : Own X.K H1 v x G') (nd : G'.Nodup) (fr : ∀ a ∈ G', H a = none) :
    Q v H1 ∨ ∃ a xs, v = .ref a ∧ H1 a = some (.lst xs) ∧ ∀ ob, Q v (L2.upd H1 a (.frz ob (.lst xs))) := by
  cases x with
  | im t => exact .inl (hq.okX s hz v G' o (h.add s hz nd fr o.there))
  | il ts =>
    cases o with
    | @il a xs _ ha r =>
      have fa := fr a (by simp)
      refine .inr ⟨a, xs, rfl, ha, fun ob => ?_⟩
      have le : Le H1 (L2.upd H1 a (.frz ob (.lst xs))) := Le.upd_mu ha True.intro
      have h1 : Stt X.K st H0 B Ls ([a] ++ G) S z2 σ H1 := h.add s hz nd fr (fun b hb => by simp at hb; subst hb; exact ⟨_, ha, True.intro⟩)
      have h2 : Stt X.K st H0 B Ls G S z2 σ (L2.upd H1 a (.frz ob (.lst xs))) := Stt.fzG h1 ha True.intro
      have sx : SameX st H (L2.upd H1 a (.frz ob (.lst xs))) := ⟨fun b u nb e => by rw [upd_ne (ne_of_none e fa)]; exact s.k b u nb e, fun b x r e hb => by
        obtain ⟨r', q⟩ := s.l b x r e hb
        exact ⟨r', by rw [upd_ne (ne_of_none hb fa)]; exact q⟩⟩
      exact hq.okX sx h2.zr (.ref a) [] (.im (.ls upd_same (r.mono le))) h2
  | _ => exact hq.elim
variable {k : Nat} {f : Addr} {fd : FuncData} {ps : List Str} {x : Str} {p : Pos} {es : List Expr} {ms : MAs}
theorem fe_callZFz {m : MZ} (i : Nat) {y : Str} {q : Pos} (F : FnOk X.prog X.w X.K X.mg X.base (L2.CX X.prog X.w) k f fd ps (spZ X.K X.mg m)) (hr : Room k X.A) (hg : Gl X x) (hm : X.mg x = some (.ref f)) (hk : PySem.W.keepIn X.K (.ref f) = true) (hb : Binds X.K fd ps []) (tk : Takes X W)
    (ha : RA X W st es ms) (hN : X.N[i]? = some y := by rfl) (hv : Vis X.env.scope y := by first | exact Or.inl rfl | exact Or.inr (Or.inl rfl) | exact Or.inr (Or.inr rfl)) (hd : (y == ("__debug__" : Str)) = false := by decide)
    (hcd : (y == ("__classdict__" : Str)) = false := by decide) (hdb : (x == ("__debug__" : Str)) = false := by decide) (he : starEach (.Name y q :: es) X.env = (false, eval (.Name y q) X.env) :: starEach es X.env := by rfl) (hpl : (backTo pos (starEach es X.env)).any (·.1) = false := by rfl) :
    FE X W st (.Call (.Name x p) (.Name y q :: es) [] pos) (eFz (eCallZ i m ms)) := by
  obtain ⟨t, pa, g⟩ := ha
  refine ⟨tFz (tCallS _ (WE W) (tCons (tVar i) t)), pe_fz (pe_callS F hr hg hm hk hb (fun σ => passAt tk σ) (pa_cons (pe_var hN hv hd hcd) pa he) hdb he hpl), fun H0 B Ls G S z σ H Q h hq => ?_⟩
  have hq0 : Ct X W st σ H ((match S[i]? with
    | some .s => (ms S z).bind m
    | _ => .no : Rs Val).bind fz) (fun x z' H' => ∀ v G', Own X.K H' v x G' → Stt X.K st H0 B Ls (G' ++ G) S z' σ H' → Q v H') := hq
  clear hq
  split at hq0
  · rename_i e1
    have hq := hq0
    obtain ⟨Gs, hs, _⟩ := h.ex
    obtain ⟨a, ea, est⟩ := hs.get_s e1
    refine ⟨.ref a, ea, ?_⟩
    have hq' : Ct X W st σ H ((ms S z).bind fun xs z => (m xs z).bind fz) (fun x z' H' => ∀ v G', Own X.K H' v x G' → Stt X.K st H0 B Ls (G' ++ G) S z' σ H' → Q v H') := by
      have e : ((ms S z).bind m).bind fz = ((ms S z).bind fun xs z => (m xs z).bind fz) := by cases ms S z <;> rfl
      rw [← e]; exact hq
    refine g H0 B Ls G S z σ H _ h (hq'.bind fun xs z1 H1 _ x1 hz1 hq1 vs hvs => ?_)
    have h1 := h.grow x1 hz1
    subst est
    refine ⟨a, vs, z1, xs, rfl, hz1, hvs, ?_⟩
    cases em : m xs z1 with
    | ok y z2 =>
      rw [em] at hq1
      exact fun v H' G' s hz' ow nd fr => Ct.finFzX h1 hq1 s hz' ow nd fr
    | ex c z2 =>
      rw [em] at hq1
      exact fun cv d H' s hz' xr => hq1 cv d H' s hz' xr
    | no => rw [em] at hq1; exact hq1
  · exact hq0.elim
end
end MM
namespace MM
open PySem PySem.Spec PyProof.Rows L2
/-! ### a dict == a text -/
theorem dict_eq_declines_str (l : Addr) (es : Array DictEntry) (n : Nat) (dd : Option Addr) (sl : Array (Option Value)) (b : Str) (u : Tok) :
    Meets (Builtin.«dict.__eq__» ⟨[.ref l, .str b u], []⟩) (fun _ R s => s.heap.get? l = some { cls := .type "dict", dict := dd, data := .dict es n, slots := sl } ∧ R (.ok (.ret .notImplemented)) s) :=
  .of_wp fun prog w A R s h => by obtain ⟨hp, g, d, tk, os⟩ := s; obtain ⟨hl, h⟩ := h; have f1 := F.sub_str_dict; wp_walk using wpAny_loadPart' hl; exact ⟨_, rfl, h⟩
theorem str_eq_declines_dict (b : Str) (u : Tok) (l : Addr) (es : Array DictEntry) (n : Nat) (dd : Option Addr) (sl : Array (Option Value)) :
    Meets (Builtin.«str.__eq__» ⟨[.str b u, .ref l], []⟩) (fun _ R s => s.heap.get? l = some { cls := .type "dict", dict := dd, data := .dict es n, slots := sl } ∧ R (.ok (.ret .notImplemented)) s) :=
  .of_wp fun prog w A R s h => by obtain ⟨hp, g, d, tk, os⟩ := s; obtain ⟨hl, h⟩ := h; wp_walk using wpAny_loadPart' hl, wpAny_load hl; exact ⟨_, rfl, h⟩
theorem rc_dict_str {prog : Program} {w : World} {A : Around} {s : Shared} {E Q : Value → Shared → Prop} {l : Addr} {o : Obj} {es : Array DictEntry} {n : Nat} (b : Str) (u : Tok) (ho : s.heap.get? l = some o) (hc : o.cls = .type "dict") (hd : o.data = .dict es n) (hu : A.units < cLine) (h : Q (.bool false) s) :
    wpAny (model prog w) A (richCompare .Eq (.ref l) (.str b u)) Q E s := by
  obtain ⟨cls, dd, data, sl⟩ := o
  simp only at hc hd
  subst hc hd
  exact SeqAt.rc_eq_decline_or (k := false) ⟨_, ho, rfl⟩ (typeIs_str s b u) (by decide) F.sub_str_dict F.slot_dict_eq F.slot_str_eq_refl
    (fun _ hq => call_meets F.slot_dict_eq ⟨_, ho, rfl⟩ F.entry_dict_eq (F.args_dict_eq_2 _ _) (dict_eq_declines_str l es n dd sl b u) ⟨ho, hq⟩)
    (fun _ hq => call_meets F.slot_str_eq_refl (typeIs_str s b u) F.entry_str_eq (F.args_str_eq_2 _ _) (str_eq_declines_dict b u l es n dd sl) ⟨ho, hq⟩)
    (fun _ hq => wpAny_of_eq (rfl : isSame (.ref l) (.str b u) = pure false) hq) (.inr hu) h
def rDictStr : R2 := fun x y H Q => ∃ a kvs b, x = .ref a ∧ y = .str b ∧ Rd H a (.dK kvs) ∧ Q (.bl false) H
section
variable {X : Cx} {W : WX} {st : Option Addr} {pos : Pos}
theorem op_eqDS (hu : X.A.units + 64 < cLine) : OpR X (compareOp .Eq) rDictStr := by
  intro pins s σ H x y v u Q I rx ry h
  obtain ⟨a, kvs, b, rfl, rfl, rd, q⟩ := h
  obtain rfl : v = Value.ref a := rx
  obtain ⟨t, rfl⟩ := ry
  obtain ⟨z, lo, vs, rel, dd⟩ := dk_rd I.hok rd
  obtain ⟨o, es, ep, ho, hc, hd, _⟩ := dd
  show wpAny (model X.prog X.w) X.A (richCompare .Eq (.ref a) (.str b t)) _ _ s
  exact rc_dict_str b t ho hc.1 hd (by omega) ⟨.bl false, H, I, rfl, q⟩
def oEqS (x y : Val) : Option Val := match x, y with
  | .dk _, .im (.str _) => some (.im (.bl false))
  | x, y => oEq false x y
@[simp] theorem oEqS_dk (kvs : List (Key × T)) (b : Str) : oEqS (.dk kvs) (.im (.str b)) = some (.im (.bl false)) := rfl
@[simp] theorem oEqS_im (t u : T) : oEqS (.im t) (.im u) = oEq false (.im t) (.im u) := rfl
theorem op2_eqS : Op2 X st (fun x y H Q => rEqW X.K false x y H Q ∨ rDictStr x y H Q) oEqS := by
  intro H va vb xa xb y Q ha hb e q
  unfold oEqS at e
  split at e
  · rename_i kvs b
    cases e
    obtain ⟨rfl, ok⟩ := bor_str hb
    cases ha with
    | dk hd hr => exact .inr ⟨_, _, _, rfl, rfl, rd_hid hd, q _ H [] (Same.refl H) (.im (.bl _)) List.nodup_nil (fun _ z => by cases z)⟩
  · exact .inl (op2_eq H va vb _ _ y Q ha hb e q)
theorem rt_eqS {a b : Expr} {ma mb : ME} (hu : X.A.units + 64 < cLine) (ha : RE X W st a ma) (hb : RE X W st b mb) : RT X W st (.Compare a [.Eq] [b] pos) (tCp oEqS ma mb) := rt_cmp (op_or (op_eqW hu) (op_eqDS hu)) op2_eqS ha hb
theorem fe_eqS {a b : Expr} {ma mb : ME} (hu : X.A.units + 64 < cLine) (ha : RE X W st a ma) (hb : RE X W st b mb) : FE X W st (.Compare a [.Eq] [b] pos) (eBin oEqS ma mb) := fe_cmp (op_or (op_eqW hu) (op_eqDS hu)) op2_eqS ha hb
/-! ### the greatest of three, of a list -/
@[simp] def oMax3 : List Val → Option Val
  | [.im (.int i), .im (.int j), .im (.int k)] => some (.im (.int (max (max i j) k)))
  | _ => none
theorem numax {i j : Int} : nuMax2 (.int i) (.int j) = some (.int (max i j)) := by
  show some (if decide (i < j) = true then V.int j else V.int i) = _
  by_cases c : i < j
  · rw [if_pos (decide_eq_true c), Int.max_eq_right (by omega)]
  · rw [if_neg (by simpa using c), Int.max_eq_left (by omega)]
theorem fn_max3 : Fn X st (rNuC3 nuMax3) oMax3 := by
  intro H vs xs y Q hv e q
  unfold oMax3 at e
  split at e
  · rename_i i j k
    cases e
    obtain ⟨v1, v2, v3, rfl, h1, h2, h3⟩ : ∃ v1 v2 v3, vs = [v1, v2, v3] ∧ Bor X.K (hid st H) v1 (.im (.int i)) ∧ Bor X.K (hid st H) v2 (.im (.int j)) ∧ Bor X.K (hid st H) v3 (.im (.int k)) := by
      cases hv with
      | cons h1 hv =>
        cases hv with
        | cons h2 hv =>
          cases hv with
          | cons h3 hv => cases hv; exact ⟨_, _, _, rfl, h1, h2, h3⟩
    rw [bor_int h1, bor_int h2, bor_int h3]
    refine ⟨_, _, _, .int (max (max i j) k), rfl, ?_, q _ H [] (Same.refl H) (.im (.int _)) List.nodup_nil (fun _ z => by cases z)⟩
    unfold nuMax3
    rw [numax]
    exact numax
  · cases e
@[simp] def eMax3 := eFn oMax3
theorem fe_max3 {p : Pos} {e e2 e3 : Expr} {ms : MAs} (hc : X.calm = true) (hg : Gl X "max") (hm : X.mg "max" = none) (ha : RA X W st [e, e2, e3] ms) (he : starEach [e, e2, e3] X.env = (false, eval e X.env) :: starEach [e2, e3] X.env := by rfl) (hpl : (backTo pos (starEach [e2, e3] X.env)).any (·.1) = false := by rfl) :
    FE X W st (.Call (.Name "max" p) [e, e2, e3] [] pos) (eMax3 ms) := fe_callB (call_max3Nu hc) fn_max3 hg hm (by decide +kernel) ha (he := he) (hpl := hpl)
def maxI : List Int → Int
  | [] => 0
  | n :: ns => ns.foldl max n
theorem foldl_max : ∀ (ns : List Int) (n : Int), n ≤ ns.foldl max n ∧ (∀ m ∈ ns, m ≤ ns.foldl max n) ∧ (ns.foldl max n = n ∨ ns.foldl max n ∈ ns)
  | [], n => ⟨Int.le_refl _, by simp, .inl rfl⟩
  | k :: ns, n => by
    obtain ⟨a, b, c⟩ := foldl_max ns (max n k)
    rw [List.foldl_cons]
    refine ⟨by omega, fun m hm => ?_, ?_⟩
    · rcases List.mem_cons.mp hm with rfl | hm
      · omega
      · exact b m hm
    · rcases c with c | c
      · by_cases d : n ≤ k
        · right; rw [c, Int.max_eq_right d]; simp
        · left; rw [c, Int.max_eq_left (by omega)]
      · right; simp [c]
theorem maxI_mem {ns : List Int} (h : ns ≠ []) : maxI ns ∈ ns ∧ ∀ m ∈ ns, m ≤ maxI ns := by
  cases ns with
  | nil => exact absurd rfl h
  | cons n ns =>
    obtain ⟨a, b, c⟩ := foldl_max ns n
    refine ⟨?_, fun m hm => ?_⟩
    · rcases c with c | c
      · show ns.foldl max n ∈ _; rw [c]; simp
      · exact List.mem_cons_of_mem _ c
    · rcases List.mem_cons.mp hm with rfl | hm
      · exact a
      · exact b m hm
@[simp] def oMaxL : List Val → Option Val
  | [.il ts] => match ints? ts with
    | some ns => if 0 < ns.length then some (.im (.int (maxI ns))) else none
    | none => none
  | _ => none
theorem fn_maxL : Fn X st (rMax X.K) oMaxL := by
  intro H vs xs y Q hv e q
  unfold oMaxL at e
  split at e
  · rename_i ts
    cases ei : ints? ts with
    | none => rw [ei] at e; cases e
    | some ns =>
      rw [ei] at e
      dsimp only at e
      split at e
      · rename_i hl
        cases e
        obtain ⟨v, rfl, h⟩ := hv.one
        cases h with
        | @il a ws _ h1 h2 =>
          have := ints_rep h2 ei
          subst this
          refine ⟨a, ns, rfl, .of (not_hid h1), hl, fun m hm hg => ?_⟩
          obtain ⟨k1, k2⟩ := maxI_mem (ns := ns) (List.length_pos_iff.mp hl)
          have : m = maxI ns := Int.le_antisymm (k2 m hm) (hg _ k1)
          subst this
          exact q _ H [] (Same.refl H) (.im (.int _)) List.nodup_nil (fun _ z => by cases z)
      · cases e
  · cases e
@[simp] def eMaxL := eFn oMaxL
theorem fe_maxL {p : Pos} {e : Expr} {ms : MAs} (hc : X.calm = true) (hg : Gl X "max") (hm : X.mg "max" = none) (ha : RA X W st [e] ms) (he : starEach [e] X.env = (false, eval e X.env) :: starEach [] X.env := by rfl) : FE X W st (.Call (.Name "max" p) [e] [] pos) (eMaxL ms) := fe_callB (cr_max hc) fn_maxL hg hm (by decide +kernel) ha (he := he)
/-! ### {k: v} -/
@[simp] def eDisp (mk mv : ME) : ME := fun S z => (mk S z).bind fun x z => (mv S z).bind fun y z => match x, y with
  | .im t, .im u => match t.key? with
    | some k => .ok (.dk [(k, u)]) z
    | none => .no
  | _, _ => .no
theorem fe_disp {a b : Expr} {ma mb : ME} (ha : RE X W st a ma) (hb : RE X W st b mb) : FE X W st (.Dict [some a] [b] pos) (eDisp ma mb) := by
  obtain ⟨ta, pa, fa⟩ := ha
  obtain ⟨tb, pb, fb⟩ := hb
  refine ⟨_, pe_disp (pps_cons pa pb pps_nil) rfl rfl (by simp) (by simp), fun H0 B Ls G S z σ H Q h hq D nD => ?_⟩
  have sn : Same H (L2.upd H D (.dK [])) := Same.upd_new nD
  have h0 : Stt X.K st H0 B Ls ([D] ++ G) S z σ (L2.upd H D (.dK [])) := h.add (.of_same sn) (h.zr.new sn) (by simp) (fun a ha => by simp at ha; subst ha; exact nD) (fun a ha => by simp at ha; subst ha; exact ⟨_, upd_same, True.intro⟩)
  have nst : st ≠ some D := h.zr.free nD
  unfold eDisp at hq
  refine fa _ _ _ _ _ _ _ _ _ h0 ?_
  cases e1 : ma S z with
  | no => rw [e1] at hq; exact hq.elim
  | ex c z1 => rw [e1] at hq; exact fun cv d H' y => hq cv d H' ((SameX.of_same sn).trans y)
  | ok x z1 =>
    rw [e1] at hq
    intro H1 x1 hz1 v hv
    have h1 := h0.grow x1 hz1
    refine fb _ _ _ _ _ _ _ _ _ h1 ?_
    simp only [Rs.bind] at hq
    cases e2 : mb S z1 with
    | no => rw [e2] at hq; exact hq.elim
    | ex c z2 => rw [e2] at hq; exact fun cv d H' y => hq cv d H' (((SameX.of_same sn).trans x1).trans y)
    | ok y z2 =>
      rw [e2] at hq
      intro H2 x2 hz2 w hw
      have h2 := h1.grow x2 hz2
      have d2 : H2 D = some (.dK []) := x2.k D _ nst (x1.k D _ nst upd_same)
      dsimp only at hq
      split at hq
      · rename_i t u
        split at hq
        · rename_i k ek
          cases hv with
          | im hv =>
            cases hw with
            | im hw =>
              have rk := rep_key (repT_hid hv) ek
              have rw' := repT_hid hw
              refine ⟨d2, [(k, w)], by simp [rk], by simp, ?_⟩
              have s3 := h2.chgG (o := .dK [(k, w)]) d2 True.intro True.intro
              have le : Le H2 (L2.upd H2 D (.dK [(k, w)])) := Le.upd_dK d2
              have sx := SameX.two h s3 nD fun b o n1 n2 e => by
                rw [upd_ne n2]
                exact x2.k b o n1 (x1.k b o n1 (sn b o e))
              exact hq _ sx s3.zr (.ref D) [D] (.dk upd_same ⟨rfl, .one (rw'.mono le)⟩) s3
        · exact hq.elim
      · exact hq.elim
/-! ### {k: v, l: w} -/
@[simp] def eDisp2 (mk mv mk2 mv2 : ME) : ME := fun S z => (mk S z).bind fun x z => (mv S z).bind fun y z => (mk2 S z).bind fun x2 z => (mv2 S z).bind fun y2 z => match x, y, x2, y2 with
  | .im t, .im u, .im t2, .im u2 => match t.key?, t2.key? with
    | some k, some k2 => if k = k2 then .no else .ok (.dk [(k, u), (k2, u2)]) z
    | _, _ => .no
  | _, _, _, _ => .no
theorem merge2 {k k2 : Key} {v w : V} (ne : k ≠ k2) : mergeK [] [(k, v), (k2, w)] = [(k, v), (k2, w)] := by
  simp only [mergeK, List.foldl, putK]
  simp [ne, ne.symm]
theorem fe_disp2 {a b a2 b2 : Expr} {ma mb ma2 mb2 : ME} (ha : RE X W st a ma) (hb : RE X W st b mb) (ha2 : RE X W st a2 ma2) (hb2 : RE X W st b2 mb2) : FE X W st (.Dict [some a, some a2] [b, b2] pos) (eDisp2 ma mb ma2 mb2) := by
  obtain ⟨ta, pa, fa⟩ := ha
  obtain ⟨tb, pb, fb⟩ := hb
  obtain ⟨ta2, pa2, fa2⟩ := ha2
  obtain ⟨tb2, pb2, fb2⟩ := hb2
  refine ⟨_, pe_disp (pps_cons pa pb (pps_cons pa2 pb2 pps_nil)) rfl rfl (by simp) (by simp), fun H0 B Ls G S z σ H Q h hq D nD => ?_⟩
  have sn : Same H (L2.upd H D (.dK [])) := Same.upd_new nD
  have h0 : Stt X.K st H0 B Ls ([D] ++ G) S z σ (L2.upd H D (.dK [])) := h.add (.of_same sn) (h.zr.new sn) (by simp) (fun a ha => by simp at ha; subst ha; exact nD) (fun a ha => by simp at ha; subst ha; exact ⟨_, upd_same, True.intro⟩)
  have nst : st ≠ some D := h.zr.free nD
  unfold eDisp2 at hq
  refine fa _ _ _ _ _ _ _ _ _ h0 ?_
  cases e1 : ma S z with
  | no => rw [e1] at hq; exact hq.elim
  | ex c z1 => rw [e1] at hq; exact fun cv d H' y => hq cv d H' ((SameX.of_same sn).trans y)
  | ok x z1 =>
    rw [e1] at hq
    intro H1 x1 hz1 v hv
    have h1 := h0.grow x1 hz1
    refine fb _ _ _ _ _ _ _ _ _ h1 ?_
    simp only [Rs.bind] at hq
    cases e2 : mb S z1 with
    | no => rw [e2] at hq; exact hq.elim
    | ex c z2 => rw [e2] at hq; exact fun cv d H' y => hq cv d H' (((SameX.of_same sn).trans x1).trans y)
    | ok y z2 =>
      rw [e2] at hq
      intro H2 x2 hz2 w hw
      have h2 := h1.grow x2 hz2
      refine fa2 _ _ _ _ _ _ _ _ _ h2 ?_
      simp only [Rs.bind] at hq
      cases e3 : ma2 S z2 with
      | no => rw [e3] at hq; exact hq.elim
      | ex c z3 => rw [e3] at hq; exact fun cv d H' y => hq cv d H' ((((SameX.of_same sn).trans x1).trans x2).trans y)
      | ok x' z3 =>
        rw [e3] at hq
        intro H3 x3 hz3 v2 hv2
        have h3 := h2.grow x3 hz3
        refine fb2 _ _ _ _ _ _ _ _ _ h3 ?_
        simp only [Rs.bind] at hq
        cases e4 : mb2 S z3 with
        | no => rw [e4] at hq; exact hq.elim
        | ex c z4 => rw [e4] at hq; exact fun cv d H' y => hq cv d H' (((((SameX.of_same sn).trans x1).trans x2).trans x3).trans y)
        | ok y' z4 =>
          rw [e4] at hq
          intro H4 x4 hz4 w2 hw2
          have h4 := h3.grow x4 hz4
          have d4 : H4 D = some (.dK []) := x4.k D _ nst (x3.k D _ nst (x2.k D _ nst (x1.k D _ nst upd_same)))
          replace hw := hw.mono (x3.trans x4).hid
          dsimp only at hq
          split at hq
          · rename_i t u t2 u2
            split at hq
            · rename_i k k2 ek ek2
              split at hq
              · exact hq.elim
              · rename_i ne
                cases hv with
                | im hv =>
                  cases hw with
                  | im hw =>
                    cases hv2 with
                    | im hv2 =>
                      cases hw2 with
                      | im hw2 =>
                        have rk := rep_key (repT_hid hv) ek
                        have rk2 := rep_key (repT_hid hv2) ek2
                        have rw' := repT_hid hw
                        have rw2 := repT_hid hw2
                        refine ⟨d4, [(k, w), (k2, w2)], by simp [rk, rk2], by simp, ?_⟩
                        rw [merge2 ne]
                        have s5 := h4.chgG (o := .dK [(k, w), (k2, w2)]) d4 True.intro True.intro
                        have le : Le H4 (L2.upd H4 D (.dK [(k, w), (k2, w2)])) := Le.upd_dK d4
                        have sx := SameX.two h s5 nD fun b o n1 n2 e => by
                          rw [upd_ne n2]
                          exact x4.k b o n1 (x3.k b o n1 (x2.k b o n1 (x1.k b o n1 (sn b o e))))
                        exact hq _ sx s5.zr (.ref D) [D] (.dk upd_same ⟨rfl, .cons (rw'.mono le) (.one (rw2.mono le))⟩) s5
            · exact hq.elim
          · exact hq.elim
/-! ### a, b = x, y -/
@[simp] def sPar (i j : Nat) (ms : MAs) : MS := fun S z => (ms S z).go S fun xs z => match xs with
  | [.im t, .im u] => if i < S.length ∧ j < S.length then .nx ((S.set i (.o (.im t))).set j (.o (.im u))) z else .no
  | _ => .no
theorem se_par (i j : Nat) {x y : Str} {a b : Expr} {ms : MAs} {px py pt : Pos} {kt k2 pt2} (hc : X.calm = true) (hN : X.N.Nodup) (ha : RA X W st [a, b] ms) (hij : i ≠ j := by decide) (hi : X.N[i]? = some x := by rfl) (hj : X.N[j]? = some y := by rfl)
    (hx : X.env.scope.names.lookup x = some .local := by rfl) (hy : X.env.scope.names.lookup y = some .local := by rfl)
    (hw : swappedStores [.Tuple [.Name x px, .Name y py] kt pt] (.Tuple [a, b] k2 pt2) X.env = pure (some [x, y]) := by rfl)
    (hs : swapsWithSole [.Tuple [.Name x px, .Name y py] kt pt] (.Tuple [a, b] k2 pt2) pos.line X.env = pure false := by rfl) :
    SE X W st (.Assign [.Tuple [.Name x px, .Name y py] kt pt] (.Tuple [a, b] k2 pt2) pos) (sPar i j ms) := by
  obtain ⟨t, p, f⟩ := ha
  refine ⟨_, ps_par hc hN hi hj hij hx hy p hw hs, fun H0 B Ls S z σ H D h hq => ?_⟩
  refine f H0 B Ls [] S z σ H _ h (Cs.go h hq fun xs z1 H1 _ x1 hz1 hq1 vs hvs => ?_)
  have h1 := h.grow x1 hz1
  split at hq1
  · split at hq1
    · rename_i hl
      obtain ⟨v, w, rfl, b1, b2⟩ := hvs.two
      cases b1 with
      | im r1 =>
        cases b2 with
        | im r2 =>
          refine ⟨v, w, rfl, hq1 _ _ ?_⟩
          exact Stt.put (G' := []) (Stt.put (G' := []) h1 (.im (repT_hid r1)) hl.1) (.im (repT_hid r2)) (by simpa using hl.2)
    · exact hq1.elim
  · exact hq1.elim
/-! ### xs[::-1] -/
@[simp] def eRevL (m : ME) : ME := fun S z => (m S z).bind fun x z => match x with
  | .il ts => .ok (.il ts.reverse) z
  | _ => .no
theorem reps_rev {K : PySem.W.Frag} {H : Hp} : ∀ {ts : List T} {vs : List V}, RepTs K H vs ts → RepTs K H vs.reverse ts.reverse
  | [], _, h => by cases h; exact .nil
  | t :: ts, _, h => by
    cases h with
    | cons h1 h2 =>
      rw [List.reverse_cons, List.reverse_cons]
      exact (reps_rev h2).append (.one h1)
theorem fe_revL {e : Expr} {m : ME} {k : Nat} {p1 p2 p3 : Pos} (he : RE X W st e m) : FE X W st (.Subscript e (.Slice none none (some (.UnaryOp .USub (.Constant (.int 1) k p1) p2)) p3) pos) (eRevL m) := by
  obtain ⟨t, p, f⟩ := he
  refine ⟨_, pe_revL p, fun H0 B Ls G S z σ H Q h hq => ?_⟩
  refine f H0 B Ls G S z σ H _ h (hq.bind fun x z1 H1 _ x1 hz1 hq1 v hv => ?_)
  have h1 := h.grow x1 hz1
  split at hq1
  · rename_i ts _
    cases hv with
    | @il a xs _ r1 r2 =>
      refine ⟨a, xs, rfl, .of (not_hid r1), fun q nq => ?_⟩
      have sn : Same H1 (L2.upd H1 q (.lst xs.reverse)) := Same.upd_new nq
      exact Ct.fin h1 hq1 sn (.il upd_same ((reps_rev (rep_hid r2)).mono (Le.of_same sn))) (by simp) (fun a ha => by simp at ha; subst ha; exact nq)
  · exact hq1.elim
end
end MM
namespace MM
open PySem PySem.Spec PyProof.Rows L2
section
variable {X : Cx} {W : WX} {st : Option Addr} {pos : Pos}
theorem ps_setDc {i : Nat} {y : Str} {py : Pos} {kx vx tg iter : Expr} {ifs : List Expr} {scope : Scope} {own : List (Str × Nat)} {pos spos : Pos} {wi : TI} {g : TG} {tt : TT} {tk tv : TE} (hc : X.calm = true) (hN : X.N.Nodup) (hy : X.N[i]? = some y) (hyl : X.env.scope.names.lookup y = some .local)
    (hsw : swapsWith (.DictComp kx vx [⟨tg, iter, ifs, 0⟩] scope pos) (some (.Name y py)) spos.line X.env = pure true) (hi : PI X tg iter wi) (ok : BlkOk X.N X.env.scope scope own)
    (hg : ∀ (s : Shared) (H : Hp) (C : Addr) (cl : List (Str × Addr)) (fp : List Addr), PG (X.blk s H scope (compEnvC scope cl C X.env) fp) tg g) (ht : ∀ (s : Shared) (H : Hp) (C : Addr) (cl : List (Str × Addr)) (fp : List Addr), PTs (X.blk s H scope (compEnvC scope cl C X.env) fp) ifs tt)
    (hk : ∀ (s : Shared) (H : Hp) (C : Addr) (cl : List (Str × Addr)) (fp : List Addr), PE (X.blk s H scope (compEnvC scope cl C X.env) fp) kx tk)
    (he : ∀ (s : Shared) (H : Hp) (C : Addr) (cl : List (Str × Addr)) (fp : List Addr), PE (X.blk s H scope (compEnvC scope cl C X.env) fp) vx tv) (hs : ∀ x, foldedSetIterable iter X.env x = pure x := by intro _; rfl) :
    PS X (.Assign [.Name y py] (.DictComp kx vx [⟨tg, iter, ifs, 0⟩] scope pos) spos) (tAsg (tDc wi g tt tk tv (own.map (·.2))) (gName i)) := by
  refine ⟨fun pins s σ H D I h => ?_⟩
  rw [exec_Assign_Name_used _ _ _ _ hsw]
  refine wpAny_bind (wpAny_standAt (wpAny_bind ?_))
  show wpAny _ X.A (do let _ ← comprehension (.DictComp kx vx [⟨tg, iter, ifs, 0⟩] scope pos) scope X.env (firstIterPos [⟨tg, iter, ifs, 0⟩] pos) newDict false (eval iter X.env) (some (assign (.Name y py) X.env))) _ _ s
  have h : tDc wi g tt tk tv (own.map (·.2)) σ H (fun x H1 => gName i x σ H1 D.nx) := h
  refine wpAny_bind (thn (dc_core (Qf := fun _ s' => SP X pins D .next s') hc hN I hi ok hg ht hk he hs h fun L C s' m H' I' q hn f => ?_) fun _ s' hq => wpAny_pure (wpAny_pure hq))
  show wpAny _ _ (assign (.Name y py) X.env (.ref L)) _ _ _
  refine wpAny_assign_Name (store_ok2 (v := V.ref L) I' hN hy (.inl hyl) rfl (fun s2 I2 ⟨a, sb, ha⟩ => ?_) (.inr hyl))
  obtain ⟨f0, f1, f2, f3, f4, f5⟩ := f
  have haC : C ≠ a := by
    rcases ha with z | z
    · rw [z]; exact f1
    · exact fun e => f4 y a z e.symm
  refine ⟨m, hn.sameBut sb haC, fun h3 sb3 => ?_⟩
  exact ⟨_, H', I2.turned (t' := s2.toks) (fun b o hb e => (sb3.2 b hb).trans e) f0 f1 f3 f4 f5, q⟩
theorem sw_trueD {kx vx : Expr} {gs : List Comprehension} {scope : Scope} {pos py : Pos} {y : Str} {l : Nat} {env : Env} (hk : env.scope.kind = .function) (hy : env.scope.names.lookup y = some .local) (hl : (py.line == pos.line) = true)
    (ha : (scope.names.any fun (n, k) => n == y && (k == .local || k == .cell)) = false) : swapsWith (.DictComp kx vx gs scope pos) (some (.Name y py)) l env = pure true := by
  have ky : env.kindOf y = some .local := hy
  have hb : env.blockKind = .function := by unfold Env.blockKind; rw [hk]; rfl
  unfold swapsWith
  simp only [hb, ky, ha, Expr.pos, hl]
  rfl
theorem se_setDcD (k i : Nat) {ek ev tg : Expr} {ifs : List Expr} {scope : Scope} {x d y : Str} {xp py lp : Pos} {c : MT} {mk mv : ME} (j : Nat) (hc : X.calm = true) (hN : X.N.Nodup) (hy : X.N[k]? = some y) (hyl : X.env.scope.names.lookup y = some .local)
    (hsw : swapsWith (.DictComp ek ev [⟨tg, .Name d xp, ifs, 0⟩] scope lp) (some (.Name y py)) pos.line X.env = pure true) (ok : BlkOk X.N X.env.scope scope [(x, j)])
    (hg : ∀ s H C cl fp, PG (Bk X scope s H C cl fp) tg (gName j)) (ht : ∀ s H C cl fp, RTs (Bk X scope s H C cl fp) W0 st ifs c) (hk : ∀ s H C cl fp, RE (Bk X scope s H C cl fp) W0 st ek mk) (he : ∀ s H C cl fp, RE (Bk X scope s H C cl fp) W0 st ev mv)
    (hi : X.N[i]? = some d := by rfl) (hv : Vis X.env.scope d := by first | exact Or.inl rfl | exact Or.inr (Or.inl rfl) | exact Or.inr (Or.inr rfl)) (hd : (d == ("__debug__" : Str)) = false := by decide) (hcd : (d == ("__classdict__" : Str)) = false := by decide)
    (hs : ∀ x, foldedSetIterable (.Name d xp) X.env x = pure x := by intro _; rfl) : SE X W st (.Assign [.Name y py] (.DictComp ek ev [⟨tg, .Name d xp, ifs, 0⟩] scope lp) pos) (sSet k (eDcD i j c mk mv)) := by
  obtain ⟨tt, pt, ft⟩ := rts_uni ht
  obtain ⟨tk, pk, fk⟩ := re_uni hk
  obtain ⟨te, pe, fe⟩ := re_uni he
  have p0 := ps_setDc hc hN hy hyl hsw (pi_keys (tg := tg) (pe_var (X := X) (pos := xp) hi hv hd hcd)) ok hg pt pk pe hs (pos := lp) (spos := pos)
  refine ⟨fun D σ H => tLockE (tDc (iKeys (tVar i)) (gName j) tt tk te [j]) σ H (fun v H1 => gName k v σ H1 D.nx) ∨ tDc (iKeys (tVar i)) (gName j) tt tk te [j] σ H (fun v H1 => gName k v σ H1 D.nx), ?_, fun H0 B Ls S z σ H D h hq => ?_⟩
  · exact ⟨fun pins s σ H D I hw => hw.elim (fun q => (ps_lock p0).run pins s σ H D I (let ⟨d, u, h1, h2, h3⟩ := q; ⟨d, u, h1, h2, fun od => h3 od⟩)) fun q => p0.run pins s σ H D I q⟩
  · unfold sSet at hq
    split at hq
    · rename_i hl
      refine dcD_rd i j ft fk fe H0 B Ls [] S z σ H _ h (Cs.go h hq fun y z1 H1 _ x1 hz1 hq1 v G' ow h1 => ?_)
      exact hq1 _ H1 (h1.put ow hl)
    · exact hq.elim
end
end MM
namespace MM
open PySem PySem.Spec PyProof.Rows L2
section
variable {X : Cx} {W : WX} {st : Option Addr} {pos : Pos}
/-- return a if c else x: a slot goes with all it owns -/
theorem se_retIfV (i : Nat) {c a : Expr} {mc : MT} {ma : ME} {x : Str} {p ip : Pos} (hc : RT X W st c mc) (ha : FE X W st a ma) (hN : X.N[i]? = some x := by rfl) (hv : Vis X.env.scope x := by first | exact Or.inl rfl | exact Or.inr (Or.inl rfl) | exact Or.inr (Or.inr rfl)) (hd : (x == ("__debug__" : Str)) = false := by decide)
    (hcd : (x == ("__classdict__" : Str)) = false := by decide) : SE X W st (.Return (some (.IfExp c a (.Name x p) ip)) pos) (sIf mc (sRet ma) (sRetV i)) := by
  obtain ⟨t, pt, f⟩ := hc
  obtain ⟨ta, pa, fa⟩ := ha
  refine ⟨tRet (tIf t ta (tVar i)), ps_ret (pe_ifExp pt pa (pe_var hN hv hd hcd)), fun H0 B Ls S z σ H D h hq => ?_⟩
  refine f H0 B Ls [] S z σ H _ h (Cs.go h hq fun k z1 H1 _ x1 hz1 hq1 => ?_)
  have h1 := h.grow x1 hz1
  cases k with
  | true =>
    rw [if_pos rfl] at hq1
    refine iteT (fa H0 B Ls [] S z1 σ H1 _ h1 (Cs.go h1 hq1 fun x z2 H2 _ x2 hz2 hq2 v G' ow h2 => ?_))
    obtain ⟨Gs, hs, nd, fr⟩ := h2.ex
    rw [List.append_nil] at nd fr
    exact hq2 v H2 G' h2.fr h2.ble hz2 ow (List.nodup_append.mp nd).1 fun a ha => (fr a (List.mem_append_left _ ha)).1
  | false =>
    rw [if_neg (by simp)] at hq1
    refine iteF ?_
    obtain ⟨Gs, hs, nd, fr⟩ := h1.ex
    rw [List.nil_append] at nd fr
    unfold sRetV at hq1
    split at hq1
    · rename_i y e
      obtain ⟨v, G1, Ga, Gb, e1, ow, eg, _⟩ := hs.get_o e
      refine ⟨v, e1, hq1 v H1 G1 h1.fr h1.ble h1.zr ow ?_ fun a ha => (fr a (by rw [eg]; simp [ha])).1⟩
      rw [eg] at nd
      exact (List.nodup_append.mp (List.nodup_append.mp nd).1).2.1
    · rename_i t e
      obtain ⟨v, e1, bw⟩ := hs.get_b e
      cases bw with
      | im r => exact ⟨v, e1, hq1 v H1 [] h1.fr h1.ble h1.zr (.im ((r.mono (Le.of_same h1.fr.hid)).mono (Le.of_same (hid_same st H1)))) List.nodup_nil (fun _ z => by cases z)⟩
    · rename_i t e
      obtain ⟨v, e1, el⟩ := hs.get_lk e
      cases h1.lks i v _ el with
      | im r => exact ⟨v, e1, hq1 v H1 [] h1.fr h1.ble h1.zr (.im (r.mono (Le.of_same h1.ble))) List.nodup_nil (fun _ z => by cases z)⟩
    · exact hq1.elim
end
end MM
namespace MM
open PySem PySem.Spec PyProof.Rows L2
/-! ### *xs within a list display -/
@[simp] def aStar (m : ME) (ms : MAs) : MAs := fun S z => (m S z).bind fun x z => match items x with
  | some ts => (ms S z).bind fun ys z => .ok (ts.map .im ++ ys) z
  | none => .no
theorem bors_of {K : PySem.W.Frag} {H : Hp} : ∀ {ts : List T} {vs : List V}, RepTs K H vs ts → BorS K H vs (ts.map Val.im)
  | [], _, h => by cases h; exact .nil
  | t :: ts, _, h => by cases h with | cons h1 h2 => exact .cons (.im h1) (bors_of h2)
theorem bors_app {K : PySem.W.Frag} {H : Hp} : ∀ {xs ys : List Val} {vs ws : List V}, BorS K H vs xs → BorS K H ws ys → BorS K H (vs ++ ws) (xs ++ ys)
  | _, _, _, _, .nil, h => h
  | _, _, _, _, .cons a r, h => .cons a (bors_app r h)
section
variable {X : Cx} {W : WX} {st : Option Addr} {pos : Pos}
theorem ra_star {e : Expr} {es : List Expr} {m : ME} {ms : MAs} {p : Pos} (he : RE X W st e m) (hr : RA X W st es ms) (hs : starEach (.Starred e p :: es) X.env = (true, eval e X.env) :: starEach es X.env := by rfl) : RA X W st (.Starred e p :: es) (aStar m ms) := by
  obtain ⟨t, p, f⟩ := he
  obtain ⟨ts, ps, fs⟩ := hr
  refine ⟨_, StX.pa_star p ps hs, fun H0 B Ls G S z σ H Q h hq => ?_⟩
  refine f H0 B Ls G S z σ H _ h (hq.bind fun x z1 H1 _ x1 hz1 hq1 v hv => ?_)
  have h1 := h.grow x1 hz1
  have fin : ∀ {us : List T} {a : Addr} {xs : List V}, items x = some us → v = .ref a → (SqT X.K H1 a xs ∨ SqL X.K H1 a xs) → RepTs X.K (hid st H1) xs us → ∃ p xs, v = V.ref p ∧ (SqT X.K H1 p xs ∨ SqL X.K H1 p xs) ∧ ts σ H1 fun ys H2 => Q (xs ++ ys) H2 := fun {us a xs} ei ev hx hr => by
    rw [ei] at hq1
    refine ⟨a, xs, ev, hx, fs H0 B Ls G S z1 σ H1 _ h1 (hq1.bind fun ys z2 H2 _ x2 hz2 hq2 ws hws => ?_)⟩
    exact hq2.ok hz2 (xs ++ ws) (bors_app (bors_of (hr.mono (Le.of_same x2.hid))) hws)
  cases x with
  | im u =>
    cases u with
    | tup us =>
      cases hv with
      | im hv =>
        cases hv with
        | tup r1 r2 => exact fin rfl rfl (.inl (sqt_hid r1)) r2
    | _ => exact hq1.elim
  | il us =>
    cases hv with
    | il r1 r2 => exact fin rfl rfl (.inr (.of (not_hid r1))) r2
  | _ => exact hq1.elim
/-! ### what a slot owns is taken out of it -/
theorem Stt.take {K : PySem.W.Frag} {H0 B H : Hp} {Ls : List (Option (V × Val))} {G : List Addr} {S : List Sv} {z : Zs} {σ : L2.St} (h : Stt K st H0 B Ls G S z σ H) {i : Nat} {x : Val} (e : S[i]? = some (.o x)) :
    ∃ v G1, σ[i]? = some (some v) ∧ Own K H v x G1 ∧ Stt K st H0 B Ls (G1 ++ G) (S.set i .un) z σ H := by
  obtain ⟨Gs, hs, nd, fr⟩ := h.ex
  obtain ⟨v, G1, Ga, Gb, e1, o1, eg, put⟩ := hs.get_o e
  have li : i < Ls.length := by
    have h2 : Ls.length = S.length := hs.lengthL
    rw [h2]
    exact (List.getElem?_eq_some_iff.mp e).1
  have put' := put (hid st H0) H Ls[i] .un (some v) [] (fun _ _ q => q) (Le.of_same (Same.refl H)) (fun _ _ _ q => q) (.un .nil)
  have es : σ.set i (some v) = σ := by
    apply List.ext_getElem?
    intro k
    rw [List.getElem?_set]
    split
    · rename_i c
      subst c
      split
      · exact e1.symm
      · rename_i c; rw [List.getElem?_eq_none (by omega)]
    · rfl
  have el : Ls.set i Ls[i] = Ls := by simp
  rw [es, el] at put'
  have pm : List.Perm (G ++ Gs) (G1 ++ G ++ (Ga ++ [] ++ Gb)) := by
    rw [eg, List.append_nil]
    have : List.Perm (Ga ++ G1 ++ Gb) (G1 ++ (Ga ++ Gb)) := by
      rw [List.append_assoc]
      exact (List.perm_append_comm_assoc Ga G1 Gb)
    refine (List.Perm.append_left G this).trans ?_
    rw [← List.append_assoc, ← List.append_assoc, ← List.append_assoc, List.append_assoc G1, List.append_assoc (G ++ G1), List.append_assoc G1]
    refine List.Perm.trans ?_ (List.Perm.refl _)
    have q : List.Perm (G ++ G1) (G1 ++ G) := List.perm_append_comm
    have := List.Perm.append_right (Ga ++ Gb) q
    simpa [List.append_assoc] using this
  refine ⟨v, G1, e1, o1, h.fr, h.zr, h.ble, h.z0, h.bst, fun a ha => ?_, h.lks, _, put', pm.nodup_iff.mp nd, fun a ha => fr a (pm.mem_iff.mpr ha)⟩
  rcases List.mem_append.mp ha with q | q
  · exact o1.there a q
  · exact h.gt a q
/-- x = y, and y is used no more -/
@[simp] def sMov (i j : Nat) : MS := fun S z => match S[j]? with
  | some (.o x) => if i < S.length ∧ i ≠ j then .nx ((S.set j .un).set i (.o x)) z else .no
  | _ => .no
theorem se_mov (i j : Nat) {x y : Str} {px py : Pos} (hnd : X.N.Nodup) (hx : Loc X.env.scope x) (hi : X.N[i]? = some x := by rfl) (hj : X.N[j]? = some y := by rfl) (hv : Vis X.env.scope y := by first | exact Or.inl rfl | exact Or.inr (Or.inl rfl) | exact Or.inr (Or.inr rfl)) (hd : (y == ("__debug__" : Str)) = false := by decide)
    (hcd : (y == ("__classdict__" : Str)) = false := by decide) (hf : X.fn x = true ∨ X.env.scope.names.lookup x = some .local := by first | exact .inl rfl | exact .inr rfl)
    (hs : swapsWithSole [.Name x px] (.Name y py) pos.line X.env = pure false := by rfl) (hw : swappedStores [.Name x px] (.Name y py) X.env = pure none := by rfl) : SE X W st (.Assign [.Name x px] (.Name y py) pos) (sMov i j) := by
  refine ⟨_, ps_asg (pe_var (X := X) (pos := py) hj hv hd hcd) (pg_name (pos := px) hnd hi hx hf) hs hw, fun H0 B Ls S z σ H D h hq => ?_⟩
  unfold sMov at hq
  split at hq
  · rename_i u e
    split at hq
    · rename_i hl
      obtain ⟨v, G1, e1, ow, h2⟩ := h.take e
      exact ⟨v, e1, hq _ _ (Stt.put (G' := G1) (G := []) (by simpa using h2) ow (by simpa using hl.1))⟩
    · exact hq.elim
  · exact hq.elim
/-! ### a pair with a slot in it is given back -/
@[simp] def sRetT (m : ME) (j : Nat) : MS := fun S z => (m S z).go S fun x z => match x, S[j]? with
  | .im t, some (.o y) => .rt (.tup [.im t, y]) z
  | _, _ => .no
theorem se_retT (j : Nat) {a : Expr} {y : Str} {p tp : Pos} {kk : Nat} {m : ME} (ha : RE X W st a m) (hj : X.N[j]? = some y := by rfl) (hv : Vis X.env.scope y := by first | exact Or.inl rfl | exact Or.inr (Or.inl rfl) | exact Or.inr (Or.inr rfl)) (hd : (y == ("__debug__" : Str)) = false := by decide)
    (hcd : (y == ("__classdict__" : Str)) = false := by decide) (hs : starEach [a, .Name y p] X.env = (false, eval a X.env) :: starEach [.Name y p] X.env := by rfl) (hs2 : starEach [.Name y p] X.env = (false, eval (.Name y p) X.env) :: starEach [] X.env := by rfl) :
    SE X W st (.Return (some (.Tuple [a, .Name y p] kk tp)) pos) (sRetT m j) := by
  obtain ⟨t, pa, f⟩ := ha
  refine ⟨_, ps_ret (pe_tup (pa_cons pa (pa_cons (pe_var (X := X) (pos := p) hj hv hd hcd) pa_nil hs2) hs)), fun H0 B Ls S z σ H D h hq => ?_⟩
  unfold sRetT at hq
  refine f H0 B Ls [] S z σ H _ h (Cs.go h hq fun x z1 H1 _ x1 hz1 hq1 v hv => ?_)
  have h1 := h.grow x1 hz1
  cases x with
  | im u =>
    cases e : S[j]? with
    | none => rw [e] at hq1; exact hq1.elim
    | some sv =>
      rw [e] at hq1
      cases sv with
      | o y =>
        obtain ⟨v2, G1, e1, ow, h2⟩ := h1.take e
        cases hv with
        | im r =>
          have rv := repT_hid r
          refine ⟨v2, e1, by simp, fun q nq => ?_⟩
          have sn : Same H1 (L2.upd H1 q (.tup [v, v2])) := Same.upd_new nq
          have le := Le.of_same sn
          have ow2 : Own X.K (L2.upd H1 q (.tup [v, v2])) v2 y G1 := ow.mono le fun a _ o ea => sn a o ea
          have key : Own X.K (L2.upd H1 q (.tup [v, v2])) (.ref q) (.tup [.im u, y]) (((List.range [v, v2].length).map fun i => if i = 1 then G1 else []).flatten) := by
            refine .tup (fun i => if i = 1 then G1 else []) (.inl (.inl upd_same)) rfl fun i a b ea eb => ?_
            match i with
            | 0 => simp at ea eb; subst ea eb; exact .im (rv.mono le)
            | 1 => simp at ea eb; subst ea eb; exact ow2
            | i + 2 => simp at ea
          have eG : (((List.range [v, v2].length).map fun i => if i = 1 then G1 else []).flatten) = G1 := by simp [List.range_succ]
          rw [eG] at key
          obtain ⟨Gs, _, nd, fr⟩ := h2.ex
          rw [List.append_nil] at nd fr
          have sx : SameX st H1 (L2.upd H1 q (.tup [v, v2])) := .of_same sn
          have h3 := h1.grow sx (h1.zr.new sn)
          exact hq1 _ _ G1 h3.fr h3.ble h3.zr key (List.nodup_append.mp nd).1 fun a ha => (fr a (List.mem_append_left _ ha)).1
      | _ => exact hq1.elim
  | _ => exact hq1.elim
end
end MM
namespace MM
open PySem PySem.Spec PyProof.Rows L2
section
variable {X : Cx} {W : WX} {st : Option Addr} {pos : Pos}
/-- an object that a slot owns is changed -/
theorem Stt.chgE {K : PySem.W.Frag} {H0 B H : Hp} {Ls : List (Option (V × Val))} {G : List Addr} {S : List Sv} {z : Zs} {σ : L2.St} (h : Stt K st H0 B Ls G S z σ H) {i : Nat} {x : Val} (e : S[i]? = some (.o x)) :
    ∃ v G1, σ[i]? = some (some v) ∧ Own K H v x G1 ∧ G1.Nodup ∧ ∀ (l : Addr) (o u : HO) (y : Val), l ∈ G1 → H l = some u → Mu u → Mu o → Own K (L2.upd H l o) v y G1 → Stt K st H0 B Ls G (S.set i (.o y)) z σ (L2.upd H l o) := by
  obtain ⟨Gs, hs, nd, fr⟩ := h.ex
  obtain ⟨v, G1, Ga, Gb, e1, o1, eg, put⟩ := hs.get_o e
  have nd' := nd
  rw [eg] at nd'
  have p : List.Perm (G ++ (Ga ++ G1 ++ Gb)) (G1 ++ (G ++ Ga ++ Gb)) := by
    have a1 : List.Perm (Ga ++ G1 ++ Gb) (G1 ++ (Ga ++ Gb)) := by
      rw [List.append_assoc]
      exact List.perm_append_comm_assoc Ga G1 Gb
    refine (List.Perm.append_left G a1).trans ?_
    rw [List.append_assoc G Ga Gb]
    exact List.perm_append_comm_assoc G G1 (Ga ++ Gb)
  have nd2 := p.nodup_iff.mp nd'
  obtain ⟨n1, n2, n3⟩ := List.nodup_append.mp nd2
  refine ⟨v, G1, e1, o1, n1, fun l o u y lm hu mu mo o2 => ?_⟩
  have fl := fr l (by rw [eg]; simp [lm])
  obtain ⟨sx, zr⟩ := SameX.upd h o fl.1
  have nin : ∀ a, a ∈ G ∨ a ∈ Ga ∨ a ∈ Gb → a ≠ l := fun a ha c => by
    subst c
    exact n3 a lm a (by simp only [List.mem_append]; rcases ha with q | q | q; exact .inl (.inl q); exact .inl (.inr q); exact .inr q) rfl
  have li : i < Ls.length := by
    have h2 : Ls.length = S.length := hs.lengthL
    rw [h2]
    exact (List.getElem?_eq_some_iff.mp e).1
  have put' := put (hid st H0) (L2.upd H l o) Ls[i] (.o y) (some v) (G1 ++ []) (fun _ _ q => q) (Le.upd_mu hu mu) (fun a ha u' q => by rw [upd_ne (nin a (by simp only [List.mem_append] at ha; exact .inr ha))]; exact q) (.o o2 .nil)
  have es : σ.set i (some v) = σ := by
    apply List.ext_getElem?
    intro k
    rw [List.getElem?_set]
    split
    · rename_i c
      subst c
      split
      · exact e1.symm
      · rename_i c; rw [List.getElem?_eq_none (by omega)]
    · rfl
  have el : Ls.set i Ls[i] = Ls := by simp
  rw [es, el] at put'
  refine ⟨sx, zr, fun a u' q => ?_, h.z0, h.bst, fun a ha => ?_, h.lks, Ga ++ (G1 ++ []) ++ Gb, put', ?_, ?_⟩
  · rw [upd_ne (ne_of_none q fl.2)]; exact h.ble a u' q
  · obtain ⟨u', q, m⟩ := h.gt a ha
    exact ⟨u', by rw [upd_ne (nin a (.inl ha))]; exact q, m⟩
  · simpa using nd'
  · intro a ha
    refine fr a ?_
    rw [eg]
    simpa using ha
/-- x[k].append(y): x a tuple with a list in it, y a name -/
@[simp] def sAppN (i k j : Nat) : MS := fun S z => match S[i]? with
  | some (.o (.tup vs)) => match vs[k]? with
    | some (.il ts) => match S[j]? with
      | some (.o (.im t)) => if ts.length < sizeLine then .nx (S.set i (.o (.tup (vs.set k (.il (ts ++ [t])))))) z else .no
      | some (.b (.im t)) => if ts.length < sizeLine then .nx (S.set i (.o (.tup (vs.set k (.il (ts ++ [t])))))) z else .no
      | _ => .no
    | _ => .no
  | _ => .no
theorem own_tup {K : PySem.W.Frag} {H : Hp} {v : V} {vs : List Val} {G : List Addr} {k : Nat} {ts : List T} (h : Own K H v (.tup vs) G) (hk : vs[k]? = some (.il ts)) : ∃ a xs l ws, v = .ref a ∧ SqT K H a xs ∧ xs.length = vs.length ∧ xs[k]? = some (.ref l) ∧ H l = some (.lst ws) ∧ RepTs K H ws ts ∧ l ∈ G ∧
    (G.Nodup → ∀ (w : V) (t : T), RepT K H w t → Own K (L2.upd H l (.lst (ws ++ [w]))) v (.tup (vs.set k (.il (ts ++ [t])))) G) := by
  cases h with
  | tnil q => simp at hk
  | @tup a xs _ f q hl hh =>
    obtain ⟨hk1, hk2⟩ := List.getElem?_eq_some_iff.mp hk
    have hx : xs[k]? = some xs[k] := List.getElem?_eq_getElem (by omega)
    have ok := hh k _ _ hx hk
    obtain ⟨l, ws, el, ef, hw, hr⟩ := own_il ok
    rw [el] at hx
    have lm : l ∈ ((List.range xs.length).map f).flatten := List.mem_flatten.mpr ⟨f k, List.mem_map.mpr ⟨k, List.mem_range.mpr (by omega), rfl⟩, by rw [ef]; simp⟩
    refine ⟨a, xs, l, ws, rfl, q, hl, hx, hw, hr, lm, fun nd w t rw' => ?_⟩
    have le : Le H (L2.upd H l (.lst (ws ++ [w]))) := Le.upd_lst hw
    refine .tup f (le.sqt q) (by simpa using hl) fun i u x eu ex => ?_
    rw [List.getElem?_set] at ex
    by_cases c : k = i
    · subst c
      rw [if_pos rfl, if_pos hk1] at ex
      cases ex
      rw [hx] at eu
      cases eu
      rw [ef]
      exact .il upd_same ((hr.append (.one rw')).mono le)
    · rw [if_neg c] at ex
      refine (hh i u x eu ex).mono le fun b hb o eb => ?_
      have hi : i < xs.length := (List.getElem?_eq_some_iff.mp eu).1
      have : b ≠ l := fun q => by
        subst q
        have pw := (List.pairwise_flatten.mp nd).2
        have pw2 := List.pairwise_iff_getElem.mp pw
        rcases Nat.lt_or_gt_of_ne c with g | g
        · exact pw2 k i (by simp; omega) (by simp; omega) g b (by simp [ef]) b (by simpa using hb) rfl
        · exact pw2 i k (by simp; omega) (by simp; omega) g b (by simpa using hb) b (by simp [ef]) rfl
      rw [upd_ne this]; exact eb
theorem se_appN (i k j : Nat) {x y : Str} {kk : Nat} {p kp sp ap cp py : Pos} (hu : X.A.units + 1 < cLine) (c : ClT X (.Subscript (.Name x p) (.Constant (.int k) kk kp) sp) "append" ap cp (.Name y py) := by exact ⟨rfl, rfl, rfl, rfl, rfl⟩) (hN : X.N[i]? = some x := by rfl)
    (hv : Vis X.env.scope x := by first | exact Or.inl rfl | exact Or.inr (Or.inl rfl) | exact Or.inr (Or.inr rfl)) (hd : (x == ("__debug__" : Str)) = false := by decide) (hcd : (x == ("__classdict__" : Str)) = false := by decide)
    (hN2 : X.N[j]? = some y := by rfl) (hv2 : Vis X.env.scope y := by first | exact Or.inl rfl | exact Or.inr (Or.inl rfl) | exact Or.inr (Or.inr rfl)) (hd2 : (y == ("__debug__" : Str)) = false := by decide) (hcd2 : (y == ("__classdict__" : Str)) = false := by decide)
    (hpx : PlainIx (.Constant (.int k) kk kp) := by exact fun _ _ => rfl)
    (hs : swapsWith (.Call (.Attribute (.Subscript (.Name x p) (.Constant (.int k) kk kp) sp) "append" ap) [.Name y py] [] cp) none pos.line X.env = pure false := by rfl) :
    SE X W st (.Expr (.Call (.Attribute (.Subscript (.Name x p) (.Constant (.int k) kk kp) sp) "append" ap) [.Name y py] [] cp) pos) (sAppN i k j) := by
  refine ⟨_, ps_expr (pe_bm PySem.F.plainAttrs_list PySem.F.slot_list_append PySem.F.type_list_append mt_append (pe_ix (ix_all hu) (pe_var (X := X) (pos := p) hN hv hd hcd) (pe_int (X := X)) hpx) (pa_cons (pe_var (X := X) (pos := py) hN2 hv2 hd2 hcd2) pa_nil c.star) c.base c.few c.line c.star c.plain) hs, fun H0 B Ls S z σ H D h hq => ?_⟩
  unfold sAppN at hq
  split at hq
  · rename_i vs es
    split at hq
    · rename_i ts ek
      obtain ⟨v, G1, e1, o1, nd1, chg⟩ := h.chgE es
      obtain ⟨a, xs, l, ws, rfl, q, hl, hx, hw, hr, lm, upd'⟩ := own_tup o1 ek
      have fin : ∀ (w : V) (t : T), σ[j]? = some (some w) → RepT X.K H w t → Cs X W st H0 B Ls D (if ts.length < sizeLine then .nx (S.set i (.o (.tup (vs.set k (.il (ts ++ [t])))))) z else .no) → (tOp (rIxAll X.K) (tVar i) (tC (.int (k : Int)))) σ H fun x H1 => tyV X.K "list" x H1 ∧ (tCons (tVar j) tNil) σ H1 fun xs H2 => rAppend x xs H2 fun _ H3 => D.nx σ H3 := fun w t ew rt hc => by
        split at hc
        · rename_i hlt
          refine ⟨.ref a, e1, .inl (.inr (.inl ⟨a, xs, (k : Int), .ref l, rfl, rfl, q, atI_nat hx, tyL hw, w, ew, l, ws, w, rfl, rfl, hw, by rw [hr.length]; exact hlt, ?_⟩))⟩
          exact hc σ _ (chg l _ _ _ lm hw True.intro True.intro (upd' nd1 w t rt))
        · exact hc.elim
      obtain ⟨Gs, hs', _⟩ := h.ex
      split at hq
      · rename_i t ej
        obtain ⟨w, G2, Ga, Gb, e2, o2, _⟩ := hs'.get_o ej
        cases o2 with
        | im r => exact fin w t e2 r hq
      · rename_i t ej
        obtain ⟨w, e2, bw⟩ := hs'.get_b ej
        cases bw with
        | im r => exact fin w t e2 ((r.mono (Le.of_same h.fr.hid)).mono (Le.of_same (hid_same st H))) hq
      · exact hq.elim
    · exact hq.elim
  · exact hq.elim
end
end MM
namespace MM
open PySem PySem.Spec PyProof.Rows L2
section
variable {X : Cx} {W : WX} {st : Option Addr} {pos : Pos}
theorem Stt.perm {K : PySem.W.Frag} {H0 B H : Hp} {Ls : List (Option (V × Val))} {G G' : List Addr} {S : List Sv} {z : Zs} {σ : L2.St} (h : Stt K st H0 B Ls G S z σ H) (p : G.Perm G') : Stt K st H0 B Ls G' S z σ H := by
  obtain ⟨Gs, hs, nd, fr⟩ := h.ex
  refine ⟨h.fr, h.zr, h.ble, h.z0, h.bst, fun a ha => h.gt a (p.mem_iff.mpr ha), h.lks, Gs, hs, ?_, fun a ha => fr a ?_⟩
  · exact ((p.append_right Gs).nodup_iff).mp nd
  · rcases List.mem_append.mp ha with q | q
    · exact List.mem_append_left _ (p.mem_iff.mpr q)
    · exact List.mem_append_right _ q
/-! ### a pair of new values -/
@[simp] def eTup2 (ma mb : ME) : ME := fun S z => (ma S z).bind fun x z => (mb S z).bind fun y z => .ok (.tup [x, y]) z
theorem fe_tup2 {a b : Expr} {kk : Nat} {ma mb : ME} (ha : FE X W st a ma) (hb : FE X W st b mb) (hs : starEach [a, b] X.env = (false, eval a X.env) :: starEach [b] X.env := by rfl) (hs2 : starEach [b] X.env = (false, eval b X.env) :: starEach [] X.env := by rfl) :
    FE X W st (.Tuple [a, b] kk pos) (eTup2 ma mb) := by
  obtain ⟨ta, pa, fa⟩ := ha
  obtain ⟨tb, pb, fb⟩ := hb
  refine ⟨_, pe_tup (pa_cons pa (pa_cons pb pa_nil hs2) hs), fun H0 B Ls G S z σ H Q h hq => ?_⟩
  refine fa H0 B Ls G S z σ H _ h (hq.bind fun x z1 H1 _ x1 hz1 hq1 v G1 o1 h1 => ?_)
  refine fb H0 B Ls (G1 ++ G) S z1 σ H1 _ h1 (hq1.bind fun y z2 H2 _ x2 hz2 hq2 w G2 o2 h2 => ?_)
  refine ⟨by simp, fun q nq => ?_⟩
  have sn : Same H2 (L2.upd H2 q (.tup [v, w])) := Same.upd_new nq
  have le := Le.of_same sn
  obtain ⟨Gs, hs1, nd, fr⟩ := h1.ex
  have o1' : Own X.K H2 v x G1 := o1.mono (x2.le h1.zr) fun a ha o e => x2.k a o (h1.nst (fr a (by simp [ha])).1) e
  have key : Own X.K (L2.upd H2 q (.tup [v, w])) (.ref q) (.tup [x, y]) (((List.range [v, w].length).map fun i => if i = 0 then G1 else G2).flatten) := by
    refine .tup (fun i => if i = 0 then G1 else G2) (.inl (.inl upd_same)) rfl fun i a b ea eb => ?_
    match i with
    | 0 => simp at ea eb; subst ea eb; exact o1'.mono le fun a _ o e => sn a o e
    | 1 => simp at ea eb; subst ea eb; exact o2.mono le fun a _ o e => sn a o e
    | i + 2 => simp at ea
  have eG : (((List.range [v, w].length).map fun i => if i = 0 then G1 else G2).flatten) = G1 ++ G2 := by simp [List.range_succ]
  rw [eG] at key
  have h3 := h2.grow (.of_same sn) (h2.zr.new sn)
  refine hq2.okX (.of_same sn) (h2.zr.new sn) (.ref q) (G1 ++ G2) key (h3.perm ?_)
  rw [← List.append_assoc]
  exact List.perm_append_comm.append_right G
/-! ### a, b = a pair of new values -/
@[simp] def sUnp2 (i j : Nat) (m : ME) : MS := fun S z => (m S z).go S fun p z => match p with
  | .tup [x, y] => if i < S.length ∧ j < S.length then .nx ((S.set i (.o x)).set j (.o y)) z else .no
  | _ => .no
theorem own_two {K : PySem.W.Frag} {H : Hp} {v : V} {x y : Val} {G : List Addr} (h : Own K H v (.tup [x, y]) G) : ∃ a v1 v2 G1 G2, v = .ref a ∧ SqT K H a [v1, v2] ∧ Own K H v1 x G1 ∧ Own K H v2 y G2 ∧ G = G1 ++ G2 := by
  cases h with
  | @tup a xs _ f hs hl g =>
    match xs, hl with
    | [v1, v2], _ =>
      refine ⟨a, v1, v2, f 0, f 1, rfl, hs, g 0 v1 x rfl rfl, g 1 v2 y rfl rfl, ?_⟩
      simp [List.range_succ]
theorem se_unp2 (i j : Nat) {x y : Str} {e : Expr} {m : ME} {px py tp : Pos} {kk : Nat} (hc : X.calm = true) (hN : X.N.Nodup) (he : FE X W st e m) (hij : i ≠ j := by decide) (hi : X.N[i]? = some x := by rfl) (hj : X.N[j]? = some y := by rfl) (hx : Loc X.env.scope x) (hy : Loc X.env.scope y)
    (hfx : X.fn x = true ∨ X.env.scope.names.lookup x = some .local := by first | exact .inl rfl | exact .inr rfl) (hfy : X.fn y = true ∨ X.env.scope.names.lookup y = some .local := by first | exact .inl rfl | exact .inr rfl)
    (hn : (assignEach [.Name x px, .Name y py] X.env).length = 2 := by rfl) (hst : (assignEach [.Name x px, .Name y py] X.env).findIdx? (·.1) = none := by rfl)
    (hs : swapsWithSole [.Tuple [.Name x px, .Name y py] kk tp] e pos.line X.env = pure false := by rfl) (hw : swappedStores [.Tuple [.Name x px, .Name y py] kk tp] e X.env = pure none := by rfl)
    (h1 : (assignEach [.Tuple [.Name x px, .Name y py] kk tp] X.env).map (·.2) = [assign (.Tuple [.Name x px, .Name y py] kk tp) X.env] := by rfl)
    (a1 : (assignEach [.Name x px, .Name y py] X.env).map (·.2) = assign (.Name x px) X.env :: (assignEach [.Name y py] X.env).map (·.2) := by rfl)
    (a2 : (assignEach [.Name y py] X.env).map (·.2) = assign (.Name y py) X.env :: (assignEach [] X.env).map (·.2) := by rfl) :
    SE X W st (.Assign [.Tuple [.Name x px, .Name y py] kk tp] e pos) (sUnp2 i j m) := by
  obtain ⟨t, p, f⟩ := he
  have pg := pg_tup (k := kk) (pos := tp) hc (pgs_cons (pg_name (pos := px) hN hi hx hfx) (pgs_cons (pg_name (pos := py) hN hj hy hfy) pgs_nil a2) a1) hn hst
  refine ⟨_, ps_asg p pg hs hw h1, fun H0 B Ls S z σ H D h hq => ?_⟩
  refine f H0 B Ls [] S z σ H _ h (Cs.go h hq fun u z1 H1 _ x1 hz1 hq1 v G' ow h1 => ?_)
  split at hq1
  · split at hq1
    · rename_i a b hl
      obtain ⟨p, v1, v2, G1, G2, rfl, hsq, o1, o2, rfl⟩ := own_two ow
      rw [List.append_assoc] at h1
      have s1 := h1.put o1 hl.1
      have s2 := Stt.put (G' := G2) (G := []) s1 o2 (i := j) (by rw [List.length_set]; exact hl.2)
      exact ⟨p, [v1, v2], rfl, hsq, rfl, _, _, rfl, _, _, rfl, rfl, hq1 _ _ s2⟩
    · exact hq1.elim
  · exact hq1.elim
/-! ### a, b = a pair that is only read -/
theorem Stt.putB {K : PySem.W.Frag} {H0 B H : Hp} {Ls : List (Option (V × Val))} {G : List Addr} {S : List Sv} {z : Zs} {σ : L2.St} {v : V} {x : Val} {i : Nat} (h : Stt K st H0 B Ls G S z σ H) (bw : Bor K (hid st H0) v x) (hi : i < S.length) : Stt K st H0 B Ls G (S.set i (.b x)) z (σ.set i (some v)) H := by
  obtain ⟨Gs, hs, nd, fr⟩ := h.ex
  obtain ⟨Ga, Gm, Gb, e, q⟩ := hs.set hi (y := .b x) (w := some v) (G2 := []) fun l => .b bw .nil
  refine ⟨h.fr, h.zr, h.ble, h.z0, h.bst, h.gt, h.lks, _, q, ?_, fun a ha => fr a ?_⟩
  · rw [e] at nd
    rw [List.append_nil]
    refine nd.sublist ?_
    refine List.Sublist.append (List.Sublist.refl _) ?_
    exact (List.sublist_append_left Ga Gm).append (List.Sublist.refl _)
  · rw [e]
    simp only [List.mem_append, List.append_nil] at ha ⊢
    rcases ha with q | q | q
    · exact .inl q
    · exact .inr (.inl (.inl q))
    · exact .inr (.inr q)
@[simp] def sUnpB (i j k : Nat) : MS := fun S z => match S[k]? with
  | some (.b (.tup [x, y])) => if i < S.length ∧ j < S.length then .nx ((S.set i (.b x)).set j (.b y)) z else .no
  | _ => .no
theorem se_unpB (i j k : Nat) {x y n : Str} {px py pn tp : Pos} {kk : Nat} (hc : X.calm = true) (hN : X.N.Nodup) (hx : Loc X.env.scope x) (hy : Loc X.env.scope y) (hij : i ≠ j := by decide) (hi : X.N[i]? = some x := by rfl) (hj : X.N[j]? = some y := by rfl) (hk : X.N[k]? = some n := by rfl)
    (hv : Vis X.env.scope n := by first | exact Or.inl rfl | exact Or.inr (Or.inl rfl) | exact Or.inr (Or.inr rfl)) (hd : (n == ("__debug__" : Str)) = false := by decide) (hcd : (n == ("__classdict__" : Str)) = false := by decide)
    (hfx : X.fn x = true ∨ X.env.scope.names.lookup x = some .local := by first | exact .inl rfl | exact .inr rfl) (hfy : X.fn y = true ∨ X.env.scope.names.lookup y = some .local := by first | exact .inl rfl | exact .inr rfl)
    (hn : (assignEach [.Name x px, .Name y py] X.env).length = 2 := by rfl) (hst : (assignEach [.Name x px, .Name y py] X.env).findIdx? (·.1) = none := by rfl)
    (hs : swapsWithSole [.Tuple [.Name x px, .Name y py] kk tp] (.Name n pn) pos.line X.env = pure false := by rfl) (hw : swappedStores [.Tuple [.Name x px, .Name y py] kk tp] (.Name n pn) X.env = pure none := by rfl)
    (h1 : (assignEach [.Tuple [.Name x px, .Name y py] kk tp] X.env).map (·.2) = [assign (.Tuple [.Name x px, .Name y py] kk tp) X.env] := by rfl)
    (a1 : (assignEach [.Name x px, .Name y py] X.env).map (·.2) = assign (.Name x px) X.env :: (assignEach [.Name y py] X.env).map (·.2) := by rfl)
    (a2 : (assignEach [.Name y py] X.env).map (·.2) = assign (.Name y py) X.env :: (assignEach [] X.env).map (·.2) := by rfl) :
    SE X W st (.Assign [.Tuple [.Name x px, .Name y py] kk tp] (.Name n pn) pos) (sUnpB i j k) := by
  have pg := pg_tup (k := kk) (pos := tp) hc (pgs_cons (pg_name (pos := px) hN hi hx hfx) (pgs_cons (pg_name (pos := py) hN hj hy hfy) pgs_nil a2) a1) hn hst
  refine ⟨_, ps_asg (pe_var (X := X) (pos := pn) hk hv hd hcd) pg hs hw h1, fun H0 B Ls S z σ H D h hq => ?_⟩
  unfold sUnpB at hq
  split at hq
  · rename_i a b e
    split at hq
    · rename_i hl
      obtain ⟨Gs, hs', nd, fr⟩ := h.ex
      obtain ⟨v, ev, bw⟩ := hs'.get_b e
      cases bw with
      | @tup p xs _ hsq hlen g =>
        match xs, hlen with
        | [v1, v2], _ =>
          have s1 := h.putB (g 0 v1 a rfl rfl) hl.1
          have s2 := s1.putB (g 1 v2 b rfl rfl) (i := j) (by rw [List.length_set]; exact hl.2)
          have hsq2 : SqT X.K H p [v1, v2] := sqt_hid ((Le.of_same h.fr.hid).sqt hsq)
          exact ⟨_, ev, p, [v1, v2], rfl, hsq2, rfl, _, _, rfl, _, _, rfl, rfl, hq _ _ s2⟩
    · exact hq.elim
  · exact hq.elim
end
end MM

/-! MY: a list comprehension whose element may raise. -/
namespace L2
open PySem PySem.Spec PyProof.Rows
section
variable {X : Cx} {pins : List (Addr × Obj)} {σ : St} {H : Hp} {s : Shared}
/-- a block's ground without its names -/
theorem ground_but {Xb : Cx} {pinsb : List (Addr × Obj)} {σb : St} {Hb : Hp} {sI : Shared} {B B' : Heap} (I : Inv Xb pinsb σb Hb sI) (nb : ∀ b o, sI.heap.get? b = some o → b ∉ frs Xb.stack → B.get? b = some o) (C : Addr) (nC : Hb C = none) (kB : ∀ b o, b ≠ C → B.get? b = some o → B'.get? b = some o) : HOk Xb.prog Xb.w Hb B' := fun b o q =>
  (I.hok b o q).stay (fun c u hc r => kB c u (fun e => by
      subst e
      rcases hc with hc | hc
      · subst hc; rw [nC] at q; cases q
      · rw [nC] at hc; cases hc) (nb c u r fun hm => by
    have z := I.stkFree c hm
    rcases hc with hc | hc
    · rw [hc, q] at z; cases z
    · rw [hc] at z; cases z)) (fun _ r => r) fun _ _ r => r
theorem noted_any {Z : Obj → Prop} {M : Model} {A : Around} {E : Value → Shared → Prop} {s : Shared} {base : Heap} {env : Env} {outer : List Env} {L e L' : Addr} {Q : Unit → Shared → Prop} (hZ : HandSPX.Steady Z) (hfr : A.frames = some (env :: outer)) (hf : env.frame = some L) (hfl : HandSPX.HeldZ base (env :: outer) e Z L' s.heap) (hne : (rawInt L' == rawInt L) = false)
    (hQ : ∀ h', HandSPX.HeldZ base (env :: outer) e Z L h' → s.heap.UpToSlots h' → Q () { s with heap := h' }) : wpAny M A (noteFrame (.ref e) env) Q E s := by
  obtain ⟨hkb, hen, hl, oe, vs, T, oT, ts, he, hz, hd, h1, hnT, hTe, hT, hdT, h3⟩ := hfl
  unfold noteFrame
  simp only [hf]
  refine wpAny_bind (wpAny_field he hd h1 ?_)
  rw [if_pos (show (Value.ref T != Value.none) = true from by simp)]
  refine wpAny_bind (wpAny_field hT hdT h3 ?_)
  rw [if_neg (by rw [hne]; exact Bool.false_ne_true)]
  refine wpAny_bind (wpAny_setField hT hdT (Array.getElem?_eq_some_iff.mp h3).1 ?_)
  have other : ∀ b, b ≠ T → (s.heap.update T (Obj.mapFields (·.setIfInBounds 3 Value.none))).get? b = s.heap.get? b := fun b hb => Heap.get?_update_other _ _ (Ne.symm hb)
  have noRecord : ∀ b o, s.heap.get? b = some o → (∀ vs, o.data ≠ .fields vs) → b ≠ T := fun b o hb hnf q => by
    rw [q, hT] at hb; injection hb with hb; subst hb; exact hnf ts hdT
  refine HandSPX.wpAny_entryZ hZ hfr (hl.of_keeps fun b o hb hnf => ⟨o, (other b (noRecord b o hb hnf)).trans hb, rfl⟩) hf ((other e (Ne.symm hTe)).trans he)
    (fun b o hbo => (other b fun q => by rw [q, hnT] at hbo; cases hbo).trans (hkb b o hbo)) hen hd (Array.getElem?_eq_some_iff.mp h1).1 hz fun h' hN => ?_
  obtain ⟨x1, x2, x3, x4⟩ := hN
  exact hQ h' ⟨x1, hen, x2, x3⟩ fun b o hb hnf => x4 b o ((other b (noRecord b o hb hnf)).trans hb) hnf
/-- noted, wherever it flew -/
theorem Sky.hold {M : Model} {A : Around} {E₁ : Value → Shared → Prop} {s : Shared} {env : Env} {outer : List Env} {L L' a : Addr} {Z : Obj → Prop} {B : Heap} {Q : Unit → Shared → Prop} (hZ : HandSPX.Steady Z) (hfr : A.frames = some (env :: outer)) (hf : env.frame = some L)
    (x : Sky B (env :: outer) a Z L' s.heap) (hQ : ∀ h', HandSPX.HeldZ B (env :: outer) a Z L h' → s.heap.UpToSlots h' → Q () { s with heap := h' }) :
    wpAny M A (noteFrame (.ref a) env) Q E₁ s := by
  rcases x with ⟨hB, hn, hl, oe, vs, he, hz, hd, h1⟩ | fl | hh
  · exact HandSPX.look_newZ hZ hfr hl hf he hB hn hd h1 hz hQ
  · exact HandSPX.looks_onZ hZ hfr hf fl hQ
  · cases c : (rawInt L' == rawInt L) with
    | false => exact noted_any hZ hfr hf hh c hQ
    | true =>
      obtain ⟨k1, k2, k3, k4⟩ := hh
      rw [eq_of_beq c] at k4
      exact HandSPX.againZ hf k4 (hQ s.heap ⟨k1, k2, k3, k4⟩ (Heap.UpToSlots.of_keeps fun _ _ e => e))

theorem Heap.UpToSlots.ns {h h' : Heap} {L : Addr} {m : Str → Option Value} (hn : h.Ns L m) (hk : h.UpToSlots h') : h'.Ns L m := PySem.Heap.Ns.upToSlots hn hk
/-- an exception leaves a comprehension's block -/
theorem XE.blockEnd {W : WX} {scope : Scope} {ce : Env} {fp : List Addr} {xe : Value → Shared → Prop} (I3 : Inv X pins σ H s) (hs : X.stack = X.env :: X.outer) (hf : X.env.frame = some X.env.locals) (hcf : ce.frame = X.env.frame) (hcL : s.heap.objs.size ≤ ce.locals)
    (f3 : ∀ b ∈ fp, FpOk X pins H b) {u : Value} {s' : Shared} (x : XE ((X.blk s H scope ce fp).tr [] xe) (fun cls d _ H' => W cls d σ H') u s') (tk : Takes X W) :
    notedBy (model X.prog X.w) X.A ce (CompFails (model X.prog X.w) X.A X.xe ce) u s' := by
  obtain ⟨a, B, sI, pinsb, σb, Hb, cls, d, rfl, I, nb, up, sky, na, os, ag, w⟩ := x
  have hfr : X.A.frames = some (X.env :: X.outer) := by rw [I3.ok.frames, hs]
  have nC : Hb ce.locals = none := I.free
  obtain ⟨m, hn, _⟩ := I.loc
  have hn : sI.heap.Ns ce.locals m := hn
  have frLt : ∀ b ∈ frs X.stack, b < s.heap.objs.size := fun b hb => by
    obtain ⟨_, o, e, _⟩ := I3.stack.mem hb
    exact Heap.lt_size e
  have cfr : ce.locals ∉ frs X.stack := fun hb => absurd (Nat.lt_of_lt_of_le (frLt _ hb) hcL) (Nat.lt_irrefl _)
  have oldC : ∀ b o, s.heap.get? b = some o → b ≠ ce.locals := fun b o e z => by
    have := Heap.lt_size e
    rw [z] at this
    exact absurd (Nat.lt_of_lt_of_le this hcL) (Nat.lt_irrefl _)
  show wpAny (model X.prog X.w) X.A (noteFrame (.ref a) ce) _ _ s'
  rw [PySem.noteFrame_env _ hcf]
  have sky : Sky B (X.env :: X.outer) a (Zc cls d) ce.locals s'.heap := by rw [← hs]; exact sky
  refine Sky.hold Zc.steady hfr hf sky fun h1 held up1 => ?_
  have hn1 : h1.Ns ce.locals m := Heap.UpToSlots.ns (Heap.UpToSlots.ns hn up) up1
  refine ⟨m, hn1, fun h2 m2 hn2 sb => ?_⟩
  -- the ground without the block's names
  obtain ⟨B', hB'⟩ : ∃ B', B' = PySem.W.hideAll B [ce.locals] := ⟨_, rfl⟩
  have kB : ∀ b o, b ≠ ce.locals → B.get? b = some o → B'.get? b = some o := fun b o n e => by rw [hB']; exact PySem.W.hideAll_get _ e (by simpa using n)
  have oB : ∀ b o, B'.get? b = some o → B.get? b = some o := fun b o e => by rw [hB'] at e; exact PySem.W.of_hideAll _ e
  have cB : B'.get? ce.locals = none := by rw [hB']; exact PySem.W.hideAll_none _ (by simp)
  have noneB : ∀ b, B.get? b = none → B'.get? b = none := fun b e => by
    cases q : B'.get? b with
    | none => rfl
    | some o => rw [oB b o q] at e; cases e
  obtain ⟨hb1, hbn, hl1, oe, vs, T, oT, ts, he, hz, hd, hv1, hnT, hTe, hT, hdT, hts⟩ := held
  have dC : ∀ b o vs, h1.get? b = some o → o.data = .fields vs → b ≠ ce.locals := fun b o vs e ed z => by
    obtain ⟨o', es, ep, ho', hd', _⟩ := hn1
    rw [z, ho'] at e
    cases e
    rw [hd'] at ed; cases ed
  have aC := dC a oe vs he hd
  have TC := dC T oT ts hT hdT
  have held2 : HandSPX.HeldZ B' (X.env :: X.outer) a (Zc cls d) X.env.locals h2 := by
    refine ⟨fun b o e => ?_, noneB a hbn, ?_, oe, vs, T, oT, ts, (sb.2 a aC).trans he, hz, hd, hv1, noneB T hnT, hTe, (sb.2 T TC).trans hT, hdT, hts⟩
    · have n : b ≠ ce.locals := fun z => by rw [z, cB] at e; cases e
      exact (sb.2 b n).trans (hb1 b o (oB b o e))
    · refine funFrames_none (PySem.Heap.FunFrames.sameBut sb hn2 hl1) fun L hL => ?_
      have : B.get? L = none := (hl1.mem hL).1
      exact noneB L this
  unfold PySem.passOn
  refine wpAny_bind (wpAny_field ((sb.2 a aC).trans he) hd hv1 ?_)
  rw [if_neg (show ¬ ((Value.ref T == Value.none) = true) from by simp)]
  rw [hcf, hf]
  refine wpAny_bind (HandSPX.setFlight_onZ held2 fun h3 held3 up3 => ?_)
  refine wpAny_throw (tk _ _ ?_)
  -- back in the def's air
  have st : B'.StaysIn h3 := held3.1
  obtain ⟨G, g1, g2⟩ := restrict h3 fun b => (B'.get? b).isSome || decide (b ∈ frs X.stack)
  have gB : ∀ b o, B'.get? b = some o → G.get? b = some o := fun b o e => by
    rw [g1 b (by simp [e])]
    exact st b o e
  have gF : ∀ b, b ∈ frs X.stack → G.get? b = h3.get? b := fun b hb => g1 b (by simp [hb])
  have og : ∀ b o, G.get? b = some o → h3.get? b = some o ∧ ((B'.get? b).isSome = true ∨ b ∈ frs X.stack) := fun b o e => by
    cases q : ((B'.get? b).isSome || decide (b ∈ frs X.stack)) with
    | false => rw [g2 b q] at e; cases e
    | true =>
      rw [g1 b q] at e
      exact ⟨e, by simpa [Bool.or_eq_true] using q⟩
  have base : Un (frs X.stack) fp H Hb s.heap sI.heap := I.base
  have slotF : ∀ b o, s.heap.get? b = some o → b ∈ frs X.stack → b ∉ fp → ∃ sl, G.get? b = some { o with slots := sl } := fun b o e hb hx => by
    have n := I3.stkFree b hb
    obtain ⟨_, o₀, e₀, hnf⟩ := I3.stack.mem hb
    rw [e] at e₀; cases e₀
    obtain ⟨sl, e1⟩ := base.slot b o e n hb hx
    obtain ⟨sl1, e2⟩ := up b _ e1 hnf
    obtain ⟨sl2, e3⟩ := up1 b _ e2 hnf
    have e4 := (sb.2 b (oldC b o e)).trans e3
    obtain ⟨sl3, e5⟩ := up3 b _ e4 hnf
    exact ⟨sl3, by rw [gF b hb]; exact e5⟩
  have u : Un (frs X.stack) fp H Hb s.heap G := by
    refine ⟨fun b o e n hb hx => ?_, fun b o e n hb hx => slotF b o e hb hx, base.free, fun b o e hx => ?_, base.tups, base.frzs, base.tbls⟩
    · exact gB b o (kB b o (oldC b o e) (nb b o (base.keep b o e n hb hx) hb))
    · by_cases hb : b ∈ frs X.stack
      · obtain ⟨sl, q⟩ := slotF b o e hb hx
        exact ⟨_, q⟩
      · obtain ⟨o', e'⟩ := base.there b o e hx
        exact ⟨o', gB b o' (kB b o' (oldC b o e) (nb b o' e' hb))⟩
  have hok : HOk X.prog X.w Hb B' := (have z := ground_but (Xb := (X.blk s H scope ce fp).tr [] xe) I nb ce.locals nC kB; z)
  have IG := I3.call (ch := fp) (h' := G) (g' := s'.gens) (t' := s'.toks) (d' := s'.drawn) u (hok.kept gB) ag fun b hb => ⟨(f3 b hb).2.2.2.1, (f3 b hb).2.1, (f3 b hb).2.2.2.2.1, (f3 b hb).2.2.2.2.2⟩
  have os3 : s'.os = s.os := os.trans I.os
  refine ⟨a, B', _, pins, σ, Hb, cls, d, rfl, IG, fun b o e hb => ?_, Heap.UpToSlots.of_keeps fun b o e => (og b o e).1, .inr (.inr (by rw [hs]; exact held3)), na, os3, ag, w⟩
  obtain ⟨e', h⟩ := og b o e
  rcases h with h | h
  · obtain ⟨o', q⟩ := Option.isSome_iff_exists.mp h
    have z := st b o' q
    rw [e'] at z; cases z
    exact q
  · exact absurd h hb

theorem Inv.onX {X : Cx} {pins : List (Addr × Obj)} {σ : St} {H : Hp} {s : Shared} (I : Inv X pins σ H s) (hp : X.pn = []) (xe : Value → Shared → Prop) : Inv (X.tr [] xe) pins σ H s :=
  ⟨I.ok.toTry _ _, I.os, I.bare, I.base, I.loc, I.cell, I.free, I.freeC, fun p h => I.pin p (by rw [hp]; exact h), I.hok, I.len⟩
theorem Inv.offX {X : Cx} {pins : List (Addr × Obj)} {σ : St} {H : Hp} {s : Shared} {xe : Value → Shared → Prop} (I : Inv (X.tr [] xe) pins σ H s) (hp : X.pn = []) : Inv X pins σ H s :=
  ⟨I.ok.ofTry, I.os, I.bare, I.base, I.loc, I.cell, I.free, I.freeC, fun p h => I.pin p (by rw [hp] at h; exact h), I.hok, I.len⟩
/-- [elt for target in iter if ..], the element may raise -/
theorem pe_lcX {X : Cx} {W : WX} {elt tg iter : Expr} {ifs : List Expr} {scope : Scope} {own : List (Str × Nat)} {pos : Pos} {wi : TI} {g : TG} {tt : TT} {te : St → TE} (hst : X.stack = X.env :: X.outer) (hfr : X.env.frame = some X.env.locals) (tk : Takes X W) (hc : X.calm = true) (hN : X.N.Nodup) (hi : PI X tg iter wi) (ok : BlkOk X.N X.env.scope scope own)
    (hg : ∀ (s : Shared) (H : Hp) (C : Addr) (cl : List (Str × Addr)) (fp : List Addr), PG (X.blk s H scope (compEnvC scope cl C X.env) fp) tg g) (ht : ∀ (s : Shared) (H : Hp) (C : Addr) (cl : List (Str × Addr)) (fp : List Addr), PTs (X.blk s H scope (compEnvC scope cl C X.env) fp) ifs tt)
    (he : ∀ (σ0 : St) (s : Shared) (H : Hp) (C : Addr) (cl : List (Str × Addr)) (fp : List Addr) (xe : Value → Shared → Prop), Takes ((X.blk s H scope (compEnvC scope cl C X.env) fp).tr [] xe) (fun cls d _ H' => W cls d σ0 H') → PE ((X.blk s H scope (compEnvC scope cl C X.env) fp).tr [] xe) elt (te σ0))
    (hs : ∀ x, foldedSetIterable iter X.env x = pure x := by intro _; rfl) :
    PE X (.ListComp elt [⟨tg, iter, ifs, 0⟩] scope pos) (fun σ H Q => tLc wi g tt (te σ) (own.map (·.2)) σ H Q) := by
  refine ⟨fun pins s σ H Q I h => ?_⟩
  rw [eval_ListComp]
  have hfree : ∀ y ∈ scope.names, y.2 = .free → ∃ c, X.env.cells.lookup y.1 = some c := fun y hy e => by
    rcases ok.free y hy e with k | k
    · exact I.ok.has _ (.inl k)
    · exact I.ok.has _ (.inr k)
  refine comprehension_at (use := none) rfl hs (closure_ok hfree) ok.kind (fun y hy e => by rw [ok.uniq y hy, e])
    (thn (hi.run pins s σ H _ I h) fun xv s1 hx => thn hx fun itv s2 h2 => ?_)
  obtain ⟨it, fp, tn, J, H2, e, I2, T, st2, f2, q⟩ := h2
  subst e
  refine wpAny_newObj_type (newEnv_comp ?_) (by show 0 ≤ sizeLine; decide)
  generalize hD : s2.heap.objs.size = D
  have hDn : H2 D = none := I2.hok.fresh (Nat.le_of_eq hD)
  obtain ⟨W', ⟨m0, w0⟩, turn⟩ := q D hDn
  generalize hs3 : ({ s2 with heap := s2.heap.push { cls := .type "list", data := .seq ([] : List Value).toArray } } : Shared) = s3
  have I3 : Inv X pins σ (upd H2 D (.lst [])) s3 := by
    rw [← hs3]
    refine I2.laid (t' := s2.toks) (fun b o e => Heap.get?_push_of_some _ e) (Nat.le_of_eq hD) ⟨Nat.zero_le _, [], 0, .nil, ?_⟩
    rw [← hD]
    exact Heap.get?_push_size _ rfl
  have h3 : s3.heap = s2.heap.push { cls := .type "list", data := .seq ([] : List Value).toArray } := by rw [← hs3]
  have sz : ∀ b ∈ fp, b < s2.heap.objs.size := fun b hb => by
    obtain ⟨o, e, _⟩ := T.obj _ _ st2 b hb
    exact Heap.lt_size e
  have f3 : ∀ b ∈ fp, FpOk X pins (upd H2 D (.lst [])) b ∧ b < s3.heap.objs.size := fun b hb => by
    have hlt := sz b hb
    refine ⟨⟨?_, (f2 b hb).2⟩, by rw [h3, Heap.size_push]; exact Nat.lt_succ_of_lt hlt⟩
    rw [upd_ne (by rw [← hD]; exact Nat.ne_of_lt hlt)]
    exact (f2 b hb).1
  have st3 : tn 0 s3.heap := T.keep _ _ _ st2 fun b _ o e => by rw [h3]; exact Heap.get?_push_of_some _ e
  have I4 := block_start I3 ok hN f3
  have pg := hg s3 (upd H2 D (.lst [])) s3.heap.objs.size (cellsFrom (s3.heap.objs.size + 1) scope.names (cloFrom X.env.cells scope.names [])) fp
  have pt := ht s3 (upd H2 D (.lst [])) s3.heap.objs.size (cellsFrom (s3.heap.objs.size + 1) scope.names (cloFrom X.env.cells scope.names [])) fp
  have pe := he σ s3 (upd H2 D (.lst [])) s3.heap.objs.size (cellsFrom (s3.heap.objs.size + 1) scope.names (cloFrom X.env.cells scope.names [])) fp
  show codeAny _ _ (.compStart (.ListComp elt [⟨tg, iter, ifs, 0⟩] scope pos) 0 (.ref it) (.ref D) (compEnvC scope (cellsFrom (s3.heap.objs.size + 1) scope.names (cloFrom X.env.cells scope.names [])) s3.heap.objs.size X.env)) (compEnds (model X.prog X.w) X.A X.xe none (EP X pins σ Q) (.ref D) (compEnvC scope (cellsFrom (s3.heap.objs.size + 1) scope.names (cloFrom X.env.cells scope.names [])) s3.heap.objs.size X.env)) { s3 with heap := pushCells (s3.heap.push { cls := .type "dict", data := .dict #[] }) scope.names }
  have nfp : ∀ b ∈ fp, (upd H2 D (.lst [])) b = none := fun b hb => (f3 b hb).1.1
  generalize hce : compEnvC scope (cellsFrom (s3.heap.objs.size + 1) scope.names (cloFrom X.env.cells scope.names [])) s3.heap.objs.size X.env = ce at I4 pg pt pe ⊢
  have cL : ce.locals = s3.heap.objs.size := by subst hce; rfl
  have cF : ce.frame = X.env.frame := by subst hce; rfl
  generalize hH3 : upd H2 D (.lst []) = H3 at I3 I4 pg pt pe w0 nfp f3
  generalize hs4 : ({ s3 with heap := pushCells (s3.heap.push { cls := .type "dict", data := .dict #[] }) scope.names } : Shared) = s4 at I4 ⊢
  have pe := pe (notedBy (model X.prog X.w) X.A ce (CompFails (model X.prog X.w) X.A X.xe ce)) fun u s' x => XE.blockEnd I3 hst hfr cF (by rw [cL]; exact Nat.le_refl _) (fun b hb => (f3 b hb).1) x tk
  have st4 : tn 0 s4.heap := T.keep _ _ _ st3 fun b _ o e => by rw [← hs4]; exact pushCells_keeps _ _ _ _ (Heap.get?_push_of_some _ e)
  have stat : ∀ {σ' : St} {H' : Hp} {s' : Shared}, Inv (X.blk s3 H3 scope ce fp) [] σ' H' s' → (∀ b ∈ fp, H' b = none) → ∀ b ∈ fp, FpOk (X.blk s3 H3 scope ce fp) [] H' b := fun {σ' H' s'} I' hn b hb =>
    ⟨hn b hb, (I'.ok.exf b hb).1, I'.ok.exfs b hb, .inl hb, fun x c e => (I'.ok.exf b hb).2 x c e, fun p hp => absurd (show p ∈ ([] : List (Addr × Obj)) ++ [] from hp) (by simp)⟩
  have loop : codeAny (model X.prog X.w) X.A (.compLoop (.ListComp elt [⟨tg, iter, ifs, 0⟩] scope pos) 0 (.ref it) (.ref D) ce) (compEnds (model X.prog X.w) X.A X.xe none (EP X pins σ Q) (.ref D) ce) s4 := by
    refine compLoop_any (fun n s' => ∃ i H', Inv (X.blk s3 H3 scope ce fp) [] (wipe σ (own.map (·.2))) H' s' ∧ tn i s'.heap ∧ (∀ b ∈ fp, H' b = none) ∧ W' i n H') ?_ m0 ⟨0, H3, I4, st4, nfp, w0⟩
    rintro n s5 ⟨i, H5, I5, st5, n5, w5⟩
    rcases turn i n H5 w5 with ⟨stop, qq⟩ | ⟨go, Nx, hNx, step⟩
    · have td := T.done (X.blk s3 H3 scope ce fp) rfl rfl rfl hc i [] s5 _ H5 (fun _ _ => False) I5 (stat I5 n5) st5 stop
      refine thnF td fun r s6 ⟨hr, I6⟩ => ?_
      subst hr
      have I7 : Inv X pins σ H5 s6 := I3.call' (ch := fp) I6.os I6.base I6.hok I6.bare fun b hb => ⟨(f3 b hb).1.2.2.2.1, (f3 b hb).1.2.1, (f3 b hb).1.2.2.2.2.1, (f3 b hb).1.2.2.2.2.2⟩
      have nC : H5 s3.heap.objs.size = none := by
        have z : H5 ce.locals = none := I6.free
        rw [cL] at z
        exact z
      obtain ⟨m, hn, _⟩ := I6.loc
      have hn : s6.heap.Ns ce.locals m := hn
      obtain ⟨g0, g1, g2, g3, g4, g5⟩ := I3.fpOk (Nat.le_refl _) nC
      refine ⟨m, hn, fun h'' sb => ⟨.ref D, H5, I7.turned (it := s3.heap.objs.size) (t' := s6.toks) (fun b o hb e => (sb.2 b (by rw [cL]; exact hb)).trans e) g0 g1 g3 g4 g5, rfl, qq⟩⟩
    · have ti := T.item (X.blk s3 H3 scope ce fp) rfl rfl rfl hc i [] s5 _ H5 (fun _ _ => False) I5 (stat I5 n5) st5 go
      refine thnF ti fun r s6 ⟨u, hr, h6⟩ => ?_
      subst hr
      refine thnF h6 fun _ s7 ⟨x, H7, I7, r7, y7, st7, n7⟩ => ?_
      have I7' := I7.pinned (stat I7 n7) (T.obj _ _ st7)
      refine thnF (pg.run _ s7 _ H7 x u _ I7' r7 (step x H7 y7)) fun _ s8 ⟨σ8, H8, I8, hw8, q8⟩ => ?_
      refine thnF (pt.run _ s8 σ8 H8 _ I8 q8) fun b s9 ⟨H9, I9, q9⟩ => ?_
      have fin : ∀ {s' : Shared} {H' : Hp}, Inv (X.blk s3 H3 scope ce fp) ([] ++ pinsAt fp s7.heap) σ8 H' s' → Nx H' → ∃ m, m < n ∧ ∃ i H', Inv (X.blk s3 H3 scope ce fp) [] (wipe σ (own.map (·.2))) H' s' ∧ tn i s'.heap ∧ (∀ b ∈ fp, H' b = none) ∧ W' i m H' := fun {s' H'} I' nx => by
        obtain ⟨m', hm, w'⟩ := hNx H' nx
        have pin' : ∀ b ∈ fp, ∀ o, s7.heap.get? b = some o → s'.heap.get? b = some o ∧ H' b = none := fun b hb o e =>
          let z := I'.pin (b, o) (List.mem_append_right _ (List.mem_append_right _ (mem_pinsAt hb e)))
          ⟨z.1, z.2.1⟩
        have hl : (wipe σ (own.map (·.2))).length = σ8.length := by rw [← hw8, wipe_length]
        refine ⟨m', hm, i + 1, H', (I'.unpinned (pins := [])).weak hl (fun j v e => ?_), T.keep _ _ _ st7 fun b hb o e => (pin' b hb o e).1, fun b hb => ?_, w'⟩
        · rw [← hw8] at e
          exact (wipe_some e).1
        · obtain ⟨o, e, _⟩ := T.obj _ _ st7 b hb
          exact (pin' b hb o e).2
      cases b with
      | false =>
        simp only [Bool.false_eq_true, if_false] at q9 ⊢
        exact fin I9 q9
      | true =>
        simp only [if_true] at q9 ⊢
        refine thn (pe.run _ s9 σ8 H9 _ (I9.onX rfl _) q9) fun z s10 ⟨yv, H10, I10, r10, acc, hD10, hz10, nx⟩ => ?_
        exact app_ok (X := X.blk s3 H3 scope ce fp) (I10.offX rfl) hD10 hz10 r10 fun s11 I11 => fin I11 nx
  exact codeAny_compStart_list loop (T.self X.A 0 _ _ _ st4 loop)
end
end L2
namespace MM
open PySem PySem.Spec PyProof.Rows L2
section
variable {X : Cx} {W : WX} {st : Option Addr} {pos : Pos}
def lcX (j : Nat) (c : MT) (m : ME) (S0 : List Sv) : List T → List T → Zs → Rs Val
  | [], acc, z => .ok (.il acc) z
  | t :: ts, acc, z => if j < S0.length then match c (S0.set j (.o (.im t))) z with
    | .ok true z => match m (S0.set j (.o (.im t))) z with
      | .ok (.im u) z => if acc.length < sizeLine then lcX j c m S0 ts (acc ++ [u]) z else .no
      | .ex d z => .ex d z
      | _ => .no
    | .ok false z => lcX j c m S0 ts acc z
    | _ => .no
    else .no
@[simp] def eLcX (it : ME) (j : Nat) (c : MT) (m : ME) : ME := fun S z => (it S z).bind fun x z => match x with
  | .im (.tup ts) => lcX j c m (wipS j S) ts [] z
  | .il ts => lcX j c m (wipS j S) ts [] z
  | _ => .no
theorem lcX_il {j : Nat} {c : MT} {m : ME} {S0 : List Sv} : ∀ {ts acc : List T} {z : Zs} {x : Val} {z' : Zs}, lcX j c m S0 ts acc z = .ok x z' → ∃ us, x = .il us
  | [], acc, z, x, z', h => by cases h; exact ⟨_, rfl⟩
  | t :: ts, acc, z, x, z', h => by
    unfold lcX at h
    split at h
    · split at h
      · split at h
        · split at h
          · exact lcX_il h
          · cases h
        · cases h
        · cases h
      · exact lcX_il h
      · cases h
    · cases h
abbrev BkX (X : Cx) (scope : Scope) (s : Shared) (H : Hp) (C : Addr) (cl : List (Str × Addr)) (fp : List Addr) (xe : Value → Shared → Prop) : Cx := (Bk X scope s H C cl fp).tr [] xe
abbrev WB (W : WX) (σ0 : L2.St) : WX := fun cls d _ H' => W cls d σ0 H'
theorem re_uniX {scope : Scope} {e : Expr} {m : ME} (h : ∀ σ0 s H C cl fp xe, Takes (BkX X scope s H C cl fp xe) (WB W σ0) → RE (BkX X scope s H C cl fp xe) (WB W σ0) st e m) : ∃ te : L2.St → TE, (∀ σ0 s H C cl fp xe, Takes (BkX X scope s H C cl fp xe) (WB W σ0) → PE (BkX X scope s H C cl fp xe) e (te σ0)) ∧
    ∀ σ0 H0 B Ls G S z σ H Q, Stt X.K st H0 B Ls G S z σ H → Ct X (WB W σ0) st σ H (m S z) (fun x z' H' => ∀ v, Bor X.K (hid st H') v x → Q v H') → te σ0 σ H Q := by
  refine ⟨fun σ0 σ H Q => ∀ s H' C cl fp xe tk, Classical.choose (h σ0 s H' C cl fp xe tk) σ H Q, fun σ0 s H C cl fp xe tk => ?_, fun σ0 H0 B Ls G S z σ H Q hs hq s H' C cl fp xe tk => ?_⟩
  · exact ⟨fun pins s' σ H' Q I hw => (Classical.choose_spec (h σ0 s H C cl fp xe tk)).1.run pins s' σ H' Q I (hw s H C cl fp xe tk)⟩
  · exact (Classical.choose_spec (h σ0 s H' C cl fp xe tk)).2 H0 B Ls G S z σ H Q hs hq
def LcKX (X : Cx) (W : WX) (st : Option Addr) (H0 B : Hp) (Ls : List (Option (V × Val))) (G : List Addr) (S : List Sv) (σ : L2.St) (D : Addr) (H1 : Hp) (Q : VK) : Rs Val → Prop
  | .ok (.il acc) z => ∀ H av, Stt X.K st H0 B Ls (D :: G) S z σ H → H D = some (.lst av) → RepTs X.K H av acc → Q (.ref D) H
  | .ex c z => ∀ H cv d, Stt X.K st H0 B Ls (D :: G) S z σ H → (∀ a o, st ≠ some a → a ≠ D → H1 a = some o → H a = some o) → ExR X.K X.mg c cv d H → W cv d σ H
  | _ => False
structure LcPX (X : Cx) (W : WX) (st : Option Addr) (H0 B : Hp) (Ls : List (Option (V × Val))) (G : List Addr) (S : List Sv) (σ : L2.St) (D : Addr) (Q : VK) (j : Nat) (c : MT) (m : ME) (H1 : Hp) (ts : List T) (H : Hp) (z : Zs) (acc : List T) (av : List V) : Prop where
  s : Stt X.K st H0 B Ls (D :: G) S z σ H
  d : H D = some (.lst av)
  r : RepTs X.K H av acc
  k : ∀ a o, st ≠ some a → a ≠ D → H1 a = some o → H a = some o
  q : LcKX X W st H0 B Ls G S σ D H1 Q (lcX j c m (wipS j S) ts acc z)
theorem lc_turnX {j : Nat} {c : MT} {m : ME} {tt : TT} {te : L2.St → TE}
    (fc : ∀ H0 B Ls G S z σ H Q, Stt X.K st H0 B Ls G S z σ H → Ct X W0 st σ H (c S z) (fun x z' H' => Q x H') → tt σ H Q)
    (fm : ∀ σ0 H0 B Ls G S z σ H Q, Stt X.K st H0 B Ls G S z σ H → Ct X (WB W σ0) st σ H (m S z) (fun x z' H' => ∀ v, Bor X.K (hid st H') v x → Q v H') → te σ0 σ H Q)
    {H0 B H1 H : Hp} {Ls : List (Option (V × Val))} {G : List Addr} {S : List Sv} {σ : L2.St} {D : Addr} {Q : VK} {z : Zs} {acc ts : List T} {av : List V} {t : T} {v : V}
    (P : LcPX X W st H0 B Ls G S σ D Q j c m H1 (t :: ts) H z acc av) (r : RepT X.K H v t) :
    gName j v (wipe σ [j]) H fun σ2 H2 => wipe σ2 [j] = wipe σ [j] ∧ tt σ2 H2 fun b H3 => if b = true then te σ σ2 H3 fun y H4 => ∃ acc', H4 D = some (.lst acc') ∧ acc'.length < sizeLine ∧ (∃ z acc av, LcPX X W st H0 B Ls G S σ D Q j c m H1 ts (L2.upd H4 D (.lst (acc' ++ [y]))) z acc av)
      else ∃ z acc av, LcPX X W st H0 B Ls G S σ D Q j c m H1 ts H3 z acc av := by
  have hq := P.q
  unfold lcX at hq
  split at hq
  · rename_i hj
    have hj' : j < S.length := by unfold wipS at hj; simpa using hj
    have hs := P.s.slot hj' r
    have nD : st ≠ some D := by
      obtain ⟨Gs, _, _, fr⟩ := P.s.ex
      exact P.s.nst (fr D (by simp)).1
    refine ⟨by simp [wipe], ?_⟩
    show tt ((σ.set j none).set j (some v)) H _
    unfold wipS at hq
    refine fc _ _ _ _ _ _ _ _ _ hs ?_
    cases ec : c ((S.set j .un).set j (.o (.im t))) z with
    | no => rw [ec] at hq; exact hq.elim
    | ex d z1 => rw [ec] at hq; exact hq.elim
    | ok b z1 =>
      rw [ec] at hq
      intro H3 x3 hz3
      have s3 := P.s.grow x3 hz3
      have d3 := x3.k D _ nD P.d
      have r3 := P.r.mono (x3.le P.s.zr)
      cases b with
      | false => exact iteF ⟨z1, acc, av, s3, d3, r3, fun a o h1 h2 h3 => x3.k a o h1 (P.k a o h1 h2 h3), hq⟩
      | true =>
        refine iteT ?_
        refine fm σ _ _ _ _ _ _ _ _ _ (hs.grow x3 hz3) ?_
        dsimp only at hq
        cases em : m ((S.set j .un).set j (.o (.im t))) z1 with
        | no => rw [em] at hq; exact hq.elim
        | ex d z2 =>
          rw [em] at hq
          intro cv dd H4 x4 hz4 xr
          exact hq H4 cv dd (s3.grow x4 hz4) (fun a o h1 h2 h3 => x4.k a o h1 (x3.k a o h1 (P.k a o h1 h2 h3))) xr
        | ok y z2 =>
          rw [em] at hq
          intro H4 x4 hz4 w hw
          cases y with
          | im u =>
            dsimp only at hq
            split at hq
            · rename_i hl
              have s4 := s3.grow x4 hz4
              have d4 := x4.k D _ nD d3
              have r4 := r3.mono (x4.le s3.zr)
              refine ⟨av, d4, by rw [r4.length]; exact hl, z2, acc ++ [u], av ++ [w], s4.chgG d4 True.intro True.intro, upd_same, ?_, fun a o h1 h2 h3 => ?_, hq⟩
              · cases hw with
                | im hw => exact (r4.append (.one (repT_hid hw))).mono (Le.upd_lst d4)
              · rw [upd_ne h2]
                exact x4.k a o h1 (x3.k a o h1 (P.k a o h1 h2 h3))
            · exact hq.elim
          | _ => exact hq.elim
  · exact hq.elim
theorem lc_startX {H0 B H1 : Hp} {Ls : List (Option (V × Val))} {G : List Addr} {S : List Sv} {σ : L2.St} {Q : VK} {z1 : Zs} {D : Addr} {j : Nat} {c : MT} {m : ME} {ts : List T} (h1 : Stt X.K st H0 B Ls G S z1 σ H1) (nD : H1 D = none)
    (hq : Ct X W st σ H1 (lcX j c m (wipS j S) ts [] z1) (fun x z' H' => ∀ v G', Own X.K H' v x G' → Stt X.K st H0 B Ls (G' ++ G) S z' σ H' → Q v H')) :
    LcKX X W st H0 B Ls G S σ D H1 (fun v H' => (∀ a o, st ≠ some a → a ≠ D → H1 a = some o → H' a = some o) → Q v H') (lcX j c m (wipS j S) ts [] z1) := by
  cases e : lcX j c m (wipS j S) ts [] z1 with
  | ok x z =>
    obtain ⟨us, rfl⟩ := lcX_il e
    rw [e] at hq
    exact fun H av hs hd r k => hq H (SameX.two h1 hs nD k) hs.zr _ [D] (.il hd r) (by simpa using hs)
  | ex d z =>
    rw [e] at hq
    exact fun H cv dd hs k xr => hq cv dd H (SameX.two h1 hs nD k) hs.zr xr
  | no => rw [e] at hq; exact hq
theorem lc_rdX {it : ME} {c : MT} {m : ME} {ti : TE} {tt : TT} {te : L2.St → TE} (j : Nat)
    (fi : ∀ H0 B Ls G S z σ H Q, Stt X.K st H0 B Ls G S z σ H → Ct X W st σ H (it S z) (fun x z' H' => ∀ v, Bor X.K (hid st H') v x → Q v H') → ti σ H Q)
    (ft : ∀ H0 B Ls G S z σ H Q, Stt X.K st H0 B Ls G S z σ H → Ct X W0 st σ H (c S z) (fun x z' H' => Q x H') → tt σ H Q)
    (fe : ∀ σ0 H0 B Ls G S z σ H Q, Stt X.K st H0 B Ls G S z σ H → Ct X (WB W σ0) st σ H (m S z) (fun x z' H' => ∀ v, Bor X.K (hid st H') v x → Q v H') → te σ0 σ H Q) :
    ∀ H0 B Ls G S z σ H Q, Stt X.K st H0 B Ls G S z σ H → Ct X W st σ H (eLcX it j c m S z) (fun x z' H' => ∀ v G', Own X.K H' v x G' → Stt X.K st H0 B Ls (G' ++ G) S z' σ H' → Q v H') → tLc (iAny X.K ti) (gName j) tt (te σ) [j] σ H Q := by
  intro H0 B Ls G S z σ H Q h hq
  refine fi H0 B Ls G S z σ H _ h (hq.bind fun y z1 H1 _ x1 hz1 hq1 v hv => ?_)
  have h1 := h.grow x1 hz1
  have start : ∀ {ts : List T} {D : Addr}, H1 D = none → Ct X W st σ H1 (lcX j c m (wipS j S) ts [] z1) (fun x z' H' => ∀ v G', Own X.K H' v x G' → Stt X.K st H0 B Ls (G' ++ G) S z' σ H' → Q v H') →
      ∃ z acc av, LcPX X W st H0 B Ls G S σ D (fun v H' => (∀ a o, st ≠ some a → a ≠ D → H1 a = some o → H' a = some o) → Q v H') j c m H1 ts (L2.upd H1 D (.lst [])) z acc av := fun {ts D} nD hq1 => by
    have sn : Same H1 (L2.upd H1 D (.lst [])) := Same.upd_new nD
    refine ⟨z1, [], [], h1.add (G' := [D]) (.of_same sn) (hz1.new sn) (by simp) (fun a ha => by simp at ha; subst ha; exact nD) (fun a ha => by simp at ha; subst ha; exact ⟨_, upd_same, True.intro⟩), upd_same, .nil, fun a o _ _ e => sn a o e, lc_startX h1 nD hq1⟩
  have fin : ∀ {D : Addr} {H : Hp}, (∃ z acc av, LcPX X W st H0 B Ls G S σ D (fun v H' => (∀ a o, st ≠ some a → a ≠ D → H1 a = some o → H' a = some o) → Q v H') j c m H1 [] H z acc av) → Q (.ref D) H := fun {D H} ⟨z, acc, av, P⟩ => by
    have hq := P.q
    exact hq H av P.s P.d P.r P.k
  have nst : ∀ {D a : Addr} {o : HO}, H1 D = none → H1 a = some o → a ≠ D := fun {D a o} nD e => ne_of_none e nD
  cases y with
  | im u =>
    cases u with
    | tup ts =>
      cases hv with
      | im hv =>
        cases hv with
        | @tup a xs _ r1 r2 =>
          have r2' := rep_hid r2
          refine .inr ⟨a, rfl, ⟨xs, sqt_hid r1⟩, fun D nD => ?_⟩
          have lek : ∀ {H : Hp}, (∀ b o, st ≠ some b → b ≠ D → H1 b = some o → H b = some o) → Le H1 H := fun {H} k => by
            have nt : ∀ b, st = some b → ∃ ys, H1 b = some (.lst ys) := fun b e => let ⟨l, q, _⟩ := hz1 b e; ⟨_, q⟩
            refine ⟨fun b ys e => k b _ (fun c => ?_) (ne_of_none e nD) e, fun b o ys e => k b _ (fun c => ?_) (ne_of_none e nD) e, fun b o ys e => k b _ (fun c => ?_) (ne_of_none e nD) e⟩
            · obtain ⟨_, q⟩ := nt b c; rw [e] at q; cases q
            · obtain ⟨_, q⟩ := nt b c; rw [e] at q; cases q
            · obtain ⟨_, q⟩ := nt b c; rw [e] at q; cases q
          refine lc_tup (K := X.K) (a := a) (xs := xs) (fun i H => ∃ z acc av, LcPX X W st H0 B Ls G S σ D _ j c m H1 (ts.drop i) H z acc av) (start nD hq1) (fun i H _ ⟨_, _, _, P⟩ => (lek P.k).sqt (sqt_hid r1)) (fun i w H ew ⟨z2, acc, av, P⟩ => ?_) (fun H P => fin (by rw [r2.length, List.drop_length] at P; exact P))
          obtain ⟨t, et, rt⟩ := r2'.getV ew
          obtain ⟨hl, e2⟩ := List.getElem?_eq_some_iff.mp et
          rw [List.drop_eq_getElem_cons hl, e2] at P
          exact lc_turnX ft fe P (rt.mono (lek P.k))
    | _ => exact hq1.elim
  | il ts =>
    cases hv with
    | @il a xs _ r1 r2 =>
      have r2' := rep_hid r2
      have r1' := not_hid r1
      have na : st ≠ some a := fun c => by
        unfold hid at r1
        rw [if_pos c] at r1; cases r1
      refine .inl ⟨a, rfl, ⟨xs, .of r1'⟩, fun D nD => ?_⟩
      have lek : ∀ {H : Hp}, (∀ b o, st ≠ some b → b ≠ D → H1 b = some o → H b = some o) → Le H1 H := fun {H} k => by
        have nt : ∀ b, st = some b → ∃ ys, H1 b = some (.lst ys) := fun b e => let ⟨l, q, _⟩ := hz1 b e; ⟨_, q⟩
        refine ⟨fun b ys e => k b _ (fun c => ?_) (ne_of_none e nD) e, fun b o ys e => k b _ (fun c => ?_) (ne_of_none e nD) e, fun b o ys e => k b _ (fun c => ?_) (ne_of_none e nD) e⟩
        · obtain ⟨_, q⟩ := nt b c; rw [e] at q; cases q
        · obtain ⟨_, q⟩ := nt b c; rw [e] at q; cases q
        · obtain ⟨_, q⟩ := nt b c; rw [e] at q; cases q
      refine lc_list (K := X.K) (a := a) (xs := xs) (fun i H => ∃ z acc av, LcPX X W st H0 B Ls G S σ D _ j c m H1 (ts.drop i) H z acc av) (start nD hq1) (fun i H _ ⟨_, _, _, P⟩ => .of (P.k a _ na (ne_of_none r1' nD) r1')) (fun i w H ew ⟨z2, acc, av, P⟩ => ?_) (fun H P => fin (by rw [r2.length, List.drop_length] at P; exact P))
      obtain ⟨t, et, rt⟩ := r2'.getV ew
      obtain ⟨hl, e2⟩ := List.getElem?_eq_some_iff.mp et
      rw [List.drop_eq_getElem_cons hl, e2] at P
      exact lc_turnX ft fe P (rt.mono (lek P.k))
  | _ => exact hq1.elim
theorem fe_lcX {elt tg iter : Expr} {ifs : List Expr} {scope : Scope} {x : Str} {it : ME} {c : MT} {m : ME} (j : Nat) (hst : X.stack = X.env :: X.outer) (hfr : X.env.frame = some X.env.locals) (tk : Takes X W) (hc : X.calm = true) (hN : X.N.Nodup) (hi : RE X W st iter it) (ok : BlkOk X.N X.env.scope scope [(x, j)])
    (hg : ∀ s H C cl fp, PG (Bk X scope s H C cl fp) tg (gName j)) (ht : ∀ s H C cl fp, RTs (Bk X scope s H C cl fp) W0 st ifs c) (he : ∀ σ0 s H C cl fp xe, Takes (BkX X scope s H C cl fp xe) (WB W σ0) → RE (BkX X scope s H C cl fp xe) (WB W σ0) st elt m)
    (hs : ∀ x, foldedSetIterable iter X.env x = pure x := by intro _; rfl) : FE X W st (.ListComp elt [⟨tg, iter, ifs, 0⟩] scope pos) (eLcX it j c m) := by
  obtain ⟨ti, pi, fi⟩ := hi
  obtain ⟨tt, pt, ft⟩ := rts_uni ht
  obtain ⟨te, pe, fe⟩ := re_uniX he
  exact ⟨_, pe_lcX hst hfr tk hc hN (pi_any pi) ok hg pt pe hs, lc_rdX j fi ft fe⟩
end
end MM

/-! MZ: == and != of tuples that hold lists and dicts, where all is equal. -/
namespace PySem.SeqAt
open AutoSeq1 (wpAny_loadPart')
open MeetsSeq MeetsSeq2 MeetsSeq3 SeqRoads2
section
variable {prog : Program} {w : World}
theorem tup_neIn (p q : Addr) (us vs : Array Value) (n m : Nat) (dp dq : Option Addr) (sp sq : Array (Option Value)) (he : us.size = vs.size) :
    MeetsIn prog w (Builtin.«tuple.__ne__» ⟨[.ref p, .ref q], []⟩)
      (fun A R s => s.heap.get? p = some { cls := .type "tuple", dict := dp, data := .seq us n, slots := sp } ∧ s.heap.get? q = some { cls := .type "tuple", dict := dq, data := .seq vs m, slots := sq } ∧
        (∀ r ∈ us.toList.zip vs.toList, EqIn prog w A.in1 s r.1 r.2 true) ∧ R (.ok (.ret (.bool false))) s) :=
  .of_wp fun A R s hyp => by
    obtain ⟨hp', gl, dy, tok, ou⟩ := s
    obtain ⟨k1, k2, k3, k4⟩ := hyp
    have st := AutoSeq1.sub_tuple_tuple
    wp_walk using wpAny_loadPart' k1, wpAny_loadPart' k2, wpAny_forIn_list _ (fun rest b s' => b.1 = none ∧ s' = ⟨hp', gl, dy, tok, ou⟩ ∧ ∀ r ∈ rest, EqIn prog w A.in1 ⟨hp', gl, dy, tok, ou⟩ r.1 r.2 true) _
    case turn =>
      rintro ⟨y, x⟩ rest b s' ⟨e1, rfl, hz⟩
      refine wpAny_bind (hz (y, x) List.mem_cons_self _ _ ?_)
      wp_walk
      exact ⟨rfl, rfl, fun r hr => hz r (.tail _ hr)⟩
    case fin =>
      rintro ⟨b1, b2⟩ s' ⟨e1, rfl, _⟩
      simp only at e1
      subst e1
      wp_walk
      exact ⟨_, rfl, by simpa [Builtin.Tuple.tupleCompareSizes, bne, he] using k4⟩
    case h =>
      exact ⟨rfl, rfl, k3⟩
theorem rcNe_tups {A : Around} {E : Value → Shared → Prop} {s : Shared} {p q : Addr} {us vs : Array Value} {Q : Value → Shared → Prop} (h1 : s.heap.IsTuple p us) (h2 : s.heap.IsTuple q vs) (hz : us.size = vs.size) (hu : A.units < cLine)
    (he : ∀ r ∈ us.toList.zip vs.toList, EqIn prog w A.in1 s r.1 r.2 true) (h : Q (.bool false) s) : wpAny (model prog w) A (richCompare .NotEq (.ref p) (.ref q)) Q E s := by
  obtain ⟨⟨c1, d1, t1, s1⟩, o1, e1, n, f1⟩ := id h1
  obtain ⟨⟨c2, d2, t2, s2⟩, o2, e2, m, f2⟩ := id h2
  simp only at e1 f1 e2 f2
  subst e1 f1 e2 f2
  exact wpAny_richCompare_same_room (T := "tuple") (op := .NotEq) ⟨_, o1, rfl⟩ ⟨_, o2, rfl⟩ F.slot_tuple_ne (call_meetsIn F.slot_tuple_ne ⟨_, o1, rfl⟩ F.entry_tuple_ne (F.args_tuple_ne_2 _ _) (tup_neIn p q us vs n m d1 d2 s1 s2 hz)
    ⟨o1, o2, he, show Value.bool false ≠ Value.notImplemented ∧ Q (.bool false) s from ⟨(fun x => nomatch x), h⟩⟩) hu
end
end PySem.SeqAt
namespace MM
open PySem PySem.Spec PyProof.Rows L2
section
variable {X : Cx} {W : WX} {st : Option Addr} {pos : Pos}
theorem vals_at {xs : List V} {us : List Value} (h : Vals xs us) {j : Nat} (hj : j < us.length) : ∃ x, xs[j]? = some x ∧ RelV x us[j] := by
  have l : j < xs.length := by rw [h.length]; exact hj
  obtain ⟨u, e, r⟩ := h.get (List.getElem?_eq_getElem l)
  rw [List.getElem?_eq_getElem hj] at e
  exact ⟨_, List.getElem?_eq_getElem l, by rw [Option.some.inj e]; exact r⟩
/-- equal: plain data, or dicts whose values are plain -/
def IEq (K : PySem.W.Frag) (H : Hp) (x y : V) : Prop :=
  (∃ d e, Dp K H x d ∧ Dp K H y e ∧ d.canLay0 = true ∧ e.canLay0 = true ∧ min d.depth e.depth ≤ 60 ∧ PyData.eqv d e = true) ∨
    ∃ a b ks ls, x = .ref a ∧ y = .ref b ∧ Rd H a (.dK ks) ∧ Rd H b (.dK ls) ∧ ks.length = ls.length ∧ ∀ p ∈ ks, valV ls p.1 = some p.2 ∧ flatB p.2 = true
theorem dict_run {pins : List (Addr × Obj)} {σ : L2.St} {H : Hp} {s : Shared} (I : Inv X pins σ H s) {A : Around} (hu : A.units < cLine) {a b : Addr} {ks ls : List (Key × V)} (ha : Rd H a (.dK ks)) (hb : Rd H b (.dK ls)) (hl : ks.length = ls.length)
    (hp : ∀ p ∈ ks, valV ls p.1 = some p.2 ∧ flatB p.2 = true) (E Q : Value → Shared → Prop) (q : Q (.bool true) s) : wpAny (model X.prog X.w) A (richCompare .Eq (.ref a) (.ref b)) Q E s := by
  obtain ⟨_, ya, va, ra, da⟩ := dk_rd I.hok ha
  obtain ⟨_, yb, vb, rb, db⟩ := dk_rd I.hok hb
  refine PySem.W.rcP_dicts (knd := mixKind X.prog X.w) (r := true) ya yb da db hu (fun _ => hits_run (F := fun x y => x = y ∧ flatB x = true) (fun x y v u h r1 r2 => ?_) rb ra fun p hm => ⟨p.2, (hp p hm).1, rfl, (hp p hm).2⟩) E Q ?_
  · obtain ⟨rfl, f⟩ := h
    exact (eqAt_same r1 r2 f).eqP
  · rw [show (va.length == vb.length && true) = true from by rw [show va.length = vb.length by rw [← ra.length, ← rb.length]; exact hl]; simp]
    exact q
theorem ieq_run {pins : List (Addr × Obj)} {σ : L2.St} {H : Hp} {s : Shared} (I : Inv X pins σ H s) {A : Around} (hu : A.units + 62 < cLine) {x y : V} {v u : Value} (h : IEq X.K H x y) (r1 : RelV x v) (r2 : RelV y u) : SeqAt.EqIn X.prog X.w A s v u true := by
  rcases h with ⟨d, e, hd, he, sd, se, hm, q⟩ | ⟨a, b, ks, ls, rfl, rfl, ha, hb, hl, hp⟩
  · obtain ⟨as, k1⟩ := Dp.reads I d x v hd r1
    obtain ⟨bs, k2⟩ := Dp.reads I e y u he r2
    have := (SeqAt.eqAt_reads d e A s v u as bs k1 k2 sd se (by omega)).inModel X.prog X.w
    rwa [q] at this
  · cases (show v = Value.ref a from r1)
    cases (show u = Value.ref b from r2)
    by_cases c : a = b
    · subst c
      exact (SeqAt.EqAt.same _).inModel _ _
    · exact SeqAt.eqP_refs c fun E Q hq => dict_run I (by omega) ha hb hl hp E Q hq
theorem dictNe_run {pins : List (Addr × Obj)} {σ : L2.St} {H : Hp} {s : Shared} (I : Inv X pins σ H s) {A : Around} (hu : A.units < cLine) {a b : Addr} {ks ls : List (Key × V)} (ha : Rd H a (.dK ks)) (hb : Rd H b (.dK ls)) (hl : ks.length = ls.length)
    (hp : ∀ p ∈ ks, valV ls p.1 = some p.2 ∧ flatB p.2 = true) (E Q : Value → Shared → Prop) (q : Q (.bool false) s) : wpAny (model X.prog X.w) A (compareOp .NotEq (.ref a) (.ref b)) Q E s := by
  obtain ⟨_, ya, va, ra, da⟩ := dk_rd I.hok ha
  obtain ⟨_, yb, vb, rb, db⟩ := dk_rd I.hok hb
  have el : va.length = vb.length := by rw [← ra.length, ← rb.length]; exact hl
  exact PySem.W.keq_ne (knd := mixKind X.prog X.w) (r := true) ya yb da db hu (fun _ => hits_all rb ra hp) (by simpa [el] using q)
def rEqI (K : PySem.W.Frag) (n : Bool) : R2 := fun x y H Q => ((∃ a b xs ys, x = .ref a ∧ y = .ref b ∧ SqT K H a xs ∧ SqT K H b ys ∧ xs.length = ys.length ∧ ∀ (i : Nat) v u, xs[i]? = some v → ys[i]? = some u → IEq K H v u) ∨
    ∃ a b ks ls, x = .ref a ∧ y = .ref b ∧ Rd H a (.dK ks) ∧ Rd H b (.dK ls) ∧ ks.length = ls.length ∧ ∀ p ∈ ks, valV ls p.1 = some p.2 ∧ flatB p.2 = true) ∧ Q (.bl (!n)) H
theorem op_eqI (hu : X.A.units + 64 < cLine) : OpR X (compareOp .Eq) (rEqI X.K false) := by
  intro pins s σ H x y v u Q I rx ry h
  obtain ⟨h, q⟩ := h
  rcases h with ⟨a, b, xs, ys, rfl, rfl, ha, hb, hl, hi⟩ | ⟨a, b, ks, ls, rfl, rfl, ha, hb, hl, hp⟩
  · cases (show v = Value.ref a from rx)
    cases (show u = Value.ref b from ry)
    obtain ⟨us, r1, p1, _⟩ := I.tuple ha
    obtain ⟨ws, r2, p2, _⟩ := I.tuple hb
    have hsz : us.toArray.size = ws.toArray.size := by rw [List.size_toArray, List.size_toArray, ← r1.length, ← r2.length]; exact hl
    refine SeqAt.rcIn_tuples (e := fun _ => true) p1 p2 (by omega) (fun j h1 h2 => ?_) ?_
    · obtain ⟨x, e1, k1⟩ := vals_at r1 (j := j) (by simpa using h1)
      obtain ⟨y, e2, k2⟩ := vals_at r2 (j := j) (by simpa using h2)
      have := ieq_run I (A := X.A.in1) (by show X.A.units + 1 + 62 < cLine; omega) (hi j x y e1 e2) k1 k2
      simpa using this
    · rw [show ((List.range (min us.toArray.size ws.toArray.size)).all fun _ => true) = true from List.all_eq_true.mpr fun _ _ => rfl, hsz]
      exact ⟨.bl true, H, I, (show Value.bool (true && (ws.toArray.size == ws.toArray.size)) = Value.bool true from by simp), q⟩
  · cases (show v = Value.ref a from rx)
    cases (show u = Value.ref b from ry)
    exact dict_run I (by omega) ha hb hl hp _ _ ⟨.bl true, H, I, rfl, q⟩
theorem op_neI (hu : X.A.units + 64 < cLine) : OpR X (compareOp .NotEq) (rEqI X.K true) := by
  intro pins s σ H x y v u Q I rx ry h
  obtain ⟨h, q⟩ := h
  rcases h with ⟨a, b, xs, ys, rfl, rfl, ha, hb, hl, hi⟩ | ⟨a, b, ks, ls, rfl, rfl, ha, hb, hl, hp⟩
  · cases (show v = Value.ref a from rx)
    cases (show u = Value.ref b from ry)
    obtain ⟨us, r1, p1, _⟩ := I.tuple ha
    obtain ⟨ws, r2, p2, _⟩ := I.tuple hb
    have hsz : us.toArray.size = ws.toArray.size := by rw [List.size_toArray, List.size_toArray, ← r1.length, ← r2.length]; exact hl
    refine SeqAt.rcNe_tups p1 p2 hsz (by omega) (fun r hr => ?_) ⟨.bl false, H, I, rfl, q⟩
    obtain ⟨j, hj⟩ := List.getElem?_of_mem hr
    obtain ⟨f1, f2⟩ := List.getElem?_zip_eq_some.mp (show (us.zip ws)[j]? = some (r.1, r.2) from by simpa using hj)
    have l1 := (List.getElem?_eq_some_iff.mp f1).1
    have l2 := (List.getElem?_eq_some_iff.mp f2).1
    obtain ⟨x, e1, k1⟩ := vals_at r1 (j := j) l1
    obtain ⟨y, e2, k2⟩ := vals_at r2 (j := j) l2
    rw [List.getElem?_eq_getElem l1] at f1
    rw [List.getElem?_eq_getElem l2] at f2
    have := ieq_run I (A := X.A.in1) (by show X.A.units + 1 + 62 < cLine; omega) (hi j x y e1 e2) k1 k2
    rw [Option.some.inj f1, Option.some.inj f2] at this
    exact this
  · cases (show v = Value.ref a from rx)
    cases (show u = Value.ref b from ry)
    exact dictNe_run I (by omega) ha hb hl hp _ _ ⟨.bl false, H, I, rfl, q⟩
/-! the same of mirrors -/
def teq : T → T → Bool
  | .non, .non => true
  | .bl a, .bl b => decide (a = b)
  | .int a, .int b => decide (a = b)
  | .str a, .str b => decide (a = b)
  | _, _ => false
def deq (ks ls : List (Key × T)) : Bool := decide (ks.length = ls.length) && ks.all fun p => match look ls p.1 with
  | some t => teq t p.2
  | none => false
def veq : Val → Val → Bool
  | .dk ks, .dk ls => deq ks ls
  | x, y => match x.flat, y.flat with
    | some d, some e => decide (min d.depth e.depth ≤ 60) && PyData.eqv d e
    | _, _ => false
def veqs : List Val → List Val → Bool
  | [], [] => true
  | x :: xs, y :: ys => veq x y && veqs xs ys
  | _, _ => false
def oEqI (n : Bool) : Val → Val → Option Val
  | .tup vs, .tup ws => if veqs vs ws then some (.im (.bl (!n))) else none
  | .dk ks, .dk ls => if deq ks ls then some (.im (.bl (!n))) else none
  | _, _ => none
theorem teq_rep {K : PySem.W.Frag} {H : Hp} {t u : T} {v w : V} (f : teq t u = true) (h : RepT K H v t) (g : RepT K H w u) : v = w ∧ flatB v = true := by
  cases h <;> cases g <;> first
    | exact ⟨rfl, rfl⟩
    | (simp only [teq, decide_eq_true_eq] at f; subst f; exact ⟨rfl, rfl⟩)
    | cases f
theorem rep_mem {K : PySem.W.Frag} {H : Hp} {κ : Type} : ∀ {vs : List (κ × V)} {ts : List (κ × T)}, RepK K H vs ts → ∀ p ∈ vs, ∃ q ∈ ts, p.1 = q.1 ∧ RepT K H p.2 q.2
  | [], _, _, p, hp => by simp at hp
  | r :: vs, [], h, p, hp => by have := h.1; cases this
  | r :: vs, q :: ts, h, p, hp => by
    obtain ⟨h1, h2⟩ := h
    simp only [List.map_cons, List.cons.injEq] at h1
    cases h2 with
    | cons g1 g2 =>
      rcases List.mem_cons.mp hp with rfl | hp
      · exact ⟨q, List.mem_cons_self, h1.1, g1⟩
      · obtain ⟨q', a, b, c⟩ := rep_mem ⟨h1.2, g2⟩ p hp
        exact ⟨q', .tail _ a, b, c⟩
theorem deq_rep {K : PySem.W.Frag} {H : Hp} {ks ls : List (Key × T)} (f : deq ks ls = true) {vs ws : List (Key × V)} (h : RepK K H vs ks) (g : RepK K H ws ls) : vs.length = ws.length ∧ ∀ p ∈ vs, valV ws p.1 = some p.2 ∧ flatB p.2 = true := by
  unfold deq at f
  rw [Bool.and_eq_true, decide_eq_true_eq] at f
  obtain ⟨f1, f2⟩ := f
  have l1 := congrArg List.length h.1
  have l2 := congrArg List.length g.1
  simp only [List.length_map] at l1 l2
  refine ⟨by omega, fun p hp => ?_⟩
  obtain ⟨q, hq, e1, r⟩ := rep_mem h p hp
  have f3 := List.all_eq_true.mp f2 q hq
  have := repK_look q.1 g
  cases el : look ls q.1 with
  | none => rw [el] at f3; cases f3
  | some t =>
    rw [el] at f3 this
    obtain ⟨v, e2, r2⟩ := this
    obtain ⟨e3, _⟩ := teq_rep f3 r2 r
    subst e3
    exact ⟨by rw [e1]; exact e2, (teq_rep f3 r2 r).2⟩
theorem bor_dkR {K : PySem.W.Frag} {H : Hp} {v : V} {ks : List (Key × T)} (h : Bor K H v (.dk ks)) : ∃ a xs, v = .ref a ∧ Rd H a (.dK xs) ∧ RepK K H xs ks := by
  cases h with
  | dk h1 h2 => exact ⟨_, _, rfl, h1, h2⟩
theorem veq_flat {x y : Val} (f : veq x y = true) : (∃ ks ls, x = .dk ks ∧ y = .dk ls ∧ deq ks ls = true) ∨ ∃ d e, x.flat = some d ∧ y.flat = some e ∧ min d.depth e.depth ≤ 60 ∧ PyData.eqv d e = true := by
  unfold veq at f
  split at f
  · exact .inl ⟨_, _, rfl, rfl, f⟩
  · split at f
    · rename_i d e e1 e2
      rw [Bool.and_eq_true, decide_eq_true_eq] at f
      exact .inr ⟨d, e, e1, e2, f.1, f.2⟩
    · cases f
theorem veq_ieq {K : PySem.W.Frag} {H : Hp} {x y : Val} {v u : V} (f : veq x y = true) (h : Bor K H v x) (g : Bor K H u y) : IEq K H v u := by
  rcases veq_flat f with ⟨ks, ls, rfl, rfl, f⟩ | ⟨d, e, e1, e2, hl, he⟩
  · obtain ⟨a, xs, rfl, r1, r2⟩ := bor_dkR h
    obtain ⟨b, ys, rfl, r3, r4⟩ := bor_dkR g
    exact .inr ⟨a, b, xs, ys, rfl, rfl, r1, r3, deq_rep f r2 r4⟩
  · obtain ⟨h1, h2⟩ := bor_dp h d e1
    obtain ⟨h3, h4⟩ := bor_dp g e e2
    exact .inl ⟨d, e, h1, h3, h2, h4, hl, he⟩
theorem veqs_at : ∀ {xs ys : List Val}, veqs xs ys = true → xs.length = ys.length ∧ ∀ (i : Nat) x y, xs[i]? = some x → ys[i]? = some y → veq x y = true
  | [], [], _ => ⟨rfl, fun i x y e => by simp at e⟩
  | [], _ :: _, h => by cases h
  | _ :: _, [], h => by cases h
  | a :: xs, b :: ys, h => by
    rw [veqs, Bool.and_eq_true] at h
    obtain ⟨h1, h2⟩ := veqs_at h.2
    refine ⟨by simp [h1], fun i x y e1 e2 => ?_⟩
    cases i with
    | zero => simp at e1 e2; subst e1 e2; exact h.1
    | succ i => exact h2 i x y (by simpa using e1) (by simpa using e2)
theorem op2_eqI {n : Bool} : Op2 X st (rEqI X.K n) (oEqI n) := by
  intro H va vb xa xb y Q ha hb e q
  have fin : ∀ {c : Bool}, (if c = true then some (Val.im (.bl (!n))) else none) = some y → c = true ∧ Q (.bl (!n)) H := fun {c} e => by
    split at e
    · rename_i f
      cases e
      exact ⟨f, q _ H [] (Same.refl H) (.im (.bl _)) List.nodup_nil (fun _ z => by cases z)⟩
    · cases e
  unfold oEqI at e
  split at e
  · rename_i vs ws
    obtain ⟨f, q⟩ := fin e
    refine ⟨.inl ?_, q⟩
    obtain ⟨hl, hi⟩ := veqs_at f
    cases bor_hid ha with
    | @tup a xs _ h1 l1 g1 =>
      cases bor_hid hb with
      | @tup b ys _ h2 l2 g2 =>
        refine ⟨a, b, xs, ys, rfl, rfl, h1, h2, by omega, fun i v u e1 e2 => ?_⟩
        have i1 := (List.getElem?_eq_some_iff.mp e1).1
        have i2 := (List.getElem?_eq_some_iff.mp e2).1
        have k1 : vs[i]? = some vs[i] := List.getElem?_eq_getElem (by omega)
        have k2 : ws[i]? = some ws[i] := List.getElem?_eq_getElem (by omega)
        exact veq_ieq (hi i _ _ k1 k2) (g1 i v _ e1 k1) (g2 i u _ e2 k2)
  · rename_i ks ls
    obtain ⟨f, q⟩ := fin e
    refine ⟨.inr ?_, q⟩
    obtain ⟨a, xs, rfl, r1, r2⟩ := bor_dkR (bor_hid ha)
    obtain ⟨b, ys, rfl, r3, r4⟩ := bor_dkR (bor_hid hb)
    obtain ⟨f1, f2⟩ := deq_rep f r2 r4
    exact ⟨a, b, xs, ys, rfl, rfl, r1, r3, f1, f2⟩
  · cases e
@[simp] def eEqI := eBin (oEqI false)
@[simp] def eNeI := eBin (oEqI true)
theorem fe_eqI {a b : Expr} {ma mb : ME} (hu : X.A.units + 64 < cLine) (ha : RE X W st a ma) (hb : RE X W st b mb) : FE X W st (.Compare a [.Eq] [b] pos) (eEqI ma mb) := fe_cmp (op_eqI hu) op2_eqI ha hb
theorem fe_neI {a b : Expr} {ma mb : ME} (hu : X.A.units + 64 < cLine) (ha : RE X W st a ma) (hb : RE X W st b mb) : FE X W st (.Compare a [.NotEq] [b] pos) (eNeI ma mb) := fe_cmp (op_neI hu) op2_eqI ha hb
@[simp] def tEqI := tCp (oEqI false)
@[simp] def tNeI := tCp (oEqI true)
theorem rt_eqI {a b : Expr} {ma mb : ME} (hu : X.A.units + 64 < cLine) (ha : RE X W st a ma) (hb : RE X W st b mb) : RT X W st (.Compare a [.Eq] [b] pos) (tEqI ma mb) := rt_cmp (op_eqI hu) op2_eqI ha hb
theorem rt_neI {a b : Expr} {ma mb : ME} (hu : X.A.units + 64 < cLine) (ha : RE X W st a ma) (hb : RE X W st b mb) : RT X W st (.Compare a [.NotEq] [b] pos) (tNeI ma mb) := rt_cmp (op_neI hu) op2_eqI ha hb
end
end MM

namespace MM
open PySem PySem.Spec PyProof.Rows L2
section
variable {X : Cx} {W : WX} {st : Option Addr} {pos : Pos}
/-! ### {k: v for a, b in enumerate(xs)}, xs a list that nobody changes any more -/
def dcT2 (i j : Nat) (c : MT) (mk mv : ME) (S0 : List Sv) : List T → List (Key × T) → Zs → Rs Val
  | [], acc, z => .ok (.dk acc) z
  | t :: ts, acc, z => if i < S0.length ∧ j < S0.length ∧ i ≠ j then match t with
    | .tup [a, b] => match c ((S0.set i (.o (.im a))).set j (.o (.im b))) z with
      | .ok true z => match mk ((S0.set i (.o (.im a))).set j (.o (.im b))) z with
        | .ok (.im u) z => match mv ((S0.set i (.o (.im a))).set j (.o (.im b))) z with
          | .ok (.im v) z => match u.key? with
            | some k => if acc.length < sizeLine then dcT2 i j c mk mv S0 ts (putT acc k v) z else .no
            | none => .no
          | _ => .no
        | _ => .no
      | .ok false z => dcT2 i j c mk mv S0 ts acc z
      | _ => .no
    | _ => .no
    else .no
theorem dcT2_ok {i j : Nat} {c : MT} {mk mv : ME} {S0 : List Sv} : ∀ {ts : List T} {acc : List (Key × T)} {z : Zs} {r : Rs Val}, dcT2 i j c mk mv S0 ts acc z = r → (∃ us z', r = .ok (.dk us) z') ∨ r = .no
  | [], acc, z, r, h => by cases h; exact .inl ⟨_, _, rfl⟩
  | t :: ts, acc, z, r, h => by
    unfold dcT2 at h
    split at h
    · split at h
      · split at h
        · split at h
          · split at h
            · split at h
              · split at h
                · exact dcT2_ok h
                · exact .inr h.symm
              · exact .inr h.symm
            · exact .inr h.symm
          · exact .inr h.symm
        · exact dcT2_ok h
        · exact .inr h.symm
      · exact .inr h.symm
    · exact .inr h.symm
structure DcP2 (X : Cx) (st : Option Addr) (H0 B : Hp) (Ls : List (Option (V × Val))) (G : List Addr) (S : List Sv) (σ : L2.St) (D : Addr) (Q : VK) (i j : Nat) (c : MT) (mk mv : ME) (H1 : Hp) (ts : List T) (H : Hp) (z : Zs) (acc : List (Key × T)) (av : List (Key × V)) : Prop where
  s : Stt X.K st H0 B Ls (D :: G) S z σ H
  d : H D = some (.dK av)
  r : RepK X.K H av acc
  k : ∀ a o, st ≠ some a → a ≠ D → H1 a = some o → H a = some o
  q : DcK X.K st H0 B Ls G S σ D Q (dcT2 i j c mk mv (wipS2 i j S) ts acc z)
theorem dc_turn2 {i j : Nat} {c : MT} {mk mv : ME} {tt : TT} {tk tv : TE}
    (fc : ∀ H0 B Ls G S z σ H Q, Stt X.K st H0 B Ls G S z σ H → Ct X W0 st σ H (c S z) (fun x z' H' => Q x H') → tt σ H Q)
    (fk : ∀ H0 B Ls G S z σ H Q, Stt X.K st H0 B Ls G S z σ H → Ct X W0 st σ H (mk S z) (fun x z' H' => ∀ v, Bor X.K (hid st H') v x → Q v H') → tk σ H Q)
    (fm : ∀ H0 B Ls G S z σ H Q, Stt X.K st H0 B Ls G S z σ H → Ct X W0 st σ H (mv S z) (fun x z' H' => ∀ v, Bor X.K (hid st H') v x → Q v H') → tv σ H Q)
    {H0 B H1 H : Hp} {Ls : List (Option (V × Val))} {G : List Addr} {S : List Sv} {σ : L2.St} {D : Addr} {Q : VK} {z : Zs} {acc : List (Key × T)} {ts : List T} {av : List (Key × V)} {t : T} {v : V}
    (P : DcP2 X st H0 B Ls G S σ D Q i j c mk mv H1 (t :: ts) H z acc av) (r : RepT X.K H v t) :
    gTup X.K 2 (gCons (gName i) (gCons (gName j) gNil)) v (wipe σ [i, j]) H fun σ2 H2 => wipe σ2 [i, j] = wipe σ [i, j] ∧ tt σ2 H2 fun b H3 => if b = true then tk σ2 H3 fun y H4 => tv σ2 H4 fun x H5 => ∃ kvs k, y = kV k ∧ H5 D = some (.dK kvs) ∧ kvs.length < sizeLine ∧ (∃ z acc av, DcP2 X st H0 B Ls G S σ D Q i j c mk mv H1 ts (L2.upd H5 D (.dK (putK kvs k x))) z acc av)
      else ∃ z acc av, DcP2 X st H0 B Ls G S σ D Q i j c mk mv H1 ts H3 z acc av := by
  have hq := P.q
  unfold dcT2 at hq
  split at hq
  · rename_i hj
    obtain ⟨hi, hj, hn⟩ := hj
    have hi' : i < S.length := by unfold wipS2 at hi; simpa using hi
    have hj' : j < S.length := by unfold wipS2 at hj; simpa using hj
    have nD : st ≠ some D := by
      obtain ⟨Gs, _, _, fr⟩ := P.s.ex
      exact P.s.nst (fr D (by simp)).1
    split at hq
    · rename_i a b
      cases r with
      | @tup p xs _ r1 r2 =>
        cases r2 with
        | cons ra rb =>
          rename_i va vr
          cases rb with
          | cons rb rn =>
            rename_i vb vn
            cases rn
            refine ⟨p, _, rfl, r1, rfl, va, _, rfl, vb, _, rfl, rfl, wipe_two hn, ?_⟩
            have hs : Stt X.K st H0 B Ls (D :: G) (((wipS2 i j S).set i (.o (.im a))).set j (.o (.im b))) z (((wipe σ [i, j]).set i (some va)).set j (some vb)) H := by
              unfold wipS2
              simp only [wipe]
              rw [set4 hn, set4 hn]
              exact Stt.put (G' := []) (Stt.put (G' := []) P.s (.im ra) hi') (.im rb) (by simpa using hj')
            refine fc _ _ _ _ _ _ _ _ _ hs ?_
            cases ec : c (((wipS2 i j S).set i (.o (.im a))).set j (.o (.im b))) z with
            | no => rw [ec] at hq; exact hq.elim
            | ex d z1 => rw [ec] at hq; exact hq.elim
            | ok b' z1 =>
              rw [ec] at hq
              intro H3 x3 hz3
              have s3 := P.s.grow x3 hz3
              have d3 := x3.k D _ nD P.d
              have r3 := P.r.mono (x3.le P.s.zr)
              cases b' with
              | false => exact iteF ⟨z1, acc, av, s3, d3, r3, fun a o h1 h2 h3 => x3.k a o h1 (P.k a o h1 h2 h3), hq⟩
              | true =>
                refine iteT ?_
                refine fk _ _ _ _ _ _ _ _ _ (hs.grow x3 hz3) ?_
                dsimp only at hq
                cases em : mk (((wipS2 i j S).set i (.o (.im a))).set j (.o (.im b))) z1 with
                | no => rw [em] at hq; exact hq.elim
                | ex d z2 => rw [em] at hq; exact hq.elim
                | ok y z2 =>
                  rw [em] at hq
                  intro H4 x4 hz4 w hw
                  cases y with
                  | im u =>
                    dsimp only at hq
                    refine fm _ _ _ _ _ _ _ _ _ ((hs.grow x3 hz3).grow x4 hz4) ?_
                    cases en : mv (((wipS2 i j S).set i (.o (.im a))).set j (.o (.im b))) z2 with
                    | no => rw [en] at hq; exact hq.elim
                    | ex d z3 => rw [en] at hq; exact hq.elim
                    | ok y2 z3 =>
                      rw [en] at hq
                      intro H5 x5 hz5 w2 hw2
                      cases y2 with
                      | im v2 =>
                        dsimp only at hq
                        split at hq
                        · rename_i k ek
                          split at hq
                          · rename_i hl
                            have s4 := s3.grow x4 hz4
                            have d4 := x4.k D _ nD d3
                            have r4 := r3.mono (x4.le s3.zr)
                            have s5 := s4.grow x5 hz5
                            have d5 := x5.k D _ nD d4
                            have r5 := r4.mono (x5.le s4.zr)
                            have hlen := congrArg List.length r5.1
                            rw [List.length_map, List.length_map] at hlen
                            cases hw with
                            | im hw =>
                              cases hw2 with
                              | im hw2 =>
                                refine ⟨av, k, rep_key hw ek, d5, by rw [hlen]; exact hl, z3, putT acc k v2, putK av k w2, s5.chgG d5 True.intro True.intro, upd_same, repK_put ((repT_hid hw2).mono (Le.upd_dK d5)) (r5.mono (Le.upd_dK d5)), fun a o h1 h2 h3 => ?_, hq⟩
                                rw [upd_ne h2]
                                exact x5.k a o h1 (x4.k a o h1 (x3.k a o h1 (P.k a o h1 h2 h3)))
                          · exact hq.elim
                        · exact hq.elim
                      | _ => exact hq.elim
                  | _ => exact hq.elim
    · exact hq.elim
  · exact hq.elim
theorem dc_start2 {H0 B H1 : Hp} {Ls : List (Option (V × Val))} {G : List Addr} {S : List Sv} {σ : L2.St} {Q : VK} {z1 : Zs} {D : Addr} {i j : Nat} {c : MT} {mk mv : ME} {ts : List T} (h1 : Stt X.K st H0 B Ls G S z1 σ H1) (nD : H1 D = none)
    (hq : Ct X W st σ H1 (dcT2 i j c mk mv (wipS2 i j S) ts [] z1) (fun x z' H' => ∀ v G', Own X.K H' v x G' → Stt X.K st H0 B Ls (G' ++ G) S z' σ H' → Q v H')) :
    DcK X.K st H0 B Ls G S σ D (fun v H' => (∀ a o, st ≠ some a → a ≠ D → H1 a = some o → H' a = some o) → Q v H') (dcT2 i j c mk mv (wipS2 i j S) ts [] z1) := by
  cases e : dcT2 i j c mk mv (wipS2 i j S) ts [] z1 with
  | ok x z =>
    rcases dcT2_ok e with ⟨us, z', q⟩ | q
    · cases q
      rw [e] at hq
      exact fun H av hs hd r k => hq H (SameX.two h1 hs nD k) hs.zr _ [D] (.dk hd r) (by simpa using hs)
    · cases q
  | ex d z => rcases dcT2_ok e with ⟨us, z', q⟩ | q <;> cases q
  | no => rw [e] at hq; exact hq
theorem dcW2_rd {J : It} {n : Nat} {GH : Hp → Prop} {Y : Nat → Hp → V → Hp → Prop} {ts : List T} {c : MT} {mk mv : ME} {tt : TT} {tk tv : TE} (i j : Nat) (w : Walk J n GH Y) (hn : n = ts.length)
    (ft : ∀ H0 B Ls G S z σ H Q, Stt X.K st H0 B Ls G S z σ H → Ct X W0 st σ H (c S z) (fun x z' H' => Q x H') → tt σ H Q)
    (fk : ∀ H0 B Ls G S z σ H Q, Stt X.K st H0 B Ls G S z σ H → Ct X W0 st σ H (mk S z) (fun x z' H' => ∀ v, Bor X.K (hid st H') v x → Q v H') → tk σ H Q)
    (fe : ∀ H0 B Ls G S z σ H Q, Stt X.K st H0 B Ls G S z σ H → Ct X W0 st σ H (mv S z) (fun x z' H' => ∀ v, Bor X.K (hid st H') v x → Q v H') → tv σ H Q)
    {H0 B H1 : Hp} {Ls : List (Option (V × Val))} {G : List Addr} {S : List Sv} {σ : L2.St} {Q : VK} {z1 : Zs} (h1 : Stt X.K st H0 B Ls G S z1 σ H1)
    (hG : ∀ H, Le H1 H → GH H) (hY : ∀ k H x H', k < n → Le H1 H → Y k H x H' → Same H H' ∧ ∃ t, ts[k]? = some t ∧ RepT X.K H' x t)
    (hq1 : Ct X W st σ H1 (dcT2 i j c mk mv (wipS2 i j S) ts [] z1) (fun x z' H' => ∀ v G', Own X.K H' v x G' → Stt X.K st H0 B Ls (G' ++ G) S z' σ H' → Q v H')) {D : Addr} (nD : H1 D = none) :
    ∃ W : Nat → Nat → Hp → Prop, (∃ m, W 0 m (L2.upd H1 D (.dK []))) ∧ ∀ i' m H, W i' m H →
      (J.stop i' H ∧ Q (.ref D) H) ∨ (J.go i' H ∧ ∃ Nx : Hp → Prop, (∀ H', Nx H' → ∃ m', m' < m ∧ W (i' + 1) m' H') ∧ ∀ x H', J.yld i' H x H' → gTup X.K 2 (gCons (gName i) (gCons (gName j) gNil)) x (wipe σ [i, j]) H' fun σ2 H2 => wipe σ2 [i, j] = wipe σ [i, j] ∧ tt σ2 H2 fun b H3 =>
        if b = true then tk σ2 H3 fun y H4 => tv σ2 H4 fun z H5 => ∃ kvs k, y = kV k ∧ H5 D = some (.dK kvs) ∧ kvs.length < sizeLine ∧ Nx (upd H5 D (.dK (putK kvs k z))) else Nx H3) := by
  have hz1 := h1.zr
  have sn : Same H1 (L2.upd H1 D (.dK [])) := Same.upd_new nD
  have le : ∀ {H z acc av} {us : List T}, DcP2 X st H0 B Ls G S σ D (fun v H' => (∀ a o, st ≠ some a → a ≠ D → H1 a = some o → H' a = some o) → Q v H') i j c mk mv H1 us H z acc av → Le H1 H := fun P => (SameX.two h1 P.s nD P.k).le hz1
  refine dc_it w (fun k H => ∃ z acc av, DcP2 X st H0 B Ls G S σ D (fun v H' => (∀ a o, st ≠ some a → a ≠ D → H1 a = some o → H' a = some o) → Q v H') i j c mk mv H1 (ts.drop k) H z acc av)
    ⟨z1, [], [], h1.add (G' := [D]) (.of_same sn) (hz1.new sn) (by simp) (fun a ha => by simp at ha; subst ha; exact nD) (fun a ha => by simp at ha; subst ha; exact ⟨_, upd_same, True.intro⟩), upd_same, ⟨rfl, .nil⟩, fun a o _ _ e => sn a o e, dc_start2 h1 nD hq1⟩
    (fun _ _ _ ⟨_, _, _, P⟩ => hG _ (le P)) (fun k x H H' hi ⟨z2, acc, av, P⟩ y => ?_) (fun H ⟨z2, acc, av, P⟩ => ?_)
  · obtain ⟨sm, t, et, rt⟩ := hY k H x H' hi (le P) y
    obtain ⟨hl, e2⟩ := List.getElem?_eq_some_iff.mp et
    rw [List.drop_eq_getElem_cons hl, e2] at P
    have P' : DcP2 X st H0 B Ls G S σ D (fun v H' => (∀ a o, st ≠ some a → a ≠ D → H1 a = some o → H' a = some o) → Q v H') i j c mk mv H1 (t :: ts.drop (k + 1)) H' z2 acc av :=
      ⟨P.s.grow (.of_same sm) (P.s.zr.new sm), sm _ _ P.d, P.r.mono (Le.of_same sm), fun a o h1 h2 h3 => sm _ _ (P.k a o h1 h2 h3), P.q⟩
    exact dc_turn2 ft fk fe P' rt
  · rw [hn, List.drop_length] at P
    have hq := P.q
    exact hq H av P.s P.d P.r P.k
@[simp] def eDcE (me : ME) (i j : Nat) (c : MT) (mk mv : ME) : ME := fun S z => (me S z).bind fun x z => match x with
  | .im (.ls ts) => dcT2 i j c mk mv (wipS2 i j S) (enumT ts) [] z
  | _ => .no
theorem fe_dcE {ek ev e : Expr} {elts : List Expr} {kk : Nat} {tpos p ip : Pos} {ifs : List Expr} {scope : Scope} {x y : Str} {me : ME} {c : MT} {mk mv : ME} (i j : Nat) (hc : X.calm = true) (hN : X.N.Nodup) (hgl : Gl X "enumerate") (hm : X.mg "enumerate" = none) (ha : RE X W st e me)
    (ok : BlkOk X.N X.env.scope scope [(x, i), (y, j)])
    (hg : ∀ s H C cl fp, PG (Bk X scope s H C cl fp) (.Tuple elts kk tpos) (gTup X.K 2 (gCons (gName i) (gCons (gName j) gNil)))) (ht : ∀ s H C cl fp, RTs (Bk X scope s H C cl fp) W0 st ifs c) (hk : ∀ s H C cl fp, RE (Bk X scope s H C cl fp) W0 st ek mk) (he : ∀ s H C cl fp, RE (Bk X scope s H C cl fp) W0 st ev mv)
    (hs0 : starEach [e] X.env = [(false, eval e X.env)] := by rfl) (hs1 : starEach [e] X.env = (false, eval e X.env) :: starEach [] X.env := by rfl) (hs : ∀ x, foldedSetIterable (.Call (.Name "enumerate" p) [e] [] ip) X.env x = pure x := by intro _; rfl) :
    FE X W st (.DictComp ek ev [⟨.Tuple elts kk tpos, .Call (.Name "enumerate" p) [e] [] ip, ifs, 0⟩] scope pos) (eDcE me i j c mk mv) := by
  obtain ⟨ti, pi, fi⟩ := ha
  obtain ⟨tt, pt, ft⟩ := rts_uni ht
  obtain ⟨tk, pk, fk⟩ := re_uni hk
  obtain ⟨te, pe, fe⟩ := re_uni he
  refine ⟨_, pe_dc hc hN (pi_enum hgl hm (pa_cons pi pa_nil hs1) hs0) ok hg pt pk pe hs, fun H0 B Ls G S z σ H Q h hq => ?_⟩
  refine fi H0 B Ls G S z σ H _ h (hq.bind fun y z1 H1 _ x1 hz1 hq1 v hv => ?_)
  have g1 := h.grow x1 hz1
  split at hq1
  · rename_i ts _
    cases bor_hid hv with
    | im r =>
      cases r with
      | @ls a o xs _ r1 r2 =>
        have sq : SqL X.K H1 a xs := .inl (.inr ⟨o, r1⟩)
        refine ⟨a, xs, rfl, sq, fun D nD => ?_⟩
        refine dcW2_rd i j walk_enum (ts := enumT ts) (by rw [enumT_length, r2.length]) ft fk fe g1 (fun H le => ?_) (fun k H x H' hk le y => ?_) hq1 nD
        · exact .inl (.inr ⟨o, le.2.2 _ _ _ r1⟩)
        · obtain ⟨p, u, v, rfl, hp, e, e1, e2⟩ := y
          cases e1
          obtain ⟨t, et, rt⟩ := (r2.mono le).getV e2
          subst e
          have s1 : Same H (L2.upd H p (.tup [V.int k, v])) := Same.upd_new hp
          have le2 := Le.of_same s1
          exact ⟨s1, _, enumT_get et, .tup (.inl (.inl upd_same)) (.cons (.int _) (.cons (rt.mono le2) .nil))⟩
  · exact hq1.elim
end
end MM
namespace L2
open PySem PySem.Spec PyProof.Rows
section
variable {X : Cx} {o : Expr} {p pos apos mpos : Pos} {td : TE}
/-- list(o.values()) -/
def tListVals (td : TE) : TE := fun σ H Q => td σ H fun x H1 => ∃ (a : Addr) (kvs : List (Key × V)), x = V.ref a ∧ Rd H1 a (.dK kvs) ∧ ∀ q, H1 q = none → Q (.ref q) (upd H1 q (.lst (kvs.map (·.2))))
theorem vals_of {kvs : List (Key × V)} {vs : List (Key × Value)} (r : KV kvs vs) : Vals (kvs.map (·.2)) (vs.map (·.2)) := by
  unfold KV at r
  induction r with
  | nil => exact .nil
  | cons h _ ih => exact .cons h.2 ih
theorem pe_listVals (hc : X.calm = true) (hg : Gl X "list") (hm : X.mg "list" = none) (hd : PE X o td) (hbase : attributeBase o "values" X.env (eval o X.env) = eval o X.env := by rfl) (hline : (apos.endLine == mpos.line) = true := by rfl)
    (hse : starEach [Expr.Call (.Attribute o "values" apos) [] [] mpos] X.env = [(false, eval (Expr.Call (.Attribute o "values" apos) [] [] mpos) X.env)] := by rfl) :
    PE X (.Call (.Name "list" p) [.Call (.Attribute o "values" apos) [] [] mpos] [] pos) (tListVals td) := by
  refine ⟨fun pins s σ H Q I h => ?_⟩
  refine wpAny_Call_Name_kw (ld_blt I hg hm (u := .type "list") (by decide +kernel) ?_ (by decide) (by decide))
  rw [hse]
  refine PySem.callWith_type1 (wpAny_Call_method0_late hbase hline (thn (hd.run pins s σ H _ I h) fun v s1 ⟨x, H1, I1, r1, a, kvs, ex, ha, q⟩ => ?_))
  subst ex
  obtain rfl : v = Value.ref a := r1
  obtain ⟨hz, hsys, vs, rel, dof⟩ := dk_rd I1.hok ha
  obtain ⟨ep, dat⟩ := dof.dictAt
  have dat' := dat
  obtain ⟨ob, es, ho, ex, hdat, hko, hpr, hnd⟩ := dat'
  refine ⟨"dict", "dict.values", F.plainAttrs_dict, F.slot_dict_values, F.type_dict_values, ⟨ob, ho, ex.1⟩, fun b e => ?_, Calls.callWith_builtin rfl (PySem.evalArgs_none ?_)⟩
  · cases e
    exact ⟨ob, ho, ex.2.1⟩
  refine call_meetsIn F.slot_dict_values ⟨ob, ho, ex.1⟩ F.entry_dict_values (F.args_dict_values_1 _) (meets_dict_values (mixKind X.prog X.w) a hsys) ⟨⟨vs, dof⟩, ?_⟩
  have up : ∀ b u, s1.heap.get? b = some u → (s1.heap.push { cls := .type "dict_values", data := .fields #[.ref a] }).get? b = some u := fun b u e => Heap.get?_push_of_some _ e
  have view : (s1.heap.push { cls := .type "dict_values", data := .fields #[.ref a] }).get? s1.heap.objs.size = some { cls := .type "dict_values", data := .fields #[.ref a] } := Heap.get?_push_size _ rfl
  have I2 : Inv X pins σ H1 { s1 with heap := s1.heap.push { cls := .type "dict_values", data := .fields #[.ref a] } } := I1.kept (t' := s1.toks) up
  refine PySem.W.kdl_call (s := { s1 with heap := s1.heap.push { cls := .type "dict_values", data := .fields #[.ref a] } }) (PySem.W.kdl_values (knd := mixKind X.prog X.w) (kvs := vs) (ep := ep) (d := a) (r := s1.heap.objs.size)) (I.ok.hd hc) ⟨⟨_, view, rfl, rfl⟩, dat.keep up⟩ (by rw [← KV.length rel]; exact hz) fun h' tk acc c' hk hD hacc => ?_
  have hv : acc.toList = vs.map (·.2) := PySem.W.kdl_vals_eq acc.toList (by rw [Array.length_toList]; exact hacc.1) fun j v e => hacc.2 j v (by rw [← Array.getElem?_toList]; exact e)
  refine ⟨V.ref (s1.heap.push { cls := .type "dict_values", data := .fields #[.ref a] }).objs.size, upd H1 _ (.lst (kvs.map (·.2))), I2.laid (t' := tk) hk (Nat.le_refl _)
    (show ObjOk X.prog X.w _ _ _ (.lst (kvs.map (·.2))) from ⟨by rw [List.length_map]; exact hz, acc.toList, c', by rw [hv]; exact vals_of rel, by rw [Array.toArray_toList]; exact hD⟩), rfl, q _ (I2.hok.fresh (Nat.le_refl _))⟩
end
end L2
namespace MM
open PySem PySem.Spec PyProof.Rows L2
section
variable {X : Cx} {W : WX} {st : Option Addr} {pos : Pos}
@[simp] def eListVals (m : ME) : ME := fun S z => (m S z).bind fun x z => match x with
  | .dk kvs => .ok (.il (kvs.map (·.2))) z
  | _ => .no
theorem fe_listVals {o : Expr} {p apos mpos : Pos} {m : ME} (hc : X.calm = true) (hg : Gl X "list") (hm : X.mg "list" = none) (ho : RE X W st o m) (hbase : attributeBase o "values" X.env (eval o X.env) = eval o X.env := by rfl) (hline : (apos.endLine == mpos.line) = true := by rfl)
    (hse : starEach [Expr.Call (.Attribute o "values" apos) [] [] mpos] X.env = [(false, eval (Expr.Call (.Attribute o "values" apos) [] [] mpos) X.env)] := by rfl) :
    FE X W st (.Call (.Name "list" p) [.Call (.Attribute o "values" apos) [] [] mpos] [] pos) (eListVals m) := by
  obtain ⟨t, pe, f⟩ := ho
  refine ⟨_, pe_listVals hc hg hm pe hbase hline hse, fun H0 B Ls G S z σ H Q h hq => ?_⟩
  refine f H0 B Ls G S z σ H _ h (hq.bind fun x z1 H1 _ x1 hz1 hq1 v hv => ?_)
  have h1 := h.grow x1 hz1
  split at hq1
  · rename_i kvs _
    obtain ⟨a, xs, rfl, r1, r2⟩ := bor_dkR (bor_hid hv)
    refine ⟨a, xs, rfl, r1, fun q nq => ?_⟩
    have sn : Same H1 (L2.upd H1 q (.lst (xs.map (·.2)))) := Same.upd_new nq
    exact Ct.fin h1 hq1 sn (.il upd_same (r2.2.mono (Le.of_same sn))) (by simp) (fun a ha => by simp at ha; subst ha; exact nq)
  · exact hq1.elim
/-! ### return (a, b, name): two new values and one that a slot gives up -/
@[simp] def sRetT3 (ma mb : ME) (j : Nat) : MS := fun S z => (ma S z).go S fun x z => (mb S z).go S fun y z => match S[j]? with
  | some (.o w) => .rt (.tup [x, y, w]) z
  | _ => .no
theorem Cs.goR {α : Type} {H0 B H : Hp} {Ls : List (Option (V × Val))} {D : Ends} {G : List Addr} {S : List Sv} {z : Zs} {σ : L2.St} {r : Rs α} {f : α → Zs → Ro} {k' : α → Zs → Hp → Prop} (h : Stt X.K st H0 B Ls G S z σ H) (hq : Cs X W st H0 B Ls D (r.go S f))
    (g : ∀ a z1 H1, r = .ok a z1 → SameX st H H1 → Zr X.K st z1 H1 → Cs X W st H0 B Ls D (f a z1) → k' a z1 H1) : Ct X W st σ H r k' := by
  cases r with
  | ok a z => exact fun H' y hz => g a z H' rfl y hz hq
  | ex c z1 => exact fun cv d H' y hz xr => hq cv d σ H' (Stt.drop (G' := G) (G := []) (by simpa using h.grow y hz)) xr
  | no => exact hq
theorem se_retT3 (j : Nat) {a b : Expr} {y : Str} {p tp : Pos} {kk : Nat} {ma mb : ME} (ha : FE X W st a ma) (hb : FE X W st b mb) (hj : X.N[j]? = some y := by rfl) (hv : Vis X.env.scope y := by first | exact Or.inl rfl | exact Or.inr (Or.inl rfl) | exact Or.inr (Or.inr rfl)) (hd : (y == ("__debug__" : Str)) = false := by decide)
    (hcd : (y == ("__classdict__" : Str)) = false := by decide) (hs : starEach [a, b, .Name y p] X.env = (false, eval a X.env) :: starEach [b, .Name y p] X.env := by rfl) (hs1 : starEach [b, .Name y p] X.env = (false, eval b X.env) :: starEach [.Name y p] X.env := by rfl) (hs2 : starEach [.Name y p] X.env = (false, eval (.Name y p) X.env) :: starEach [] X.env := by rfl) :
    SE X W st (.Return (some (.Tuple [a, b, .Name y p] kk tp)) pos) (sRetT3 ma mb j) := by
  obtain ⟨ta, pa, fa⟩ := ha
  obtain ⟨tb, pb, fb⟩ := hb
  refine ⟨_, ps_ret (pe_tup (pa_cons pa (pa_cons pb (pa_cons (pe_var (X := X) (pos := p) hj hv hd hcd) pa_nil hs2) hs1) hs)), fun H0 B Ls S z σ H D h hq => ?_⟩
  unfold sRetT3 at hq
  refine fa H0 B Ls [] S z σ H _ h (Cs.goR h hq fun x z1 H1 _ x1 hz1 hq1 v G1 o1 h1 => ?_)
  refine fb H0 B Ls (G1 ++ []) S z1 σ H1 _ h1 (Cs.goR h1 hq1 fun y z2 H2 _ x2 hz2 hq2 w G2 o2 h2 => ?_)
  split at hq2
  · rename_i u eu
    obtain ⟨v3, G3, e3, o3, h3⟩ := h2.take eu
    refine ⟨v3, e3, by simp, fun q nq => ?_⟩
    have sn : Same H2 (L2.upd H2 q (.tup [v, w, v3])) := Same.upd_new nq
    have le := Le.of_same sn
    obtain ⟨Gs, hs1, nd, fr⟩ := h1.ex
    have o1' : Own X.K H2 v x G1 := o1.mono (x2.le h1.zr) fun a ha o e => x2.k a o (h1.nst (fr a (by simp [ha])).1) e
    have key : Own X.K (L2.upd H2 q (.tup [v, w, v3])) (.ref q) (.tup [x, y, u]) (((List.range [v, w, v3].length).map fun i => if i = 0 then G1 else if i = 1 then G2 else G3).flatten) := by
      refine .tup (fun i => if i = 0 then G1 else if i = 1 then G2 else G3) (.inl (.inl upd_same)) rfl fun i a b ea eb => ?_
      match i with
      | 0 => simp at ea eb; subst ea eb; exact o1'.mono le fun a _ o e => sn a o e
      | 1 => simp at ea eb; subst ea eb; exact o2.mono le fun a _ o e => sn a o e
      | 2 => simp at ea eb; subst ea eb; exact o3.mono le fun a _ o e => sn a o e
      | i + 3 => simp at ea
    have eG : (((List.range [v, w, v3].length).map fun i => if i = 0 then G1 else if i = 1 then G2 else G3).flatten) = G1 ++ (G2 ++ G3) := by simp [List.range_succ]
    rw [eG] at key
    have pm : (G3 ++ (G2 ++ (G1 ++ []))).Perm (G1 ++ (G2 ++ G3)) := by
      rw [List.append_nil]
      refine (List.perm_append_comm.trans ?_)
      refine (List.Perm.append_right G3 List.perm_append_comm).trans ?_
      rw [List.append_assoc]
    have h4 := (h3.perm pm).grow (.of_same sn) (h3.zr.new sn)
    obtain ⟨Gs4, _, nd4, fr4⟩ := h4.ex
    exact hq2 _ _ _ h4.fr h4.ble h4.zr key (List.nodup_append.mp nd4).1 fun a ha => (fr4 a (List.mem_append_left _ ha)).1
  · exact hq2.elim
end
end MM
namespace MM
open PySem PySem.Spec PyProof.Rows L2
section
variable {X : Cx} {W : WX} {st : Option Addr} {pos : Pos}
/-! ### x[k][i] = v, x a tuple with a dict in it -/
theorem own_tupD {K : PySem.W.Frag} {H : Hp} {v : V} {vs : List Val} {G : List Addr} {k : Nat} {ts : List (Key × T)} (h : Own K H v (.tup vs) G) (hk : vs[k]? = some (.dk ts)) : ∃ a xs l ws, v = .ref a ∧ SqT K H a xs ∧ xs.length = vs.length ∧ xs[k]? = some (.ref l) ∧ H l = some (.dK ws) ∧ RepK K H ws ts ∧ l ∈ G ∧
    (G.Nodup → ∀ (kk : Key) (w : V) (t : T), RepT K H w t → Own K (L2.upd H l (.dK (putK ws kk w))) v (.tup (vs.set k (.dk (putT ts kk t)))) G) := by
  cases h with
  | tnil q => simp at hk
  | @tup a xs _ f q hl hh =>
    obtain ⟨hk1, hk2⟩ := List.getElem?_eq_some_iff.mp hk
    have hx : xs[k]? = some xs[k] := List.getElem?_eq_getElem (by omega)
    have ok := hh k _ _ hx hk
    obtain ⟨l, ws, el, ef, hw, hr⟩ := own_dk ok
    rw [el] at hx
    have lm : l ∈ ((List.range xs.length).map f).flatten := List.mem_flatten.mpr ⟨f k, List.mem_map.mpr ⟨k, List.mem_range.mpr (by omega), rfl⟩, by rw [ef]; simp⟩
    refine ⟨a, xs, l, ws, rfl, q, hl, hx, hw, hr, lm, fun nd kk w t rw' => ?_⟩
    have le : Le H (L2.upd H l (.dK (putK ws kk w))) := Le.upd_dK hw
    refine .tup f (le.sqt q) (by simpa using hl) fun i u x eu ex => ?_
    rw [List.getElem?_set] at ex
    by_cases c : k = i
    · subst c
      rw [if_pos rfl, if_pos hk1] at ex
      cases ex
      rw [hx] at eu
      cases eu
      rw [ef]
      exact .dk upd_same (repK_put (rw'.mono le) (hr.mono le))
    · rw [if_neg c] at ex
      refine (hh i u x eu ex).mono le fun b hb o eb => ?_
      have hi : i < xs.length := (List.getElem?_eq_some_iff.mp eu).1
      have : b ≠ l := fun q => by
        subst q
        have pw := (List.pairwise_flatten.mp nd).2
        have pw2 := List.pairwise_iff_getElem.mp pw
        rcases Nat.lt_or_gt_of_ne c with g | g
        · exact pw2 k i (by simp; omega) (by simp; omega) g b (by simp [ef]) b (by simpa using hb) rfl
        · exact pw2 i k (by simp; omega) (by simp; omega) g b (by simpa using hb) b (by simp [ef]) rfl
      rw [upd_ne this]; exact eb
@[simp] def sPutT (i k : Nat) (n : Int) (mv : ME) : MS := fun S z => (mv S z).go S fun v z => match S[i]? with
  | some (.o (.tup vs)) => match vs[k]? with
    | some (.dk kvs) => match v with
      | .im t => if kvs.length < sizeLine then .nx (S.set i (.o (.tup (vs.set k (.dk (putT kvs (.inl (-n)) t)))))) z else .no
      | _ => .no
    | _ => .no
  | _ => .no
theorem se_putT (i k : Nat) (n : Int) {x : Str} {e : Expr} {mv : ME} {p kp sp tp np up : Pos} {kk k2 : Nat} (hu : X.A.units + 1 < cLine) (he : RE X W st e mv) (hN : X.N[i]? = some x := by rfl) (hv : Vis X.env.scope x := by first | exact Or.inl rfl | exact Or.inr (Or.inl rfl) | exact Or.inr (Or.inr rfl)) (hd : (x == ("__debug__" : Str)) = false := by decide)
    (hcd : (x == ("__classdict__" : Str)) = false := by decide) (hpx : PlainIx (.Constant (.int k) kk kp) := by exact fun _ _ => rfl)
    (ha : ∀ v, assign (.Subscript (.Subscript (.Name x p) (.Constant (.int k) kk kp) sp) (.UnaryOp .USub (.Constant (.int n) k2 np) up) tp) X.env v = (do
      let ov ← holding [v] (eval (.Subscript (.Name x p) (.Constant (.int k) kk kp) sp) X.env)
      let iv ← holding [v, ov] (eval (.UnaryOp .USub (.Constant (.int n) k2 np) up) X.env)
      standAt tp
      holding [v, ov, iv] (setItem ov iv v)
      release [v, ov, iv] []) := by intro _; rfl)
    (hs : swapsWithSole [.Subscript (.Subscript (.Name x p) (.Constant (.int k) kk kp) sp) (.UnaryOp .USub (.Constant (.int n) k2 np) up) tp] e pos.line X.env = pure false := by rfl) (hw : swappedStores [.Subscript (.Subscript (.Name x p) (.Constant (.int k) kk kp) sp) (.UnaryOp .USub (.Constant (.int n) k2 np) up) tp] e X.env = pure none := by rfl)
    (h1 : (assignEach [.Subscript (.Subscript (.Name x p) (.Constant (.int k) kk kp) sp) (.UnaryOp .USub (.Constant (.int n) k2 np) up) tp] X.env).map (·.2) = [assign (.Subscript (.Subscript (.Name x p) (.Constant (.int k) kk kp) sp) (.UnaryOp .USub (.Constant (.int n) k2 np) up) tp) X.env] := by rfl) :
    SE X W st (.Assign [.Subscript (.Subscript (.Name x p) (.Constant (.int k) kk kp) sp) (.UnaryOp .USub (.Constant (.int n) k2 np) up) tp] e pos) (sPutT i k n mv) := by
  obtain ⟨te, pe, fe⟩ := he
  refine ⟨_, ps_asg pe (pg_sub (pe_ix (ix_all hu) (pe_var hN hv hd hcd) (pe_int (X := X)) hpx) (pe_un un_neg (pe_int (X := X))) (set_put hu) ha) hs hw h1, fun H0 B Ls S z σ H D h hq => ?_⟩
  unfold sPutT at hq
  refine fe H0 B Ls [] S z σ H _ h (Cs.go h hq fun v z1 H1 _ x1 hz1 hq1 vv hvv => ?_)
  have g1 := h.grow x1 hz1
  split at hq1
  · rename_i vs es
    split at hq1
    · rename_i kvs ek
      obtain ⟨w, G1, e1, o1, nd1, chg⟩ := g1.chgE es
      obtain ⟨a, xs, l, ws, rfl, q, hl, hx, hw', hr, lm, upd'⟩ := own_tupD o1 ek
      refine ⟨.ref a, e1, .inl (.inr (.inl ⟨a, xs, (k : Int), .ref l, rfl, rfl, q, atI_nat hx, ?_⟩))⟩
      refine ⟨n, rfl, ?_⟩
      split at hq1
      · rename_i t _
        split at hq1
        · rename_i hlt
          cases hvv with
          | im hvv =>
            have hlen := congrArg List.length hr.1
            rw [List.length_map, List.length_map] at hlen
            refine .inr ⟨l, ws, .inl (-n), rfl, rfl, hw', by rw [hlen]; exact hlt, ?_⟩
            exact hq1 σ _ (chg l _ _ _ lm hw' True.intro True.intro (upd' nd1 _ _ t (repT_hid hvv)))
        · exact hq1.elim
      · exact hq1.elim
    · exact hq1.elim
  · exact hq1.elim
/-! ### x[k].append(n), x a tuple with a list in it, n an int of the text -/
@[simp] def sAppI (i k : Nat) (n : Int) : MS := fun S z => match S[i]? with
  | some (.o (.tup vs)) => match vs[k]? with
    | some (.il ts) => if ts.length < sizeLine then .nx (S.set i (.o (.tup (vs.set k (.il (ts ++ [.int n])))))) z else .no
    | _ => .no
  | _ => .no
theorem se_appI (i k : Nat) (n : Int) {x : Str} {kk k2 : Nat} {p kp sp ap cp np : Pos} (hu : X.A.units + 1 < cLine) (c : ClT X (.Subscript (.Name x p) (.Constant (.int k) kk kp) sp) "append" ap cp (.Constant (.int n) k2 np) := by exact ⟨rfl, rfl, rfl, rfl, rfl⟩) (hN : X.N[i]? = some x := by rfl)
    (hv : Vis X.env.scope x := by first | exact Or.inl rfl | exact Or.inr (Or.inl rfl) | exact Or.inr (Or.inr rfl)) (hd : (x == ("__debug__" : Str)) = false := by decide) (hcd : (x == ("__classdict__" : Str)) = false := by decide)
    (hpx : PlainIx (.Constant (.int k) kk kp) := by exact fun _ _ => rfl)
    (hs : swapsWith (.Call (.Attribute (.Subscript (.Name x p) (.Constant (.int k) kk kp) sp) "append" ap) [.Constant (.int n) k2 np] [] cp) none pos.line X.env = pure false := by rfl) :
    SE X W st (.Expr (.Call (.Attribute (.Subscript (.Name x p) (.Constant (.int k) kk kp) sp) "append" ap) [.Constant (.int n) k2 np] [] cp) pos) (sAppI i k n) := by
  refine ⟨_, ps_expr (pe_bm PySem.F.plainAttrs_list PySem.F.slot_list_append PySem.F.type_list_append mt_append (pe_ix (ix_all hu) (pe_var (X := X) (pos := p) hN hv hd hcd) (pe_int (X := X)) hpx) (pa_cons (pe_int (X := X)) pa_nil c.star) c.base c.few c.line c.star c.plain) hs, fun H0 B Ls S z σ H D h hq => ?_⟩
  unfold sAppI at hq
  split at hq
  · rename_i vs es
    split at hq
    · rename_i ts ek
      split at hq
      · rename_i hlt
        obtain ⟨v, G1, e1, o1, nd1, chg⟩ := h.chgE es
        obtain ⟨a, xs, l, ws, rfl, q, hl, hx, hw, hr, lm, upd'⟩ := own_tup o1 ek
        refine ⟨.ref a, e1, .inl (.inr (.inl ⟨a, xs, (k : Int), .ref l, rfl, rfl, q, atI_nat hx, tyL hw, ?_⟩))⟩
        refine ⟨l, ws, .int n, rfl, rfl, hw, by rw [hr.length]; exact hlt, ?_⟩
        exact hq σ _ (chg l _ _ _ lm hw True.intro True.intro (upd' nd1 _ _ (.int n)))
      · exact hq.elim
    · exact hq.elim
  · exact hq.elim
end
end MM
namespace MM
open PySem PySem.Spec PyProof.Rows L2
section
variable {X : Cx} {W : WX} {st : Option Addr} {pos : Pos}
/-! ### a tuple of things that are only read -/
theorem borS_at {K : PySem.W.Frag} {H : Hp} : ∀ {vs : List V} {xs : List Val}, BorS K H vs xs → vs.length = xs.length ∧ ∀ (i : Nat) v x, vs[i]? = some v → xs[i]? = some x → Bor K H v x
  | _, _, .nil => ⟨rfl, fun i v x e => by simp at e⟩
  | _, _, .cons h t => by
    obtain ⟨a, b⟩ := borS_at t
    refine ⟨by simp [a], fun i v x e1 e2 => ?_⟩
    cases i with
    | zero => simp at e1 e2; subst e1 e2; exact h
    | succ i => exact b i v x (by simpa using e1) (by simpa using e2)
@[simp] def oTupB (xs : List Val) (z : Zs) : Rs Val := if xs.length ≤ 64 then .ok (.tup xs) z else .no
@[simp] def eTupB (ms : MAs) : ME := fun S z => (ms S z).bind oTupB
theorem re_tupB {es : List Expr} {ms : MAs} {x1} (ha : RA X W st es ms) : RE X W st (.Tuple es x1 pos) (eTupB ms) := by
  obtain ⟨t, p, f⟩ := ha
  refine ⟨tTup t, pe_tup p, fun H0 B Ls G S z σ H Q h hq => ?_⟩
  refine f H0 B Ls G S z σ H _ h (hq.bind fun xs z1 H1 _ x1 hz1 hq1 vs hvs => ?_)
  unfold oTupB at hq1
  obtain ⟨hl, hi⟩ := borS_at hvs
  split at hq1
  · rename_i h64
    refine ⟨by rw [hl, sizeLine_eq]; omega, fun p np => ?_⟩
    have s1 : Same H1 (upd H1 p (.tup vs)) := Same.upd_new np
    have np' : st ≠ some p := fun c => by obtain ⟨l, q, _⟩ := hz1 p c; rw [np] at q; cases q
    have sx : SameX st H1 (upd H1 p (.tup vs)) := .of_same s1
    exact hq1.okX sx (hz1.new s1) _ (.tup (.inl (.inl (hid_of np' upd_same))) hl fun i v x e1 e2 => (hi i v x e1 e2).mono sx.hid)
  · exact hq1.elim
end
end MM

namespace Law
open PySem PySem.Spec PyProof.Rows L2 MM
def top (i : Nat) : Stmt := PySem.Challenge.pw_hornbook_k92_whole_slide_keeps_terms.main.body.getD i (.Pass ⟨0, 0, 0, 0⟩)
abbrev s_reachable : Stmt := top 1
abbrev N_reachable : List Str := ["cells", "roots", "marked", "waiting", "cell", "index", "at"]
theorem sc_reachable : FnScope N_reachable ["cells", "roots"] (defScope s_reachable) := ⟨rfl, rfl, rfl, by decide +kernel, rfl, by decide +kernel, by decide +kernel⟩
abbrev s_moved : Stmt := top 2
abbrev N_moved : List Str := ["cell", "places"]
theorem sc_moved : FnScope N_moved ["cell", "places"] (defScope s_moved) := ⟨rfl, rfl, rfl, by decide +kernel, rfl, by decide +kernel, by decide +kernel⟩
abbrev s_slide : Stmt := top 3
abbrev N_slide : List Str := ["cells", "roots", "kept", "places", "new", "old", "root"]
theorem sc_slide : FnScope N_slide ["cells", "roots"] (defScope s_slide) := ⟨rfl, rfl, rfl, by decide +kernel, rfl, by decide +kernel, by decide +kernel⟩
abbrev s__law_stream : Stmt := top 5
abbrev N__law_stream : List Str := ["script", "mixed", "cell"]
theorem sc__law_stream : FnScope N__law_stream ["script"] (defScope s__law_stream) := ⟨rfl, rfl, rfl, by decide +kernel, rfl, by decide +kernel, by decide +kernel⟩
abbrev s__law_draw : Stmt := top 6
abbrev N__law_draw : List Str := ["stream", "many", "value"]
theorem sc__law_draw : FnScope N__law_draw ["stream", "many"] (defScope s__law_draw) := ⟨rfl, rfl, rfl, by decide +kernel, rfl, by decide +kernel, by decide +kernel⟩
abbrev s__law_argument : Stmt := top 7
abbrev N__law_argument : List Str := ["stream", "pick"]
theorem sc__law_argument : FnScope N__law_argument ["stream"] (defScope s__law_argument) := ⟨rfl, rfl, rfl, by decide +kernel, rfl, by decide +kernel, by decide +kernel⟩
abbrev s__law_cells : Stmt := top 8
abbrev N__law_cells : List Str := ["stream", "size", "cells", "k", "pick", "at", "arity", "n", "symbols", "others"]
theorem sc__law_cells : FnScope N__law_cells ["stream", "size"] (defScope s__law_cells) := ⟨rfl, rfl, rfl, by decide +kernel, rfl, by decide +kernel, by decide +kernel⟩
abbrev s__law_is_symbol : Stmt := top 9
abbrev N__law_is_symbol : List Str := ["cell"]
theorem sc__law_is_symbol : FnScope N__law_is_symbol ["cell"] (defScope s__law_is_symbol) := ⟨rfl, rfl, rfl, by decide +kernel, rfl, by decide +kernel, by decide +kernel⟩
abbrev s__law_settled : Stmt := top 10
abbrev N__law_settled : List Str := ["cells", "at", "symbols", "others", "cell"]
theorem sc__law_settled : FnScope N__law_settled ["cells", "at", "symbols", "others"] (defScope s__law_settled) := ⟨rfl, rfl, rfl, by decide +kernel, rfl, by decide +kernel, by decide +kernel⟩
abbrev s__law_roots : Stmt := top 11
abbrev N__law_roots : List Str := ["stream", "cells", "roots", "k", "at"]
theorem sc__law_roots : FnScope N__law_roots ["stream", "cells"] (defScope s__law_roots) := ⟨rfl, rfl, rfl, by decide +kernel, rfl, by decide +kernel, by decide +kernel⟩
abbrev s__law_reachable : Stmt := top 12
abbrev N__law_reachable : List Str := ["cells", "roots", "cell", "found", "waiting", "k", "at", "n"]
theorem sc__law_reachable : FnScope N__law_reachable ["cells", "roots"] (defScope s__law_reachable) := ⟨rfl, rfl, rfl, by decide +kernel, rfl, by decide +kernel, by decide +kernel⟩
abbrev s__law_moved : Stmt := top 13
abbrev N__law_moved : List Str := ["cell", "places"]
theorem sc__law_moved : FnScope N__law_moved ["cell", "places"] (defScope s__law_moved) := ⟨rfl, rfl, rfl, by decide +kernel, rfl, by decide +kernel, by decide +kernel⟩
abbrev s_law : Stmt := top 14
abbrev N_law : List Str := ["script", "stream", "cells", "roots", "given", "rows", "actual", "kept", "places", "new", "at", "due", "again", "same", "moved_v", "root"]
theorem sc_law : FnScope N_law ["script"] (defScope s_law) := ⟨rfl, rfl, rfl, by decide +kernel, rfl, by decide +kernel, by decide +kernel⟩
set_option maxHeartbeats 8000000 in
structure Tx (K : PySem.W.Frag) (mg : Str → Option Value) where
  a_reachable : Addr
  d_reachable : FuncData
  F_reachable : Fun K "reachable" "reachable" s_reachable a_reachable d_reachable
  b_reachable : Binds K d_reachable ["cells", "roots"] []
  m_reachable : mg "reachable" = some (.ref a_reachable)
  a_moved : Addr
  d_moved : FuncData
  F_moved : Fun K "moved" "moved" s_moved a_moved d_moved
  b_moved : Binds K d_moved ["cell", "places"] []
  m_moved : mg "moved" = some (.ref a_moved)
  a_slide : Addr
  d_slide : FuncData
  F_slide : Fun K "slide" "slide" s_slide a_slide d_slide
  b_slide : Binds K d_slide ["cells", "roots"] []
  m_slide : mg "slide" = some (.ref a_slide)
  a__law_stream : Addr
  d__law_stream : FuncData
  F__law_stream : Fun K "_law_stream" "_law_stream" s__law_stream a__law_stream d__law_stream
  b__law_stream : Binds K d__law_stream ["script"] []
  m__law_stream : mg "_law_stream" = some (.ref a__law_stream)
  a__law_draw : Addr
  d__law_draw : FuncData
  F__law_draw : Fun K "_law_draw" "_law_draw" s__law_draw a__law_draw d__law_draw
  b__law_draw : Binds K d__law_draw ["stream", "many"] []
  m__law_draw : mg "_law_draw" = some (.ref a__law_draw)
  a__law_argument : Addr
  d__law_argument : FuncData
  F__law_argument : Fun K "_law_argument" "_law_argument" s__law_argument a__law_argument d__law_argument
  b__law_argument : Binds K d__law_argument ["stream"] []
  m__law_argument : mg "_law_argument" = some (.ref a__law_argument)
  a__law_cells : Addr
  d__law_cells : FuncData
  F__law_cells : Fun K "_law_cells" "_law_cells" s__law_cells a__law_cells d__law_cells
  b__law_cells : Binds K d__law_cells ["stream", "size"] []
  m__law_cells : mg "_law_cells" = some (.ref a__law_cells)
  a__law_is_symbol : Addr
  d__law_is_symbol : FuncData
  F__law_is_symbol : Fun K "_law_is_symbol" "_law_is_symbol" s__law_is_symbol a__law_is_symbol d__law_is_symbol
  b__law_is_symbol : Binds K d__law_is_symbol ["cell"] []
  m__law_is_symbol : mg "_law_is_symbol" = some (.ref a__law_is_symbol)
  a__law_settled : Addr
  d__law_settled : FuncData
  F__law_settled : Fun K "_law_settled" "_law_settled" s__law_settled a__law_settled d__law_settled
  b__law_settled : Binds K d__law_settled ["cells", "at", "symbols", "others"] []
  m__law_settled : mg "_law_settled" = some (.ref a__law_settled)
  a__law_roots : Addr
  d__law_roots : FuncData
  F__law_roots : Fun K "_law_roots" "_law_roots" s__law_roots a__law_roots d__law_roots
  b__law_roots : Binds K d__law_roots ["stream", "cells"] []
  m__law_roots : mg "_law_roots" = some (.ref a__law_roots)
  a__law_reachable : Addr
  d__law_reachable : FuncData
  F__law_reachable : Fun K "_law_reachable" "_law_reachable" s__law_reachable a__law_reachable d__law_reachable
  b__law_reachable : Binds K d__law_reachable ["cells", "roots"] []
  m__law_reachable : mg "_law_reachable" = some (.ref a__law_reachable)
  a__law_moved : Addr
  d__law_moved : FuncData
  F__law_moved : Fun K "_law_moved" "_law_moved" s__law_moved a__law_moved d__law_moved
  b__law_moved : Binds K d__law_moved ["cell", "places"] []
  m__law_moved : mg "_law_moved" = some (.ref a__law_moved)
  a_law : Addr
  d_law : FuncData
  F_law : Fun K "law" "law" s_law a_law d_law
  b_law : Binds K d_law ["script"] []
  m_law : mg "law" = some (.ref a_law)
  n_abs : mg "abs" = none
  n_any : mg "any" = none
  n_bool : mg "bool" = none
  n_dict : mg "dict" = none
  n_enumerate : mg "enumerate" = none
  n_int : mg "int" = none
  n_isinstance : mg "isinstance" = none
  n_len : mg "len" = none
  n_list : mg "list" = none
  n_max : mg "max" = none
  n_range : mg "range" = none
  n_sorted : mg "sorted" = none
  n_tuple : mg "tuple" = none
section
variable {P : Program} {w : World} {K : PySem.W.Frag} {mg : Str → Option Value} {base : Heap}
/-! ### the drawn numbers -/
def Zs.next (z : Zs) : Zs := if z.cur = 0 ∧ z.pos < z.ns.length then { z with cur := if z.ns.getD z.pos.toNat 0 < 0 then -z.ns.getD z.pos.toNat 0 else z.ns.getD z.pos.toNat 0, pos := z.pos + 1 } else z
def Zs.fin (z : Zs) (n : Int) : Int × Zs := if z.cur = 0 then ((z.mix * 48271 + 11) % 2147483647 / 97 % n, { z with mix := (z.mix * 48271 + 11) % 2147483647 }) else (z.cur % n, { z with cur := z.cur / n })
def Zs.draw (z : Zs) (n : Int) : Int × Zs := Zs.fin (Zs.next z) n
def drawM : MZ := fun xs z => match xs with
  | [.im (.int n)] => if 0 < n ∧ n.natAbs.log2 < 9000 then .ok (.im (.int (Zs.draw z n).1)) (Zs.draw z n).2 else .no
  | _ => .no
theorem drawM_ne {xs : List Val} {z : Zs} (h : drawM xs z ≠ .no) : ∃ n, xs = [.im (.int n)] ∧ 0 < n ∧ n.natAbs.log2 < 9000 ∧ drawM xs z = .ok (.im (.int (Zs.draw z n).1)) (Zs.draw z n).2 := by
  unfold drawM at h ⊢
  split at h
  · rename_i n
    split at h
    · rename_i c; exact ⟨n, rfl, c.1, c.2, if_pos c⟩
    · exact absurd rfl h
  · exact absurd rfl h
theorem ok_draw {f : Addr} {fd : FuncData} (F : Fun K "_law_draw" "_law_draw" s__law_draw f fd) (ml : mg "len" = none) (ma : mg "abs" = none) (mi : mg "int" = none) :
    FnOk P w K mg base (L2.CX P w) 1 f fd ["stream", "many"] (spZ K mg drawM) := by
  have inv : ∀ {vs H Q E}, spZ K mg drawM vs H Q E → ∃ a z n, vs = [.ref a, .int n] ∧ Zr K (some a) z H ∧ 0 < n ∧ n.natAbs.log2 < 9000 ∧ ∀ H', SameX (some a) H H' → Zr K (some a) (Zs.draw z n).2 H' → Q (.int (Zs.draw z n).1) H' := by
    rintro vs H Q E ⟨a, ws, z, xs, rfl, hz, hv, hm⟩
    have ne : drawM xs z ≠ .no := by intro e; rw [e] at hm; exact hm
    obtain ⟨n, rfl, h1, h2, e⟩ := drawM_ne ne
    obtain ⟨v, rfl, hb⟩ := hv.one
    have := bor_int hb
    subst this
    rw [e] at hm
    exact ⟨a, z, n, rfl, hz, h1, h2, fun H' s hz' => hm _ H' [] s hz' (.im (.int _)) List.nodup_nil (fun _ z => by cases z)⟩
  refine F.okX sc__law_draw (fun vs H Q E h => ?_) (fun cdv A outer s H vs Q E hr h => ?_)
  · obtain ⟨a, z, n, rfl, _⟩ := inv h; rfl
  · obtain ⟨a, z, n, rfl, hz, hn, hn2, hQ⟩ := inv h
    obtain ⟨l, ha, hla, hl, z1, z2, z3, z4⟩ := hz a rfl
    -- what stands at a, at l
    have sx : ∀ (c p m : Int), SameX (some a) H (upd H a (.lst [.ref l, .int c, .int p, .int m])) := fun c p m => by
      refine ⟨fun b o nb e => ?_, fun b x r e hb => ?_⟩
      · rw [upd_ne (fun q => nb (by rw [q]))]; exact e
      · cases e
        rw [ha] at hb
        cases hb
        exact ⟨_, upd_same⟩
    have zr : ∀ (z' : Zs), z'.ns = z.ns → 0 ≤ z'.cur → 0 ≤ z'.pos → 0 ≤ z'.mix → z'.mix < 2147483647 → Zr K (some a) z' (upd H a (.lst [.ref l, .int z'.cur, .int z'.pos, .int z'.mix])) := fun z' e h1 h2 h3 h4 b eb => by
      cases eb
      exact ⟨l, upd_same, hla, by rw [upd_ne hla, hl, e], h1, h2, h3, h4⟩
    -- the second part, at any state
    have tail : ∃ t, PSs (cxOf (L2.CX P w) P w K mg base ["stream", "many", "value"] "_law_draw" (defScope s__law_draw) f cdv A outer s H E) ((defBody s__law_draw).drop 1) t ∧
        ∀ (z' : Zs) (H1 : Hp), z'.ns = z.ns → 0 ≤ z'.cur → 0 ≤ z'.pos → 0 ≤ z'.mix → z'.mix < 2147483647 → H1 = upd H a (.lst [.ref l, .int z'.cur, .int z'.pos, .int z'.mix]) →
        (∀ H', SameX (some a) H H' → Zr K (some a) (Zs.fin z' n).2 H' → Q (.int (Zs.fin z' n).1) H') → t { nx := fun _ H' => Q .non H', rt := Q } [some (.ref a), some (.int n), none] H1 := by
      refine ⟨_, pss_cons (ps_if (pt_cmpR op_eq (pe_ix ix_list (pv 0) pe_int (fun _ _ => rfl)) pe_int (nomark _))
            (pss_cons (ps_asg (pe_op op_mod (pe_callTy call_int1 rfl mi (by decide +kernel) (pa_cons (pe_op op_add (pe_op op_mul (pe_ix ix_list (pv 0) pe_int (fun _ _ => rfl)) pe_int) pe_int) pa_nil)) pe_int) (pg_sub (pv 0) pe_int set_list))
            (pss_one (ps_ret (pe_op op_mod (pe_callTy call_int1 rfl mi (by decide +kernel) (pa_cons (pe_op op_fdiv (pe_ix ix_list (pv 0) pe_int (fun _ _ => rfl)) pe_int) pa_nil)) (pv 1))))) pss_nil)
          (pss_cons (ps_set (i := 2) sc__law_draw.nd rfl (.inl rfl) (pe_op op_mod (pe_callTy call_int1 rfl mi (by decide +kernel) (pa_cons (pe_ix ix_list (pv 0) pe_int (fun _ _ => rfl)) pa_nil)) (pv 1)))
          (pss_cons (ps_asg (pe_op op_fdivW (pe_ix ix_list (pv 0) pe_int (fun _ _ => rfl)) (pv 1)) (pg_sub (pv 0) pe_int set_list))
          (pss_one (ps_ret (pv 2))))), fun z' H1 e1 e2 e3 e4 e5 eH hq => ?_⟩
      have h1 : H1 a = some (.lst [.ref l, .int z'.cur, .int z'.pos, .int z'.mix]) := by rw [eH]; exact upd_same
      refine ⟨_, rfl, a, _, 1, _, rfl, rfl, .of h1, rfl, rfl, _, rfl, ?_⟩
      unfold Zs.fin at hq
      by_cases c : z'.cur = 0
      · rw [if_pos c] at hq
        rw [decide_eq_true (by rw [c])]
        refine iteT ?_
        refine ⟨_, rfl, a, _, 3, _, rfl, rfl, .of h1, rfl, _, _, rfl, rfl, .inr (by decide), _, _, rfl, rfl, .inl ⟨_, rfl, _, _, rfl, rfl, (by show (0 : Int) < 2147483647; decide), ?_⟩⟩
        refine ⟨_, rfl, a, _, 3, 3, rfl, rfl, h1, rfl, ?_⟩
        refine ⟨_, rfl, a, _, 3, _, rfl, rfl, .of upd_same, rfl, _, _, rfl, rfl, ⟨by decide, by decide⟩, .inl ⟨_, rfl, _, rfl, _, _, rfl, rfl, hn, ?_⟩⟩
        have e : upd H1 a (.lst [.ref l, .int z'.cur, .int z'.pos, .int ((z'.mix * 48271 + 11) % 2147483647)]) = upd H a (.lst [.ref l, .int z'.cur, .int z'.pos, .int ((z'.mix * 48271 + 11) % 2147483647)]) := by rw [eH, upd_upd]
        show Q (.int ((z'.mix * 48271 + 11) % 2147483647 / 97 % n)) (upd H1 a (.lst [.ref l, .int z'.cur, .int z'.pos, .int ((z'.mix * 48271 + 11) % 2147483647)]))
        rw [e]
        exact hq _ (sx _ _ _) (zr { z' with mix := (z'.mix * 48271 + 11) % 2147483647 } e1 e2 e3 (by dsimp only; omega) (by dsimp only; omega))
      · rw [if_neg c] at hq
        rw [decide_eq_false (fun q => c (by injection q))]
        refine iteF ?_
        refine ⟨_, rfl, a, _, 1, _, rfl, rfl, .of h1, rfl, .inl ⟨_, rfl, _, rfl, _, _, rfl, rfl, hn, ?_⟩⟩
        refine ⟨_, rfl, a, _, 1, _, rfl, rfl, .of h1, rfl, _, rfl, _, _, rfl, rfl, ⟨hn, hn2⟩, ?_⟩
        refine ⟨_, rfl, a, _, 1, 1, rfl, rfl, h1, rfl, _, rfl, ?_⟩
        have e : upd H1 a (.lst [.ref l, .int (z'.cur / n), .int z'.pos, .int z'.mix]) = upd H a (.lst [.ref l, .int (z'.cur / n), .int z'.pos, .int z'.mix]) := by rw [eH, upd_upd]
        show Q (.int (z'.cur % n)) (upd H1 a (.lst [.ref l, .int (z'.cur / n), .int z'.pos, .int z'.mix]))
        rw [e]
        exact hq _ (sx _ _ _) (zr { z' with cur := z'.cur / n } e1 (Int.ediv_nonneg e2 (by omega)) e3 e4 e5)
    obtain ⟨t2, p2, f2⟩ := tail
    refine ⟨_, pss_cons (ps_if (PW.pt (pw_and (pt_cmpR op_eq (pe_ix ix_list (pv 0) pe_int (fun _ _ => rfl)) pe_int (nomark _)) (pw_and1 (pt_cmpR op_lt (pe_ix ix_list (pv 0) pe_int (fun _ _ => rfl)) (pe_callB call_len_seq rfl ml PySem.boot_len (pa_cons (pe_ix ix_list (pv 0) pe_int (fun _ _ => rfl)) pa_nil)) (nomark _)))))
            (pss_cons (ps_asg (pe_callB call_abs rfl ma (by decide +kernel) (pa_cons (pe_callTy call_int1 rfl mi (by decide +kernel) (pa_cons (pe_ix ix_list (pe_ix ix_list (pv 0) pe_int (fun _ _ => rfl)) (pe_ix ix_list (pv 0) pe_int (fun _ _ => rfl)) (fun _ _ => rfl)) pa_nil)) pa_nil)) (pg_sub (pv 0) pe_int set_list))
            (pss_one (ps_asg (pe_op op_add (pe_ix ix_list (pv 0) pe_int (fun _ _ => rfl)) pe_int) (pg_sub (pv 0) pe_int set_list)))) pss_nil) p2, ?_⟩
    have idH : H = upd H a (.lst [.ref l, .int z.cur, .int z.pos, .int z.mix]) := by
      funext b
      unfold upd
      split
      · rename_i c; rw [c]; exact ha
      · rfl
    have same : Zs.next z = z → t2 { nx := fun _ H' => Q .non H', rt := Q } [some (.ref a), some (.int n), none] H := fun e => f2 z H rfl z1 z2 z3 z4 idH (by unfold Zs.draw at hQ; rw [e] at hQ; exact hQ)
    refine ⟨_, rfl, a, _, 1, _, rfl, rfl, .of ha, rfl, rfl, _, rfl, ?_⟩
    by_cases c : z.cur = 0
    · rw [decide_eq_true (by rw [c])]
      refine iteT ?_
      refine ⟨_, rfl, a, _, 2, _, rfl, rfl, .of ha, rfl, _, rfl, a, _, 0, _, rfl, rfl, .of ha, rfl, l, _, rfl, .inl (.of hl), _, _, rfl, rfl, _, rfl, ?_⟩
      by_cases d : z.pos < z.ns.length
      · rw [decide_eq_true (by rw [List.length_map]; exact d)]
        refine iteT ?_
        have hp : z.pos.toNat < z.ns.length := by omega
        have ep : z.pos = ((z.pos.toNat : Nat) : Int) := by omega
        have ei : atI (z.ns.map V.int) z.pos = some (.int (z.ns.getD z.pos.toNat 0)) := by
          rw [ep]
          refine atI_nat ?_
          rw [List.getElem?_map, List.getD_eq_getElem?_getD, ← ep, List.getElem?_eq_getElem hp]
          rfl
        refine ⟨_, rfl, a, _, 0, _, rfl, rfl, .of ha, rfl, _, rfl, a, _, 2, _, rfl, rfl, .of ha, rfl, l, _, z.pos, _, rfl, rfl, .of hl, ei, .inl ⟨_, rfl, _, rfl, ?_⟩⟩
        refine ⟨_, rfl, a, _, 1, 1, rfl, rfl, ha, rfl, ?_⟩
        refine ⟨_, rfl, a, _, 2, _, rfl, rfl, .of upd_same, rfl, _, _, rfl, rfl, _, rfl, a, _, 2, 2, rfl, rfl, upd_same, rfl, ?_⟩
        rw [upd_upd]
        have en : Zs.next z = { z with cur := if z.ns.getD z.pos.toNat 0 < 0 then -z.ns.getD z.pos.toNat 0 else z.ns.getD z.pos.toNat 0, pos := z.pos + 1 } := if_pos ⟨c, d⟩
        refine f2 (Zs.next z) _ (by rw [en]) ?_ ?_ (by rw [en]; exact z3) (by rw [en]; exact z4) (by rw [en]; rfl) hQ
        · rw [en]; dsimp only; split <;> omega
        · rw [en]; dsimp only; omega
      · rw [decide_eq_false (by rw [List.length_map]; exact d)]
        exact iteF (same (if_neg fun q => d q.2))
    · rw [decide_eq_false (fun q => c (by injection q))]
      exact iteF (iteF (same (if_neg fun q => c q.1)))

theorem ok_stream {f : Addr} {fd : FuncData} (F : Fun K "_law_stream" "_law_stream" s__law_stream f fd) (ml : mg "list" = none) (mi : mg "int" = none) :
    FnOk P w K mg base (L2.CX P w) 1 f fd ["script"] (spStream K) := by
  refine F.okX sc__law_stream (fun vs H Q E h => ?_) (fun cdv A outer s H vs Q E hr h => ?_)
  · obtain ⟨a, ns, rfl, _⟩ := h; rfl
  · obtain ⟨a, ns, rfl, hS, h63, hQ⟩ := h
    refine ⟨_, pss_cons (ps_set (i := 1) sc__law_stream.nd rfl (.inl rfl) pe_int)
      (pss_cons (ps_for (passes_of rfl) rfl (pi_list (pv 0)) (pg_name (i := 2) sc__law_stream.nd rfl (.inl rfl))
        (pss_one (ps_set (i := 1) sc__law_stream.nd rfl (.inl rfl) (pe_op op_mod (pe_callTy call_int1 rfl mi (by decide +kernel) (pa_cons (pe_op op_add (pe_op op_add (pe_op op_mul (pv 1) pe_int) (pe_op op_mod (pe_callTy call_int1 rfl mi (by decide +kernel) (pa_cons (pv 2) pa_nil)) pe_int)) pe_int) pa_nil)) pe_int))))
      (pss_one (ps_ret (pe_lst (pa_cons (pe_callTy call_list_of rfl ml (by decide +kernel) (pa_cons (pv 0) pa_nil)) (pa_cons pe_int (pa_cons pe_int (pa_cons (pv 1) pa_nil)))))))), ?_⟩
    refine ⟨_, rfl, a, rfl, ⟨_, hS⟩, ?_⟩
    refine for_list (K := K) (xs := ns.map V.int) (fun i σ H' => H' = H ∧ ∃ m c, σ = [some (.ref a), some (.int m), c] ∧ 0 ≤ m ∧ m < 2147483647) ⟨rfl, 17, none, rfl, by omega, by omega⟩ (fun i σ H' _ h => by rw [h.1]; exact hS) (fun i x σ H' ex h => ?_) (fun σ H' h => ?_)
    · obtain ⟨rfl, m, c, rfl, h1, h2⟩ := h
      rw [List.getElem?_map] at ex
      cases en : ns[i]? with
      | none => rw [en] at ex; cases ex
      | some n =>
        rw [en] at ex
        cases ex
        refine ⟨_, rfl, _, _, rfl, rfl, .inr (by decide), _, rfl, .inl ⟨n, rfl, _, _, rfl, rfl, (by show (0 : Int) < 65521; decide), _, _, rfl, rfl, _, _, rfl, rfl, .inl ⟨_, rfl, _, _, rfl, rfl, (by show (0 : Int) < 2147483647; decide), rfl, _, some (.int n), rfl, ?_, ?_⟩⟩⟩
        · omega
        · omega
    · obtain ⟨rfl, m, c, rfl, h1, h2⟩ := h
      refine ⟨_, rfl, a, _, rfl, .inl hS, fun l nl => ?_⟩
      refine ⟨_, rfl, by show 4 ≤ sizeLine; decide, fun p np => ?_⟩
      have n1 : H' p = none := by
        by_cases c : p = l
        · rw [c] at np ⊢; rw [upd_same] at np; cases np
        · rw [upd_ne c] at np; exact np
      have pl : l ≠ p := fun c => by rw [← c, upd_same] at np; cases np
      refine hQ p ⟨ns, 0, 0, m⟩ _ (fun b o e => ?_) n1 fun b e => ?_
      · rw [upd_ne (ne_of_none e n1), upd_ne (ne_of_none e nl)]; exact e
      · cases e
        exact ⟨l, upd_same, pl, by rw [upd_ne pl, upd_same], Int.le_refl 0, Int.le_refl 0, h1, h2⟩

abbrev m__law_draw : MZ := drawM
theorem ok__law_draw (T : Tx K mg) : FnOk P w K mg base (L2.CX P w) 1 T.a__law_draw T.d__law_draw ["stream", "many"] (spZ K mg m__law_draw) := ok_draw T.F__law_draw T.n_len T.n_abs T.n_int
theorem ok__law_stream (T : Tx K mg) : FnOk P w K mg base (L2.CX P w) 1 T.a__law_stream T.d__law_stream ["script"] (spStream K) := ok_stream T.F__law_stream T.n_list T.n_int
def b_reachable_1 : MS := (sIf (tCp (oIn true) (eV 6) (eV 2)) (sSeq (sPut 2 (eV 6) (eC (.bl true)))
  (sApp 3 (eIx (eV 0) (eV 6)))) sNil)
def b_reachable_2 : MS := (sSeq (sPop 3 4)
  (sSeq (sIf (tOr' (tTru (eIsi .int (eV 4))) (tCp (oEq false) (eIx (eV 4) (eC (.int 0))) (eC (.str (Str.ofString "f"))))) sCt sNil)
  (sSeq (sSet 5 (eIm (eIx (eV 4) (eC (.int 1)))))
  (sSeq (sIf (tCp (oIn false) (eV 5) (eV 2)) sCt sNil)
  (sSeq (sPut 2 (eV 5) (eC (.bl true)))
  (sSeq (sIf (tCp (oEq false) (eIx (eV 4) (eC (.int 0))) (eC (.str (Str.ofString "ref")))) (sSeq (sApp 3 (eIx (eV 0) (eV 5)))
  sCt) sNil)
  (sRng rngT2 (aCons (eAdd (eV 5) (eC (.int 1))) (aCons (eAdd (eAdd (eV 5) (eC (.int 1))) (eIx (eIx (eV 0) (eV 5)) (eC (.int 2)))) aNil)) (gN 6) b_reachable_1)))))))
def t_reachable_3 : MT := (tTru (eV 3))
noncomputable def c_reachable : MS := (sSeq (sSet 2 eDk)
  (sSeq (sSet 3 (eList (aCons (eV 1) aNil)))
  (sSeq (sWh t_reachable_3 b_reachable_2)
  (sRet (eSorted (aCons (eV 2) aNil))))))
noncomputable def m_reachable : MF := runP 7 2 c_reachable
theorem ok_reachable (T : Tx K mg) : FnOk P w K mg base (L2.CX P w) 1 T.a_reachable T.d_reachable ["cells", "roots"] (spP K mg m_reachable) := fnP (k := 0) T.F_reachable sc_reachable c_reachable fun cdv A outer s H E hr => (ss_cons (se_set 2 sc_reachable.nd rfl (Or.inl rfl) fe_dk)
  (ss_cons (se_set 3 sc_reachable.nd rfl (Or.inl rfl) (fe_list rfl T.n_list (ra_cons (re_var 1) ra_nil)))
  (ss_cons (se_while (passes_of rfl) (rt_tru (re_var 3)) (ss_cons (se_pop 3 4 sc_reachable.nd rfl (Or.inl rfl))
  (ss_cons (se_if (rt_rw (rw_or (rt_tru (re_fe (fe_isi .int rfl T.n_isinstance rfl T.n_int (by decide +kernel) (re_var 4)))) (rw_or1 (rt_eq (hu64 hr) (re_ix (hu_of hr) (re_var 4) re_int) re_str)))) (ss_one se_continue) ss_nil)
  (ss_cons (se_set 5 sc_reachable.nd rfl (Or.inl rfl) (fe_re (re_ix (hu_of hr) (re_var 4) re_int)))
  (ss_cons (se_if (rt_in (hu65 hr) (re_var 5) (re_var 2)) (ss_one se_continue) ss_nil)
  (ss_cons (se_put 2 (hu_of hr) (re_var 5) re_bl)
  (ss_cons (se_if (rt_eq (hu64 hr) (re_ix (hu_of hr) (re_var 4) re_int) re_str) (ss_cons (se_app 3 (re_ix (hu_of hr) (re_var 0) (re_var 5)))
  (ss_one se_continue)) ss_nil)
  (ss_one (se_rng2 (passes_of rfl) rfl rfl T.n_range (ra_cons (re_fe (fe_add (re_var 5) re_int)) (ra_cons (re_fe (fe_add (re_fe (fe_add (re_var 5) re_int)) (re_ix (hu_of hr) (re_ix (hu_of hr) (re_var 0) (re_var 5)) re_int))) ra_nil)) (ge_name 6 sc_reachable.nd rfl (Or.inl rfl)) (ss_one (se_if (rt_nin (hu65 hr) (re_var 6) (re_var 2)) (ss_cons (se_put 2 (hu_of hr) (re_var 6) re_bl)
  (ss_one (se_app 3 (re_ix (hu_of hr) (re_var 0) (re_var 6))))) ss_nil)))))))))))
  (ss_one (se_ret (fe_sorted rfl rfl T.n_sorted (ra_cons (re_var 2) ra_nil)))))))
def c_moved : MS := (sSeq (sIf (tOr' (tTru (eIsi .int (eV 0))) (tCp (oEq false) (eIx (eV 0) (eC (.int 0))) (eC (.str (Str.ofString "f"))))) (sRetV 0) sNil)
  (sRet (eIm (eTup (aCons (eIx (eV 0) (eC (.int 0))) (aCons (eIx (eV 1) (eIx (eV 0) (eC (.int 1)))) aNil))))))
def m_moved : MF := runP 2 2 c_moved
theorem ok_moved (T : Tx K mg) : FnOk P w K mg base (L2.CX P w) 1 T.a_moved T.d_moved ["cell", "places"] (spP K mg m_moved) := fnP (k := 0) T.F_moved sc_moved c_moved fun cdv A outer s H E hr => (ss_cons (se_if (rt_rw (rw_or (rt_tru (re_fe (fe_isi .int rfl T.n_isinstance rfl T.n_int (by decide +kernel) (re_var 0)))) (rw_or1 (rt_eq (hu64 hr) (re_ix (hu_of hr) (re_var 0) re_int) re_str)))) (ss_one (se_retV 0)) ss_nil)
  (ss_one (se_ret (fe_re (re_tup (ra_cons (re_ix (hu_of hr) (re_var 0) re_int) (ra_cons (re_ix (hu_of hr) (re_var 1) (re_ix (hu_of hr) (re_var 0) re_int)) ra_nil)))))))
def e_slide_1 : ME := (eV 4)
def e_slide_2 : ME := (eCall m_moved (aCons (eIx (eV 0) (eV 5)) (aCons (eV 3) aNil)))
def e_slide_3 : ME := (eCall m_moved (aCons (eV 6) (aCons (eV 3) aNil)))
noncomputable def c_slide : MS := (sSeq (sSet 2 (eFz (eCall m_reachable (aCons (eV 0) (aCons (eV 1) aNil)))))
  (sSeq (sSet 3 (eDcE (eV 2) 4 5 tYs (eV 5) e_slide_1))
  (sRetT3 (eLc (eV 2) 5 tYs e_slide_2) (eLc (eV 1) 6 tYs e_slide_3) 3)))
noncomputable def m_slide : MF := runP 7 2 c_slide
theorem ok_slide (T : Tx K mg) : FnOk P w K mg base (L2.CX P w) 2 T.a_slide T.d_slide ["cells", "roots"] (spP K mg m_slide) := fnP (k := 1) T.F_slide sc_slide c_slide fun cdv A outer s H E hr => (ss_cons (se_set 2 sc_slide.nd rfl (Or.inl rfl) (fe_callFz (ok_reachable T) (hr.mono (by decide)) rfl T.m_reachable T.F_reachable.kp T.b_reachable (takes_of rfl rfl rfl rfl) (ra_cons (re_var 0) (ra_cons (re_var 1) ra_nil))))
  (ss_cons (se_set 3 sc_slide.nd rfl (Or.inr rfl) (fe_dcE (x := "new") (y := "old") 4 5 rfl sc_slide.nd rfl T.n_enumerate (re_var 2) (blkOk_by (own := [("new", 4), ("old", 5)]) (N := N_slide) (sc := defScope s_slide) (by decide +kernel)) (fun _ _ _ _ _ => pg_tup rfl (pgs_cons (pg_name (i := 4) sc_slide.nd rfl (Or.inl rfl)) (pgs_cons (pg_name (i := 5) sc_slide.nd rfl (Or.inl rfl)) pgs_nil))) (fun _ _ _ _ _ => rts_nil) (fun _ _ _ _ _ => (re_var 5)) (fun _ _ _ _ _ => (re_var 4))))
  (ss_one (se_retT3 3 (fe_lc (x := "old") 5 rfl sc_slide.nd (re_var 2) (blkOk_by (own := [("old", 5)]) (N := N_slide) (sc := defScope s_slide) (by decide +kernel)) (fun _ _ _ _ _ => pg_name (i := 5) sc_slide.nd rfl (Or.inl rfl)) (fun _ _ _ _ _ => rts_nil) (fun _ _ _ _ _ => (re_fe (fe_call (ok_moved T) (hr.mono (by decide)) rfl T.m_moved T.F_moved.kp T.b_moved takes0 (ra_cons (re_ix (hu_of hr) (re_var 0) (re_var 5)) (ra_cons (re_var 3) ra_nil)))))) (fe_lc (x := "root") 6 rfl sc_slide.nd (re_var 1) (blkOk_by (own := [("root", 6)]) (N := N_slide) (sc := defScope s_slide) (by decide +kernel)) (fun _ _ _ _ _ => pg_name (i := 6) sc_slide.nd rfl (Or.inl rfl)) (fun _ _ _ _ _ => rts_nil) (fun _ _ _ _ _ => (re_fe (fe_call (ok_moved T) (hr.mono (by decide)) rfl T.m_moved T.F_moved.kp T.b_moved takes0 (ra_cons (re_var 6) (ra_cons (re_var 3) ra_nil))))))))))
def c__law_argument : MS := (sSeq (sSet 1 (eCallZ 0 m__law_draw (aCons (eC (.int 6)) aNil)))
  (sSeq (sIf (tCp (oEq false) (eV 1) (eC (.int 0))) (sRet (eSub (eCallZ 0 m__law_draw (aCons (eC (.int 9)) aNil)) (eC (.int 4)))) sNil)
  (sSeq (sIf (tCp (oEq false) (eV 1) (eC (.int 1))) (sRet (eIm (eTup (aCons (eC (.str (Str.ofString "f"))) (aCons (eIx (eC (.str (Str.ofString "ab"))) (eCallZ 0 m__law_draw (aCons (eC (.int 2)) aNil))) (aCons (eC (.int 0)) aNil)))))) sNil)
  (sRet (eIm (eTup (aCons (eC (.str (Str.ofString "later"))) (aCons (eCallZ 0 m__law_draw (aCons (eC (.int 1000)) aNil)) aNil))))))))
def m__law_argument : MZ := runZ 2 1 c__law_argument
theorem ok__law_argument (T : Tx K mg) : FnOk P w K mg base (L2.CX P w) 2 T.a__law_argument T.d__law_argument ["stream"] (spZ K mg m__law_argument) := fnZ (k := 1) T.F__law_argument sc__law_argument c__law_argument fun so cdv A outer s H E hr => (ss_cons (se_set 1 sc__law_argument.nd rfl (Or.inl rfl) (fe_callZ 0 (ok__law_draw T) (hr.mono (by decide)) rfl T.m__law_draw T.F__law_draw.kp T.b__law_draw (takes_of rfl rfl rfl rfl) (ra_cons re_int ra_nil)))
  (ss_cons (se_if (rt_eq (hu64 hr) (re_var 1) re_int) (ss_one (se_ret (fe_sub (re_fe (fe_callZ 0 (ok__law_draw T) (hr.mono (by decide)) rfl T.m__law_draw T.F__law_draw.kp T.b__law_draw (takes_of rfl rfl rfl rfl) (ra_cons re_int ra_nil))) re_int))) ss_nil)
  (ss_cons (se_if (rt_eq (hu64 hr) (re_var 1) re_int) (ss_one (se_ret (fe_re (re_tup (ra_cons re_str (ra_cons (re_ix (hu_of hr) re_str (re_fe (fe_callZ 0 (ok__law_draw T) (hr.mono (by decide)) rfl T.m__law_draw T.F__law_draw.kp T.b__law_draw (takes_of rfl rfl rfl rfl) (ra_cons re_int ra_nil)))) (ra_cons re_int ra_nil))))))) ss_nil)
  (ss_one (se_ret (fe_re (re_tup (ra_cons re_str (ra_cons (re_fe (fe_callZ 0 (ok__law_draw T) (hr.mono (by decide)) rfl T.m__law_draw T.F__law_draw.kp T.b__law_draw (takes_of rfl rfl rfl rfl) (ra_cons re_int ra_nil))) ra_nil)))))))))
def c__law_is_symbol : MS := (sRet (eAn (eIsi .tuple (eV 0)) (eAn (eBin (oEq false) (eIx (eV 0) (eC (.int 0))) (eC (.str (Str.ofString "f")))) (eBin oGt (eIx (eV 0) (eC (.int 2))) (eC (.int 0))))))
def m__law_is_symbol : MF := runP 1 1 c__law_is_symbol
theorem ok__law_is_symbol (T : Tx K mg) : FnOk P w K mg base (L2.CX P w) 1 T.a__law_is_symbol T.d__law_is_symbol ["cell"] (spP K mg m__law_is_symbol) := fnP (k := 0) T.F__law_is_symbol sc__law_is_symbol c__law_is_symbol fun cdv A outer s H E hr => (ss_one (se_ret (fe_and (re_fe (fe_isi .tuple rfl T.n_isinstance rfl T.n_tuple (by decide +kernel) (re_var 0))) (fe_and (re_fe (fe_eq (hu64 hr) (re_ix (hu_of hr) (re_var 0) re_int) re_str)) (fe_one (fe_gt (re_ix (hu_of hr) (re_var 0) re_int) re_int))))))
def c__law_settled : MS := (sSeq (sSet 4 (eIm (eIx (eV 0) (eV 1))))
  (sSeq (sIf (tOr' (tNt (tTru (eIsi .tuple (eV 4)))) (tCp (oEq true) (eIx (eV 4) (eC (.int 0))) (eC (.str (Str.ofString "later"))))) (sRetV 4) sNil)
  (sSeq (sIf (tAn (tCp (oEq false) (eMod (eInt (aCons (eIx (eV 4) (eC (.int 1))) aNil)) (eC (.int 2))) (eC (.int 0))) (tTru (eV 2))) (sRet (eIm (eTup (aCons (eC (.str (Str.ofString "str"))) (aCons (eIx (eV 2) (eMod (eInt (aCons (eFdiv (eIx (eV 4) (eC (.int 1))) (eC (.int 2))) aNil)) (eLen (aCons (eV 2) aNil)))) aNil))))) sNil)
  (sRet (eIm (eTup (aCons (eC (.str (Str.ofString "ref"))) (aCons (eIx (eV 3) (eMod (eInt (aCons (eFdiv (eIx (eV 4) (eC (.int 1))) (eC (.int 2))) aNil)) (eLen (aCons (eV 3) aNil)))) aNil))))))))
def m__law_settled : MF := runP 5 4 c__law_settled
theorem ok__law_settled (T : Tx K mg) : FnOk P w K mg base (L2.CX P w) 1 T.a__law_settled T.d__law_settled ["cells", "at", "symbols", "others"] (spP K mg m__law_settled) := fnP (k := 0) T.F__law_settled sc__law_settled c__law_settled fun cdv A outer s H E hr => (ss_cons (se_set 4 sc__law_settled.nd rfl (Or.inl rfl) (fe_re (re_ix (hu_of hr) (re_var 0) (re_var 1))))
  (ss_cons (se_if (rt_rw (rw_or (rt_not (rt_tru (re_fe (fe_isi .tuple rfl T.n_isinstance rfl T.n_tuple (by decide +kernel) (re_var 4))))) (rw_or1 (rt_ne (hu64 hr) (re_ix (hu_of hr) (re_var 4) re_int) re_str)))) (ss_one (se_retV 4)) ss_nil)
  (ss_cons (se_if (rt_rw (rw_and (rt_eq (hu64 hr) (re_fe (fe_mod (re_fe (fe_int rfl T.n_int (ra_cons (re_ix (hu_of hr) (re_var 4) re_int) ra_nil))) re_int)) re_int) (rw_and1 (rt_tru (re_var 2))))) (ss_one (se_ret (fe_re (re_tup (ra_cons re_str (ra_cons (re_ix (hu_of hr) (re_var 2) (re_fe (fe_mod (re_fe (fe_int rfl T.n_int (ra_cons (re_fe (fe_fdiv (re_ix (hu_of hr) (re_var 4) re_int) re_int)) ra_nil))) (re_fe (fe_len rfl T.n_len (ra_cons (re_var 2) ra_nil)))))) ra_nil)))))) ss_nil)
  (ss_one (se_ret (fe_re (re_tup (ra_cons re_str (ra_cons (re_ix (hu_of hr) (re_var 3) (re_fe (fe_mod (re_fe (fe_int rfl T.n_int (ra_cons (re_fe (fe_fdiv (re_ix (hu_of hr) (re_var 4) re_int) re_int)) ra_nil))) (re_fe (fe_len rfl T.n_len (ra_cons (re_var 3) ra_nil)))))) ra_nil)))))))))
def b__law_cells_1 : MS := (sApp 2 (eCallZ 0 m__law_argument aNil))
def b__law_cells_2 : MS := (sSeq (sIf (tCp oGe (eLen (aCons (eV 2) aNil)) (eV 1)) sBk sNil)
  (sSeq (sSet 4 (eCallZ 0 m__law_draw (aCons (eC (.int 6)) aNil)))
  (sSeq (sSet 5 (eLen (aCons (eV 2) aNil)))
  (sIf (tCp (oEq false) (eV 4) (eC (.int 0))) (sApp 2 (eTup (aCons (eC (.str (Str.ofString "ref"))) (aCons (eV 5) aNil)))) (sIf (tCp (oEq false) (eV 4) (eC (.int 1))) (sApp 2 (eSub (eCallZ 0 m__law_draw (aCons (eC (.int 9)) aNil)) (eC (.int 4)))) (sIf (tCp (oEq false) (eV 4) (eC (.int 2))) (sApp 2 (eTup (aCons (eC (.str (Str.ofString "f"))) (aCons (eIx (eC (.str (Str.ofString "ab"))) (eCallZ 0 m__law_draw (aCons (eC (.int 2)) aNil))) (aCons (eC (.int 0)) aNil))))) (sIf (tCp (oEq false) (eV 4) (eC (.int 3))) (sApp 2 (eTup (aCons (eC (.str (Str.ofString "later"))) (aCons (eCallZ 0 m__law_draw (aCons (eC (.int 1000)) aNil)) aNil)))) (sSeq (sSet 6 (eAdd (eC (.int 1)) (eCallZ 0 m__law_draw (aCons (eIx (eLst (aCons (eC (.int 3)) (aCons (eC (.int 3)) (aCons (eC (.int 8)) aNil)))) (eCallZ 0 m__law_draw (aCons (eC (.int 3)) aNil))) aNil))))
  (sSeq (sApp 2 (eTup (aCons (eC (.str (Str.ofString "f"))) (aCons (eIx (eC (.str (Str.ofString "fgh"))) (eCallZ 0 m__law_draw (aCons (eC (.int 3)) aNil))) (aCons (eV 6) aNil)))))
  (sRng rngT1 (aCons (eV 6) aNil) (gN 7) b__law_cells_1))))))))))
def e__law_cells_3 : ME := (eV 5)
def e__law_cells_4 : ME := (eV 5)
def e__law_cells_5 : ME := (eCall m__law_settled (aCons (eV 2) (aCons (eV 5) (aCons (eV 8) (aCons (eV 9) aNil)))))
def c__law_cells : MS := (sSeq (sSet 2 (eLst aNil))
  (sSeq (sRng rngT1 (aCons (eC (.int 200)) aNil) (gN 3) b__law_cells_2)
  (sSeq (sSet 8 (eLcR rngT1 (aCons (eLen (aCons (eV 2) aNil)) aNil) 5 (tTru (eCall m__law_is_symbol (aCons (eIx (eV 2) (eV 5)) aNil))) e__law_cells_3))
  (sSeq (sSet 9 (eLcR rngT1 (aCons (eLen (aCons (eV 2) aNil)) aNil) 5 (tNt (tTru (eCall m__law_is_symbol (aCons (eIx (eV 2) (eV 5)) aNil)))) e__law_cells_4))
  (sRet (eLcR rngT1 (aCons (eLen (aCons (eV 2) aNil)) aNil) 5 tYs e__law_cells_5))))))
def m__law_cells : MZ := runZ 10 2 c__law_cells
theorem ok__law_cells (T : Tx K mg) : FnOk P w K mg base (L2.CX P w) 3 T.a__law_cells T.d__law_cells ["stream", "size"] (spZ K mg m__law_cells) := fnZ (k := 2) T.F__law_cells sc__law_cells c__law_cells fun so cdv A outer s H E hr => (ss_cons (se_set 2 sc__law_cells.nd rfl (Or.inr rfl) (fe_lst ra_nil))
  (ss_cons (se_rng1 (passes_of rfl) rfl rfl T.n_range (ra_cons re_int ra_nil) (ge_name 3 sc__law_cells.nd rfl (Or.inl rfl)) (ss_cons (se_if (rt_ge (re_fe (fe_len rfl T.n_len (ra_cons (re_var 2) ra_nil))) (re_var 1)) (ss_one se_break) ss_nil)
  (ss_cons (se_set 4 sc__law_cells.nd rfl (Or.inl rfl) (fe_callZ 0 (ok__law_draw T) (hr.mono (by decide)) rfl T.m__law_draw T.F__law_draw.kp T.b__law_draw (takes_of rfl rfl rfl rfl) (ra_cons re_int ra_nil)))
  (ss_cons (se_set 5 sc__law_cells.nd rfl (Or.inl rfl) (fe_len rfl T.n_len (ra_cons (re_var 2) ra_nil)))
  (ss_one (se_if (rt_eq (hu64 hr) (re_var 4) re_int) (ss_one (se_app 2 (re_tup (ra_cons re_str (ra_cons (re_var 5) ra_nil))))) (ss_one (se_if (rt_eq (hu64 hr) (re_var 4) re_int) (ss_one (se_app 2 (re_fe (fe_sub (re_fe (fe_callZ 0 (ok__law_draw T) (hr.mono (by decide)) rfl T.m__law_draw T.F__law_draw.kp T.b__law_draw (takes_of rfl rfl rfl rfl) (ra_cons re_int ra_nil))) re_int)))) (ss_one (se_if (rt_eq (hu64 hr) (re_var 4) re_int) (ss_one (se_app 2 (re_tup (ra_cons re_str (ra_cons (re_ix (hu_of hr) re_str (re_fe (fe_callZ 0 (ok__law_draw T) (hr.mono (by decide)) rfl T.m__law_draw T.F__law_draw.kp T.b__law_draw (takes_of rfl rfl rfl rfl) (ra_cons re_int ra_nil)))) (ra_cons re_int ra_nil)))))) (ss_one (se_if (rt_eq (hu64 hr) (re_var 4) re_int) (ss_one (se_app 2 (re_tup (ra_cons re_str (ra_cons (re_fe (fe_callZ 0 (ok__law_draw T) (hr.mono (by decide)) rfl T.m__law_draw T.F__law_draw.kp T.b__law_draw (takes_of rfl rfl rfl rfl) (ra_cons re_int ra_nil))) ra_nil))))) (ss_cons (se_set 6 sc__law_cells.nd rfl (Or.inl rfl) (fe_add re_int (re_fe (fe_callZ 0 (ok__law_draw T) (hr.mono (by decide)) rfl T.m__law_draw T.F__law_draw.kp T.b__law_draw (takes_of rfl rfl rfl rfl) (ra_cons (re_ix (hu_of hr) (re_fe (fe_lst (ra_cons re_int (ra_cons re_int (ra_cons re_int ra_nil))))) (re_fe (fe_callZ 0 (ok__law_draw T) (hr.mono (by decide)) rfl T.m__law_draw T.F__law_draw.kp T.b__law_draw (takes_of rfl rfl rfl rfl) (ra_cons re_int ra_nil)))) ra_nil)))))
  (ss_cons (se_app 2 (re_tup (ra_cons re_str (ra_cons (re_ix (hu_of hr) re_str (re_fe (fe_callZ 0 (ok__law_draw T) (hr.mono (by decide)) rfl T.m__law_draw T.F__law_draw.kp T.b__law_draw (takes_of rfl rfl rfl rfl) (ra_cons re_int ra_nil)))) (ra_cons (re_var 6) ra_nil)))))
  (ss_one (se_rng1 (passes_of rfl) rfl rfl T.n_range (ra_cons (re_var 6) ra_nil) (ge_name 7 sc__law_cells.nd rfl (Or.inl rfl)) (ss_one (se_app 2 (re_fe (fe_callZ 0 (ok__law_argument T) (hr.mono (by decide)) rfl T.m__law_argument T.F__law_argument.kp T.b__law_argument (takes_of rfl rfl rfl rfl) ra_nil))))))))))))))))))))
  (ss_cons (se_set 8 sc__law_cells.nd rfl (Or.inr rfl) (fe_lcR (x := "at") 5 rfl sc__law_cells.nd rfl T.n_range (ra_cons (re_fe (fe_len rfl T.n_len (ra_cons (re_var 2) ra_nil))) ra_nil) (blkOk_by (own := [("at", 5)]) (N := N__law_cells) (sc := defScope s__law_cells) (by decide +kernel)) (fun _ _ _ _ _ => pg_name (i := 5) sc__law_cells.nd rfl (Or.inl rfl)) (fun _ _ _ _ _ => (rts_one (rt_tru (re_fe (fe_call (ok__law_is_symbol T) (hr.mono (by decide)) rfl T.m__law_is_symbol T.F__law_is_symbol.kp T.b__law_is_symbol takes0 (ra_cons (re_ix (hu_of hr) (re_var 2) (re_var 5)) ra_nil)))))) (fun _ _ _ _ _ => (re_var 5))))
  (ss_cons (se_set 9 sc__law_cells.nd rfl (Or.inr rfl) (fe_lcR (x := "at") 5 rfl sc__law_cells.nd rfl T.n_range (ra_cons (re_fe (fe_len rfl T.n_len (ra_cons (re_var 2) ra_nil))) ra_nil) (blkOk_by (own := [("at", 5)]) (N := N__law_cells) (sc := defScope s__law_cells) (by decide +kernel)) (fun _ _ _ _ _ => pg_name (i := 5) sc__law_cells.nd rfl (Or.inl rfl)) (fun _ _ _ _ _ => (rts_one (rt_not (rt_tru (re_fe (fe_call (ok__law_is_symbol T) (hr.mono (by decide)) rfl T.m__law_is_symbol T.F__law_is_symbol.kp T.b__law_is_symbol takes0 (ra_cons (re_ix (hu_of hr) (re_var 2) (re_var 5)) ra_nil))))))) (fun _ _ _ _ _ => (re_var 5))))
  (ss_one (se_ret (fe_lcR (x := "at") 5 rfl sc__law_cells.nd rfl T.n_range (ra_cons (re_fe (fe_len rfl T.n_len (ra_cons (re_var 2) ra_nil))) ra_nil) (blkOk_by (own := [("at", 5)]) (N := N__law_cells) (sc := defScope s__law_cells) (by decide +kernel)) (fun _ _ _ _ _ => pg_name (i := 5) sc__law_cells.nd rfl (Or.inl rfl)) (fun _ _ _ _ _ => rts_nil) (fun _ _ _ _ _ => (re_fe (fe_call (ok__law_settled T) (hr.mono (by decide)) rfl T.m__law_settled T.F__law_settled.kp T.b__law_settled takes0 (ra_cons (re_var 2) (ra_cons (re_var 5) (ra_cons (re_var 8) (ra_cons (re_var 9) ra_nil))))))))))))))
def b__law_roots_1 : MS := (sSeq (sSet 4 (eCallZ 0 m__law_draw (aCons (eMax (aCons (eC (.int 1)) (aCons (eLen (aCons (eV 1) aNil)) aNil))) aNil)))
  (sIf (tCp (oEq false) (eCallZ 0 m__law_draw (aCons (eC (.int 6)) aNil)) (eC (.int 0))) (sApp 2 (eTup (aCons (eC (.str (Str.ofString "f"))) (aCons (eIx (eC (.str (Str.ofString "ab"))) (eCallZ 0 m__law_draw (aCons (eC (.int 2)) aNil))) (aCons (eC (.int 0)) aNil))))) (sIf (tAn (tCp oLt (eV 4) (eLen (aCons (eV 1) aNil))) (tTru (eCall m__law_is_symbol (aCons (eIx (eV 1) (eV 4)) aNil)))) (sApp 2 (eTup (aCons (eC (.str (Str.ofString "str"))) (aCons (eV 4) aNil)))) (sIf (tAn (tCp oLt (eV 4) (eLen (aCons (eV 1) aNil))) (tCp oGt (eCallZ 0 m__law_draw (aCons (eC (.int 4)) aNil)) (eC (.int 0)))) (sApp 2 (eTup (aCons (eC (.str (Str.ofString "ref"))) (aCons (eV 4) aNil)))) (sApp 2 (eCallZ 0 m__law_draw (aCons (eC (.int 9)) aNil)))))))
def c__law_roots : MS := (sSeq (sSet 2 (eLst aNil))
  (sSeq (sRng rngT1 (aCons (eCallZ 0 m__law_draw (aCons (eC (.int 6)) aNil)) aNil) (gN 3) b__law_roots_1)
  (sRetV 2)))
def m__law_roots : MZ := runZ 5 2 c__law_roots
theorem ok__law_roots (T : Tx K mg) : FnOk P w K mg base (L2.CX P w) 2 T.a__law_roots T.d__law_roots ["stream", "cells"] (spZ K mg m__law_roots) := fnZ (k := 1) T.F__law_roots sc__law_roots c__law_roots fun so cdv A outer s H E hr => (ss_cons (se_set 2 sc__law_roots.nd rfl (Or.inl rfl) (fe_lst ra_nil))
  (ss_cons (se_rng1 (passes_of rfl) rfl rfl T.n_range (ra_cons (re_fe (fe_callZ 0 (ok__law_draw T) (hr.mono (by decide)) rfl T.m__law_draw T.F__law_draw.kp T.b__law_draw (takes_of rfl rfl rfl rfl) (ra_cons re_int ra_nil))) ra_nil) (ge_name 3 sc__law_roots.nd rfl (Or.inl rfl)) (ss_cons (se_set 4 sc__law_roots.nd rfl (Or.inl rfl) (fe_callZ 0 (ok__law_draw T) (hr.mono (by decide)) rfl T.m__law_draw T.F__law_draw.kp T.b__law_draw (takes_of rfl rfl rfl rfl) (ra_cons (re_fe (fe_max rfl rfl T.n_max (ra_cons re_int (ra_cons (re_fe (fe_len rfl T.n_len (ra_cons (re_var 1) ra_nil))) ra_nil)))) ra_nil)))
  (ss_one (se_if (rt_eq (hu64 hr) (re_fe (fe_callZ 0 (ok__law_draw T) (hr.mono (by decide)) rfl T.m__law_draw T.F__law_draw.kp T.b__law_draw (takes_of rfl rfl rfl rfl) (ra_cons re_int ra_nil))) re_int) (ss_one (se_app 2 (re_tup (ra_cons re_str (ra_cons (re_ix (hu_of hr) re_str (re_fe (fe_callZ 0 (ok__law_draw T) (hr.mono (by decide)) rfl T.m__law_draw T.F__law_draw.kp T.b__law_draw (takes_of rfl rfl rfl rfl) (ra_cons re_int ra_nil)))) (ra_cons re_int ra_nil)))))) (ss_one (se_if (rt_rw (rw_and (rt_lt (hu64 hr) (re_var 4) (re_fe (fe_len rfl T.n_len (ra_cons (re_var 1) ra_nil)))) (rw_and1 (rt_tru (re_fe (fe_call (ok__law_is_symbol T) (hr.mono (by decide)) rfl T.m__law_is_symbol T.F__law_is_symbol.kp T.b__law_is_symbol (takes_of rfl rfl rfl rfl) (ra_cons (re_ix (hu_of hr) (re_var 1) (re_var 4)) ra_nil))))))) (ss_one (se_app 2 (re_tup (ra_cons re_str (ra_cons (re_var 4) ra_nil))))) (ss_one (se_if (rt_rw (rw_and (rt_lt (hu64 hr) (re_var 4) (re_fe (fe_len rfl T.n_len (ra_cons (re_var 1) ra_nil)))) (rw_and1 (rt_gt (re_fe (fe_callZ 0 (ok__law_draw T) (hr.mono (by decide)) rfl T.m__law_draw T.F__law_draw.kp T.b__law_draw (takes_of rfl rfl rfl rfl) (ra_cons re_int ra_nil))) re_int)))) (ss_one (se_app 2 (re_tup (ra_cons re_str (ra_cons (re_var 4) ra_nil))))) (ss_one (se_app 2 (re_fe (fe_callZ 0 (ok__law_draw T) (hr.mono (by decide)) rfl T.m__law_draw T.F__law_draw.kp T.b__law_draw (takes_of rfl rfl rfl rfl) (ra_cons re_int ra_nil)))))))))))))
  (ss_one (se_retV 2))))
def e__law_reachable_1 : ME := (eC (.bl false))
def b__law_reachable_2 : MS := (sIf (tNt (tTru (eIx (eV 3) (eAdd (eAdd (eV 6) (eC (.int 1))) (eV 7))))) (sApp 4 (eTup (aCons (eC (.str (Str.ofString "ref"))) (aCons (eAdd (eAdd (eV 6) (eC (.int 1))) (eV 7)) aNil)))) sNil)
def b__law_reachable_3 : MS := (sSeq (sIf (tNt (tTru (eV 4))) sBk sNil)
  (sSeq (sPop 4 2)
  (sSeq (sIf (tOr' (tNt (tTru (eIsi .tuple (eV 2)))) (tOr' (tCp (oEq false) (eIx (eV 2) (eC (.int 0))) (eC (.str (Str.ofString "f")))) (tTru (eIx (eV 3) (eIx (eV 2) (eC (.int 1))))))) sCt sNil)
  (sSeq (sSet 6 (eIm (eIx (eV 2) (eC (.int 1)))))
  (sSeq (sPut 3 (eV 6) (eC (.bl true)))
  (sIf (tCp (oEq false) (eIx (eV 2) (eC (.int 0))) (eC (.str (Str.ofString "ref")))) (sApp 4 (eIx (eV 0) (eV 6))) (sRng rngT1 (aCons (eIx (eIx (eV 0) (eV 6)) (eC (.int 2))) aNil) (gN 7) b__law_reachable_2)))))))
def e__law_reachable_4 : ME := (eV 6)
def c__law_reachable : MS := (sSeq (sSet 3 (eLc (eV 0) 2 tYs e__law_reachable_1))
  (sSeq (sSet 4 (eList (aCons (eV 1) aNil)))
  (sSeq (sRng rngT1 (aCons (eAdd (eMul (eC (.int 20)) (eLen (aCons (eV 0) aNil))) (eC (.int 20))) aNil) (gN 5) b__law_reachable_3)
  (sRet (eLcR rngT1 (aCons (eLen (aCons (eV 0) aNil)) aNil) 6 (tTru (eIx (eV 3) (eV 6))) e__law_reachable_4)))))
def m__law_reachable : MF := runP 8 2 c__law_reachable
theorem ok__law_reachable (T : Tx K mg) : FnOk P w K mg base (L2.CX P w) 1 T.a__law_reachable T.d__law_reachable ["cells", "roots"] (spP K mg m__law_reachable) := fnP (k := 0) T.F__law_reachable sc__law_reachable c__law_reachable fun cdv A outer s H E hr => (ss_cons (se_set 3 sc__law_reachable.nd rfl (Or.inr rfl) (fe_lc (x := "cell") 2 rfl sc__law_reachable.nd (re_var 0) (blkOk_by (own := [("cell", 2)]) (N := N__law_reachable) (sc := defScope s__law_reachable) (by decide +kernel)) (fun _ _ _ _ _ => pg_name (i := 2) sc__law_reachable.nd rfl (Or.inl rfl)) (fun _ _ _ _ _ => rts_nil) (fun _ _ _ _ _ => re_bl)))
  (ss_cons (se_set 4 sc__law_reachable.nd rfl (Or.inl rfl) (fe_list rfl T.n_list (ra_cons (re_var 1) ra_nil)))
  (ss_cons (se_rng1 (passes_of rfl) rfl rfl T.n_range (ra_cons (re_fe (fe_add (re_fe (fe_mul re_int (re_fe (fe_len rfl T.n_len (ra_cons (re_var 0) ra_nil))))) re_int)) ra_nil) (ge_name 5 sc__law_reachable.nd rfl (Or.inl rfl)) (ss_cons (se_if (rt_not (rt_tru (re_var 4))) (ss_one se_break) ss_nil)
  (ss_cons (se_pop 4 2 sc__law_reachable.nd rfl (Or.inl rfl))
  (ss_cons (se_if (rt_rw (rw_or (rt_not (rt_tru (re_fe (fe_isi .tuple rfl T.n_isinstance rfl T.n_tuple (by decide +kernel) (re_var 2))))) (rw_or (rt_eq (hu64 hr) (re_ix (hu_of hr) (re_var 2) re_int) re_str) (rw_or1 (rt_tru (re_ix (hu_of hr) (re_var 3) (re_ix (hu_of hr) (re_var 2) re_int))))))) (ss_one se_continue) ss_nil)
  (ss_cons (se_set 6 sc__law_reachable.nd rfl (Or.inl rfl) (fe_re (re_ix (hu_of hr) (re_var 2) re_int)))
  (ss_cons (se_put 3 (hu_of hr) (re_var 6) re_bl)
  (ss_one (se_if (rt_eq (hu64 hr) (re_ix (hu_of hr) (re_var 2) re_int) re_str) (ss_one (se_app 4 (re_ix (hu_of hr) (re_var 0) (re_var 6)))) (ss_one (se_rng1 (passes_of rfl) rfl rfl T.n_range (ra_cons (re_ix (hu_of hr) (re_ix (hu_of hr) (re_var 0) (re_var 6)) re_int) ra_nil) (ge_name 7 sc__law_reachable.nd rfl (Or.inl rfl)) (ss_one (se_if (rt_not (rt_tru (re_ix (hu_of hr) (re_var 3) (re_fe (fe_add (re_fe (fe_add (re_var 6) re_int)) (re_var 7)))))) (ss_one (se_app 4 (re_tup (ra_cons re_str (ra_cons (re_fe (fe_add (re_fe (fe_add (re_var 6) re_int)) (re_var 7))) ra_nil))))) ss_nil))))))))))))
  (ss_one (se_ret (fe_lcR (x := "at") 6 rfl sc__law_reachable.nd rfl T.n_range (ra_cons (re_fe (fe_len rfl T.n_len (ra_cons (re_var 0) ra_nil))) ra_nil) (blkOk_by (own := [("at", 6)]) (N := N__law_reachable) (sc := defScope s__law_reachable) (by decide +kernel)) (fun _ _ _ _ _ => pg_name (i := 6) sc__law_reachable.nd rfl (Or.inl rfl)) (fun _ _ _ _ _ => (rts_one (rt_tru (re_ix (hu_of hr) (re_var 3) (re_var 6))))) (fun _ _ _ _ _ => (re_var 6))))))))
def c__law_moved : MS := (sSeq (sIf (tOr' (tNt (tTru (eIsi .tuple (eV 0)))) (tCp (oEq false) (eIx (eV 0) (eC (.int 0))) (eC (.str (Str.ofString "f"))))) (sRetV 0) sNil)
  (sRet (eIm (eTup (aCons (eIx (eV 0) (eC (.int 0))) (aCons (eIx (eV 1) (eIx (eV 0) (eC (.int 1)))) aNil))))))
def m__law_moved : MF := runP 2 2 c__law_moved
theorem ok__law_moved (T : Tx K mg) : FnOk P w K mg base (L2.CX P w) 1 T.a__law_moved T.d__law_moved ["cell", "places"] (spP K mg m__law_moved) := fnP (k := 0) T.F__law_moved sc__law_moved c__law_moved fun cdv A outer s H E hr => (ss_cons (se_if (rt_rw (rw_or (rt_not (rt_tru (re_fe (fe_isi .tuple rfl T.n_isinstance rfl T.n_tuple (by decide +kernel) (re_var 0))))) (rw_or1 (rt_eq (hu64 hr) (re_ix (hu_of hr) (re_var 0) re_int) re_str)))) (ss_one (se_retV 0)) ss_nil)
  (ss_one (se_ret (fe_re (re_tup (ra_cons (re_ix (hu_of hr) (re_var 0) re_int) (ra_cons (re_ix (hu_of hr) (re_var 1) (re_ix (hu_of hr) (re_var 0) re_int)) ra_nil)))))))
def b_law_1 : MS := (sPut 8 (eIx (eV 7) (eV 9)) (eV 9))
def e_law_2 : ME := (eCall m__law_moved (aCons (eIx (eV 2) (eV 10)) (aCons (eV 8) aNil)))
def e_law_3 : ME := (eCall m__law_moved (aCons (eV 15) (aCons (eV 8) aNil)))
def e_law_4 : ME := (eIsi .bool (eV 9))
def b_law_5 : MS := (sPut 13 (eV 10) (eV 10))
def e_law_6 : ME := (eCall m__law_moved (aCons (eV 15) (aCons (eV 8) aNil)))
@[simp] noncomputable def r_law_7 : MS := (sSeq (sSet 14 (eLc (eV 3) 15 tYs e_law_6))
  (sRet (eAn (eBin (oEqI false) (eCall m_slide (aCons (eV 4) (aCons (eV 5) aNil))) (eTupB (aCons (eV 11) (aCons (eV 14) (aCons (eV 8) aNil))))) (eAn (eBin (oEq false) (eIx (eV 6) (eC (.int 0))) (eAdd (eV 11) (eLst (aCons (eC (.int 3)) aNil)))) (eBin (oEq false) (eIx (eV 6) (eC (.int 1))) (eAdd (eV 14) (eLst (aCons (eC (.int 3)) aNil))))))))
@[simp] noncomputable def r_law_8 : MS := (sSeq (sAppI 6 0 3)
  (sSeq (sAppI 6 1 3)
  (sSeq (sPutT 6 2 1 (eC (.int 3)))
  (sSeq (sIf (tOr' (tCp (oEq true) (eV 4) (eV 2)) (tCp (oEq true) (eV 5) (eV 3))) (sRet (eIm (eC (.bl false)))) sNil)
  r_law_7))))
@[simp] noncomputable def r_law_9 : MS := (sSeq (sIf (tCp (oEqI true) (eV 12) (eTupB (aCons (eIx (eV 6) (eC (.int 0))) (aCons (eIx (eV 6) (eC (.int 1))) (aCons (eV 13) aNil))))) (sRet (eIm (eC (.bl false)))) sNil)
  r_law_8)
@[simp] noncomputable def r_law_10 : MS := (sSeq (sSet 12 (eCall m_slide (aCons (eList (aCons (eIx (eV 6) (eC (.int 0))) aNil)) (aCons (eList (aCons (eIx (eV 6) (eC (.int 1))) aNil)) aNil))))
  (sSeq (sSet 13 eDk)
  (sSeq (sRng rngT1 (aCons (eLen (aCons (eV 7) aNil)) aNil) (gN 10) b_law_5)
  r_law_9)))
@[simp] noncomputable def r_law_11 : MS := (sSeq (sIf (tTru (eAny (aCons (eLc (eListVals (eIx (eV 6) (eC (.int 2)))) 9 tYs e_law_4) aNil))) (sRet (eIm (eC (.bl false)))) sNil)
  r_law_10)
@[simp] noncomputable def r_law_12 : MS := (sSeq (sSet 11 (eLc (eV 7) 10 tYs e_law_2))
  (sSeq (sIf (tOr' (tCp (oEq true) (eIx (eV 6) (eC (.int 0))) (eV 11)) (tCp (oEq true) (eIx (eV 6) (eC (.int 1))) (eLc (eV 3) 15 tYs e_law_3))) (sRet (eIm (eC (.bl false)))) sNil)
  r_law_11))
@[simp] noncomputable def r_law_13 : MS := (sSeq (sIf (tOr' (tNt (tTru (eIsi .dict (eIx (eV 6) (eC (.int 2)))))) (tCp (oEqI true) (eIx (eV 6) (eC (.int 2))) (eV 8))) (sRet (eIm (eC (.bl false)))) sNil)
  r_law_12)
@[simp] noncomputable def r_law_14 : MS := (sSeq (sSet 7 (eCall m__law_reachable (aCons (eV 2) (aCons (eV 3) aNil))))
  (sSeq (sSet 8 eDk)
  (sSeq (sRng rngT1 (aCons (eLen (aCons (eV 7) aNil)) aNil) (gN 9) b_law_1)
  r_law_13)))
noncomputable def c_law : MS := (sSeq (sSet 2 (eCallZ 1 m__law_cells (aCons (eCallZ 1 m__law_draw (aCons (eAdd (eC (.int 38)) (eMul (eC (.int 600)) (eInt (aCons (eBin (oEq false) (eCallZ 1 m__law_draw (aCons (eC (.int 16)) aNil)) (eC (.int 0))) aNil)))) aNil)) aNil)))
  (sSeq (sSet 3 (eCallZ 1 m__law_roots (aCons (eV 2) aNil)))
  (sSeq (sSet 4 (eList (aCons (eV 2) aNil)))
  (sSeq (sSet 5 (eList (aCons (eV 3) aNil)))
  (sSeq (sSet 6 (eCall m_slide (aCons (eV 4) (aCons (eV 5) aNil))))
  (sSeq (sIf (tOr' (tNt (tTru (eIsi .tuple (eV 6)))) (tOr' (tCp (oEq true) (eLen (aCons (eV 6) aNil)) (eC (.int 3))) (tOr' (tCp (oEq true) (eV 4) (eV 2)) (tCp (oEq true) (eV 5) (eV 3))))) (sRet (eIm (eC (.bl false)))) sNil)
  r_law_14))))))
theorem ok_law (T : Tx K mg) (hl : lawOk 16 c_law) : FnOk P w K mg base (L2.CX P w) 4 T.a_law T.d_law ["script"] (spLaw K) := fnLaw (k := 3) T.F_law sc_law c_law 14 rfl rfl (fun cdv A outer s H0 E hr => ⟨_, ps_set (i := 1) sc_law.nd rfl (Or.inl rfl) (pe_call (ok__law_stream T) (hr.mono (by decide)) rfl T.m__law_stream T.F__law_stream.kp T.b__law_stream .nil passL (pa_cons (pv 0) pa_nil)), fun a ns H D hS h63 q => ⟨_, rfl, a, ns, rfl, hS, h63, q⟩⟩) (fun so cdv A outer s H E hr => (ss_cons (se_set 2 sc_law.nd rfl (Or.inr rfl) (fe_callZ 1 (ok__law_cells T) (hr.mono (by decide)) rfl T.m__law_cells T.F__law_cells.kp T.b__law_cells (takes_of rfl rfl rfl rfl) (ra_cons (re_fe (fe_callZ 1 (ok__law_draw T) (hr.mono (by decide)) rfl T.m__law_draw T.F__law_draw.kp T.b__law_draw (takes_of rfl rfl rfl rfl) (ra_cons (re_fe (fe_add re_int (re_fe (fe_mul re_int (re_fe (fe_int rfl T.n_int (ra_cons (re_fe (fe_eq (hu64 hr) (re_fe (fe_callZ 1 (ok__law_draw T) (hr.mono (by decide)) rfl T.m__law_draw T.F__law_draw.kp T.b__law_draw (takes_of rfl rfl rfl rfl) (ra_cons re_int ra_nil))) re_int)) ra_nil))))))) ra_nil))) ra_nil)))
  (ss_cons (se_set 3 sc_law.nd rfl (Or.inl rfl) (fe_callZ 1 (ok__law_roots T) (hr.mono (by decide)) rfl T.m__law_roots T.F__law_roots.kp T.b__law_roots (takes_of rfl rfl rfl rfl) (ra_cons (re_var 2) ra_nil)))
  (ss_cons (se_set 4 sc_law.nd rfl (Or.inl rfl) (fe_list rfl T.n_list (ra_cons (re_var 2) ra_nil)))
  (ss_cons (se_set 5 sc_law.nd rfl (Or.inl rfl) (fe_list rfl T.n_list (ra_cons (re_var 3) ra_nil)))
  (ss_cons (se_set 6 sc_law.nd rfl (Or.inl rfl) (fe_call (ok_slide T) (hr.mono (by decide)) rfl T.m_slide T.F_slide.kp T.b_slide (takes_of rfl rfl rfl rfl) (ra_cons (re_var 4) (ra_cons (re_var 5) ra_nil))))
  (ss_cons (se_if (rt_rw (rw_or (rt_not (rt_tru (re_fe (fe_isi .tuple rfl T.n_isinstance rfl T.n_tuple (by decide +kernel) (re_var 6))))) (rw_or (rt_ne (hu64 hr) (re_fe (fe_len rfl T.n_len (ra_cons (re_var 6) ra_nil))) re_int) (rw_or (rt_ne (hu64 hr) (re_var 4) (re_var 2)) (rw_or1 (rt_ne (hu64 hr) (re_var 5) (re_var 3))))))) (ss_one (se_ret (fe_re re_bl))) ss_nil)
  (ss_cons (se_set 7 sc_law.nd rfl (Or.inl rfl) (fe_call (ok__law_reachable T) (hr.mono (by decide)) rfl T.m__law_reachable T.F__law_reachable.kp T.b__law_reachable (takes_of rfl rfl rfl rfl) (ra_cons (re_var 2) (ra_cons (re_var 3) ra_nil))))
  (ss_cons (se_set 8 sc_law.nd rfl (Or.inr rfl) fe_dk)
  (ss_cons (se_rng1 (passes_of rfl) rfl rfl T.n_range (ra_cons (re_fe (fe_len rfl T.n_len (ra_cons (re_var 7) ra_nil))) ra_nil) (ge_name 9 sc_law.nd rfl (Or.inl rfl)) (ss_one (se_put 8 (hu_of hr) (re_ix (hu_of hr) (re_var 7) (re_var 9)) (re_var 9))))
  (ss_cons (se_if (rt_rw (rw_or (rt_not (rt_tru (re_fe (fe_isi .dict rfl T.n_isinstance rfl T.n_dict (by decide +kernel) (re_ix (hu_of hr) (re_var 6) re_int))))) (rw_or1 (rt_neI (hu64 hr) (re_ix (hu_of hr) (re_var 6) re_int) (re_var 8))))) (ss_one (se_ret (fe_re re_bl))) ss_nil)
  (ss_cons (se_setLc (x := "at") 11 10 rfl sc_law.nd rfl rfl (sw_true rfl rfl rfl (by decide +kernel)) (re_var 7) (blkOk_by (own := [("at", 10)]) (N := N_law) (sc := defScope s_law) (by decide +kernel)) (fun _ _ _ _ _ => pg_name (i := 10) sc_law.nd rfl (Or.inl rfl)) (fun _ _ _ _ _ => rts_nil) (fun _ _ _ _ _ => (re_fe (fe_call (ok__law_moved T) (hr.mono (by decide)) rfl T.m__law_moved T.F__law_moved.kp T.b__law_moved takes0 (ra_cons (re_ix (hu_of hr) (re_var 2) (re_var 10)) (ra_cons (re_var 8) ra_nil))))))
  (ss_cons (se_if (rt_rw (rw_or (rt_ne (hu64 hr) (re_ix (hu_of hr) (re_var 6) re_int) (re_var 11)) (rw_or1 (rt_ne (hu64 hr) (re_ix (hu_of hr) (re_var 6) re_int) (re_fe (fe_lc (x := "root") 15 rfl sc_law.nd (re_var 3) (blkOk_by (own := [("root", 15)]) (N := N_law) (sc := defScope s_law) (by decide +kernel)) (fun _ _ _ _ _ => pg_name (i := 15) sc_law.nd rfl (Or.inl rfl)) (fun _ _ _ _ _ => rts_nil) (fun _ _ _ _ _ => (re_fe (fe_call (ok__law_moved T) (hr.mono (by decide)) rfl T.m__law_moved T.F__law_moved.kp T.b__law_moved takes0 (ra_cons (re_var 15) (ra_cons (re_var 8) ra_nil))))))))))) (ss_one (se_ret (fe_re re_bl))) ss_nil)
  (ss_cons (se_if (rt_tru (re_fe (fe_any rfl rfl T.n_any (ra_cons (re_fe (fe_lc (x := "new") 9 rfl sc_law.nd (re_fe (fe_listVals rfl rfl T.n_list (re_ix (hu_of hr) (re_var 6) re_int))) (blkOk_by (own := [("new", 9)]) (N := N_law) (sc := defScope s_law) (by decide +kernel)) (fun _ _ _ _ _ => pg_name (i := 9) sc_law.nd rfl (Or.inl rfl)) (fun _ _ _ _ _ => rts_nil) (fun _ _ _ _ _ => (re_fe (fe_isi .bool rfl T.n_isinstance rfl T.n_bool (by decide +kernel) (re_var 9)))))) ra_nil)))) (ss_one (se_ret (fe_re re_bl))) ss_nil)
  (ss_cons (se_set 12 sc_law.nd rfl (Or.inl rfl) (fe_call (ok_slide T) (hr.mono (by decide)) rfl T.m_slide T.F_slide.kp T.b_slide (takes_of rfl rfl rfl rfl) (ra_cons (re_fe (fe_list rfl T.n_list (ra_cons (re_ix (hu_of hr) (re_var 6) re_int) ra_nil))) (ra_cons (re_fe (fe_list rfl T.n_list (ra_cons (re_ix (hu_of hr) (re_var 6) re_int) ra_nil))) ra_nil))))
  (ss_cons (se_set 13 sc_law.nd rfl (Or.inl rfl) fe_dk)
  (ss_cons (se_rng1 (passes_of rfl) rfl rfl T.n_range (ra_cons (re_fe (fe_len rfl T.n_len (ra_cons (re_var 7) ra_nil))) ra_nil) (ge_name 10 sc_law.nd rfl (Or.inl rfl)) (ss_one (se_put 13 (hu_of hr) (re_var 10) (re_var 10))))
  (ss_cons (se_if (rt_neI (hu64 hr) (re_var 12) (re_tupB (ra_cons (re_ix (hu_of hr) (re_var 6) re_int) (ra_cons (re_ix (hu_of hr) (re_var 6) re_int) (ra_cons (re_var 13) ra_nil))))) (ss_one (se_ret (fe_re re_bl))) ss_nil)
  (ss_cons (se_appI 6 0 3 (hu_of hr))
  (ss_cons (se_appI 6 1 3 (hu_of hr))
  (ss_cons (se_putT 6 2 1 (hu_of hr) re_int)
  (ss_cons (se_if (rt_rw (rw_or (rt_ne (hu64 hr) (re_var 4) (re_var 2)) (rw_or1 (rt_ne (hu64 hr) (re_var 5) (re_var 3))))) (ss_one (se_ret (fe_re re_bl))) ss_nil)
  (ss_cons (se_setLc (x := "root") 14 15 rfl sc_law.nd rfl rfl (sw_true rfl rfl rfl (by decide +kernel)) (re_var 3) (blkOk_by (own := [("root", 15)]) (N := N_law) (sc := defScope s_law) (by decide +kernel)) (fun _ _ _ _ _ => pg_name (i := 15) sc_law.nd rfl (Or.inl rfl)) (fun _ _ _ _ _ => rts_nil) (fun _ _ _ _ _ => (re_fe (fe_call (ok__law_moved T) (hr.mono (by decide)) rfl T.m__law_moved T.F__law_moved.kp T.b__law_moved takes0 (ra_cons (re_var 15) (ra_cons (re_var 8) ra_nil))))))
  (ss_one (se_ret (fe_and (re_fe (fe_eqI (hu64 hr) (re_fe (fe_call (ok_slide T) (hr.mono (by decide)) rfl T.m_slide T.F_slide.kp T.b_slide (takes_of rfl rfl rfl rfl) (ra_cons (re_var 4) (ra_cons (re_var 5) ra_nil)))) (re_tupB (ra_cons (re_var 11) (ra_cons (re_var 14) (ra_cons (re_var 8) ra_nil)))))) (fe_and (re_fe (fe_eq (hu64 hr) (re_ix (hu_of hr) (re_var 6) re_int) (re_fe (fe_add (re_var 11) (re_fe (fe_lst (ra_cons re_int ra_nil))))))) (fe_one (fe_eq (hu64 hr) (re_ix (hu_of hr) (re_var 6) re_int) (re_fe (fe_add (re_var 14) (re_fe (fe_lst (ra_cons re_int ra_nil)))))))))))))))))))))))))))))))))) hl
end
end Law
namespace Law
open PySem PySem.Spec PyProof.Rows L2 MM
/-! ### drawn numbers -/
theorem draw_ok (z : Zs) (n : Int) (h : 0 < n) (hl : n.natAbs.log2 < 9000) : ∃ v z', drawM [.im (.int n)] z = .ok (.im (.int v)) z' ∧ 0 ≤ v ∧ v < n := by
  refine ⟨_, _, if_pos ⟨h, hl⟩, ?_⟩
  unfold Zs.draw Zs.fin
  split
  · exact ⟨Int.emod_nonneg _ (by omega), Int.emod_lt_of_pos _ h⟩
  · exact ⟨Int.emod_nonneg _ (by omega), Int.emod_lt_of_pos _ h⟩
theorem log_small {n : Int} (h0 : 0 < n) (h : n < 10 ^ 41) : n.natAbs.log2 < 9000 := by
  have h1 : n.natAbs < 2 ^ 140 := Nat.lt_of_lt_of_le (m := 10 ^ 41) (by omega) (by decide)
  have : n.natAbs.log2 < 140 := (Nat.log2_lt (by omega)).mpr h1
  omega
theorem draw_sm (z : Zs) (n : Int) (h : 0 < n) (hl : n < 10 ^ 41) : ∃ v z', m__law_draw [.im (.int n)] z = .ok (.im (.int v)) z' ∧ 0 ≤ v ∧ v < n := draw_ok z n h (log_small h hl)
abbrev S (s : String) : T := .str (Str.ofString s)
/-- a drawn item of a list -/
theorem pick_ok {ts : List T} {i : Int} (P : T → Prop) (h0 : 0 ≤ i) (h1 : i < ts.length) (h : ∀ t ∈ ts, P t) : ∃ t, atI ts i = some t ∧ P t := by
  obtain ⟨t, e, e2⟩ := atI_of h0 h1
  exact ⟨t, e, h t (List.mem_of_getElem? e2)⟩
end Law

namespace Law
open PySem PySem.Spec PyProof.Rows L2 MM
/-! ### dicts of ints and texts, key by key -/
theorem look_cons {p : Key × T} {kvs : List (Key × T)} {k : Key} : look (p :: kvs) k = if p.1 = k then some p.2 else look kvs k := by
  by_cases c : p.1 = k <;> simp [look, List.find?_cons, c]
theorem look_nil {k : Key} : look ([] : List (Key × T)) k = none := rfl
theorem look_append {k : Key} : ∀ {a b : List (Key × T)}, look (a ++ b) k = (look a k).or (look b k)
  | [], b => by simp [look_nil]
  | p :: a, b => by
    rw [List.cons_append, look_cons, look_cons, look_append]
    split <;> simp
theorem look_any {kvs : List (Key × T)} {k : Key} : (kvs.any fun kv => decide (kv.1 = k)) = (look kvs k).isSome := by
  induction kvs with
  | nil => rfl
  | cons p kvs ih =>
    rw [look_cons, List.any_cons, ih]
    by_cases c : p.1 = k <;> simp [c]
theorem putT_new {kvs : List (Key × T)} {k : Key} {u : T} (h : look kvs k = none) : putT kvs k u = kvs ++ [(k, u)] := by
  unfold putT
  rw [look_any, h]; rfl
theorem look_not {kvs : List (Key × T)} {k : Key} (h : look kvs k = none) : k ∉ kvs.map (·.1) := fun c => by
  obtain ⟨p, hp, e⟩ := List.mem_map.mp c
  have : (kvs.any fun kv => decide (kv.1 = k)) = true := List.any_eq_true.mpr ⟨p, hp, by simp [e]⟩
  rw [look_any, h] at this
  cases this
theorem not_look {kvs : List (Key × T)} {k : Key} (h : k ∉ kvs.map (·.1)) : look kvs k = none := by
  cases e : look kvs k with
  | none => rfl
  | some t =>
    unfold look at e
    obtain ⟨p, hp, _⟩ := Option.map_eq_some_iff.mp e
    have h2 := List.find?_some hp
    exact absurd (List.mem_map.mpr ⟨p, List.mem_of_find?_eq_some hp, by simpa using h2⟩) h
theorem look_mem {kvs : List (Key × T)} (nd : (kvs.map (·.1)).Nodup) {p : Key × T} (hp : p ∈ kvs) : look kvs p.1 = some p.2 := by
  induction kvs with
  | nil => cases hp
  | cons q kvs ih =>
    simp only [List.map_cons, List.nodup_cons] at nd
    rw [look_cons]
    rcases List.mem_cons.mp hp with rfl | hp
    · simp
    · rw [if_neg fun e => nd.1 (by rw [e]; exact List.mem_map_of_mem hp)]
      exact ih nd.2 hp
/-- things made key by key -/
def Keyed (h : Key × T → List (Key × T)) : Prop := ∀ p, ∀ q ∈ h p, q.1 = p.1
theorem look_other {h : Key × T → List (Key × T)} (hh : Keyed h) {fs : List (Key × T)} {k : Key} (n : k ∉ fs.map (·.1)) : look (fs.flatMap h) k = none := not_look fun c => by
  obtain ⟨q, hq, rfl⟩ := List.mem_map.mp c
  obtain ⟨p, hp, hq⟩ := List.mem_flatMap.mp hq
  exact n (by rw [hh p q hq]; exact List.mem_map_of_mem hp)
theorem look_flat {h : Key × T → List (Key × T)} (hh : Keyed h) : ∀ {fs : List (Key × T)}, (fs.map (·.1)).Nodup → ∀ k, look (fs.flatMap h) k = (look fs k).bind fun v => look (h (k, v)) k
  | [], _, k => rfl
  | p :: fs, nd, k => by
    simp only [List.map_cons, List.nodup_cons] at nd
    rw [List.flatMap_cons, look_append, look_cons, look_flat hh nd.2]
    by_cases c : p.1 = k
    · subst c
      rw [if_pos rfl, not_look nd.1]
      simp
    · rw [if_neg c]
      have : look (h p) k = none := not_look fun e => by
        obtain ⟨q, hq, e⟩ := List.mem_map.mp e
        exact c (by rw [← hh p q hq, e])
      rw [this]; simp
theorem flat_nd {h : Key × T → List (Key × T)} (hh : Keyed h) (h1 : ∀ p, (h p).length ≤ 1) : ∀ {fs : List (Key × T)}, (fs.map (·.1)).Nodup → ((fs.flatMap h).map (·.1)).Nodup
  | [], _ => by simp
  | p :: fs, nd => by
    simp only [List.map_cons, List.nodup_cons] at nd
    rw [List.flatMap_cons, List.map_append]
    refine List.nodup_append.mpr ⟨?_, flat_nd hh h1 nd.2, fun a ha b hb c => ?_⟩
    · have := h1 p
      match h p, this with
      | [], _ => simp
      | [q], _ => simp
    · subst c
      obtain ⟨q, hq, rfl⟩ := List.mem_map.mp ha
      obtain ⟨r, hr, e⟩ := List.mem_map.mp hb
      obtain ⟨p2, hp2, hr⟩ := List.mem_flatMap.mp hr
      exact nd.1 (by rw [← hh p q hq, ← e, hh p2 r hr]; exact List.mem_map_of_mem hp2)
theorem flat_len {h : Key × T → List (Key × T)} (h1 : ∀ p, (h p).length ≤ 1) : ∀ {fs : List (Key × T)}, (fs.flatMap h).length ≤ fs.length
  | [] => by simp
  | p :: fs => by
    have := h1 p
    have := flat_len h1 (fs := fs)
    rw [List.flatMap_cons, List.length_append, List.length_cons]; omega
/-- a for over a dict that puts what is new -/
theorem put_turns {g : MGt} {body : MS} {z : Zs} {h : Key × T → List (Key × T)} (hh : Keyed h) (F : List (Key × T) → Sv → List Sv) (hg : ∀ t acc x, g t (F acc x) = some (F acc (.o (.im t)))) : ∀ {fs : List (Key × T)} {acc : List (Key × T)} {x : Sv}, (fs.map (·.1)).Nodup → (∀ p ∈ fs, look acc p.1 = none) →
    (∀ p ∈ fs, ∀ acc, look acc p.1 = none → acc.length ≤ 1000 → body (F acc (.o (.im (kyT p.1)))) z = .nx (F (acc ++ h p) (.o (.im (kyT p.1)))) z) → (∀ p, (h p).length ≤ 1) → acc.length + fs.length ≤ 1000 →
    ∃ x', sTurns g body (fs.map fun p => kyT p.1) (F acc x) z = .nx (F (acc ++ fs.flatMap h) x') z
  | [], acc, x, _, _, _, _, _ => ⟨x, by simp⟩
  | p :: fs, acc, x, nd, na, st, h1, hl => by
    simp only [List.map_cons, List.nodup_cons] at nd
    simp only [List.length_cons] at hl
    have e1 := st p (by simp) acc (na p (by simp)) (by omega)
    have := h1 p
    obtain ⟨x', e2⟩ := put_turns hh F hg (fs := fs) (acc := acc ++ h p) (x := .o (.im (kyT p.1))) nd.2 (fun q hq => by
      rw [look_append, na q (by simp [hq])]
      have : look (h p) q.1 = none := not_look fun e => by
        obtain ⟨r, hr, e⟩ := List.mem_map.mp e
        exact nd.1 (by rw [← hh p r hr, e]; exact List.mem_map_of_mem hq)
      rw [this]; rfl) (fun q hq => st q (by simp [hq])) h1 (by rw [List.length_append]; omega)
    rw [List.append_assoc] at e2
    exact ⟨x', by simp only [List.map_cons, List.flatMap_cons, sTurns, hg, e1]; exact e2⟩
/-- .. a dict comprehension -/
theorem dc_flat {j : Nat} {c : MT} {mk mv : ME} {S0 : List Sv} (hj : j < S0.length) (z : Zs) {h : Key × T → List (Key × T)} (hh : Keyed h) : ∀ {fs acc : List (Key × T)}, (fs.map (·.1)).Nodup → (∀ p ∈ fs, look acc p.1 = none) →
    (∀ p ∈ fs, (h p = [] ∧ c (S0.set j (.o (.im (kyT p.1)))) z = .ok false z) ∨ (∃ v, h p = [(p.1, v)] ∧ c (S0.set j (.o (.im (kyT p.1)))) z = .ok true z ∧ mk (S0.set j (.o (.im (kyT p.1)))) z = .ok (.im (kyT p.1)) z ∧ mv (S0.set j (.o (.im (kyT p.1)))) z = .ok (.im v) z)) → acc.length + fs.length ≤ 1000 →
    dcT j c mk mv S0 (fs.map fun p => kyT p.1) acc z = .ok (.dk (acc ++ fs.flatMap h)) z
  | [], acc, _, _, _, _ => by simp [dcT]
  | p :: fs, acc, nd, na, st, hl => by
    simp only [List.map_cons, List.nodup_cons] at nd
    simp only [List.length_cons] at hl
    have ne : ∀ q ∈ fs, look (acc ++ h p) q.1 = none := fun q hq => by
      rw [look_append, na q (by simp [hq])]
      have : look (h p) q.1 = none := not_look fun e => by
        obtain ⟨r, hr, e⟩ := List.mem_map.mp e
        exact nd.1 (by rw [← hh p r hr, e]; exact List.mem_map_of_mem hq)
      rw [this]; rfl
    rw [List.map_cons, List.flatMap_cons]
    unfold dcT
    rw [if_pos hj]
    rcases st p (by simp) with ⟨e, e1⟩ | ⟨v, e, e1, e2, e3⟩
    · rw [e1]
      rw [e, List.append_nil] at ne
      rw [e, List.nil_append]
      exact dc_flat hj z hh nd.2 ne (fun q hq => st q (by simp [hq])) (by omega)
    · have ek : (kyT p.1).key? = some p.1 := by cases p.1 <;> rfl
      simp only [e1, e2, e3, ek, line_eq]
      rw [e] at ne
      rw [if_pos (by omega), putT_new (na p (by simp)), e, dc_flat hj z hh nd.2 ne (fun q hq => st q (by simp [hq])) (by rw [List.length_append, List.length_singleton]; omega), List.append_assoc]
end Law

namespace Law
open PySem PySem.Spec PyProof.Rows L2 MM
inductive Cl where
  | num (n : Int) | sym (s : Str) (a : Nat) | ref (i : Nat) | str (i : Nat) | later (d : Nat)
def tgt : Cl → Option Nat
  | .ref i => some i
  | .str i => some i
  | _ => none
def nonsym (c : Cl) : Prop := ∀ s a, c = .sym s a → a = 0
/-- a heap whose references are right -/
structure HeapOk (C : List Cl) : Prop where
  sy : ∀ (p : Nat) (s : Str) (a : Nat), C[p]? = some (Cl.sym s a) → ∀ k, 1 ≤ k → k ≤ a → ∃ c, C[p + k]? = some c ∧ nonsym c
  rf : ∀ (p i : Nat), C[p]? = some (Cl.ref i) → ∃ c, C[i]? = some c ∧ nonsym c
  st : ∀ (p i : Nat), C[p]? = some (Cl.str i) → ∃ s a, C[i]? = some (Cl.sym s a) ∧ 0 < a
  la : ∀ (p d : Nat), C[p]? ≠ some (Cl.later d)
/-- a cell outside whose reference is right -/
def WfC (C : List Cl) : Cl → Prop
  | .ref i => ∃ c, C[i]? = some c ∧ nonsym c
  | .str i => ∃ s a, C[i]? = some (Cl.sym s a) ∧ 0 < a
  | .later _ => False
  | _ => True
theorem HeapOk.wf {C : List Cl} (h : HeapOk C) {p : Nat} {c : Cl} (e : C[p]? = some c) : WfC C c := by
  cases c with
  | num n => trivial
  | sym s a => trivial
  | ref i => exact h.rf p i e
  | str i => exact h.st p i e
  | later d => exact absurd e (h.la p d)
def succ (C : List Cl) (i : Nat) : List Nat := match C[i]? with
  | some (Cl.sym _ a) => (List.range a).map fun k => i + 1 + k
  | some (Cl.ref j) => [j]
  | some (Cl.str j) => [j]
  | _ => []
inductive Rch (C : List Cl) (rs : List Cl) : Nat → Prop
  | root {c : Cl} {i : Nat} : c ∈ rs → tgt c = some i → Rch C rs i
  | go {i j : Nat} : Rch C rs i → j ∈ succ C i → Rch C rs j
section
variable {C rs : List Cl}
def Pnd (P : Nat → Prop) (W : List Cl) (D : List Nat) (j : Nat) : Prop := P j ∨ (∃ c ∈ W, tgt c = some j) ∨ j ∈ D
structure Inv (C rs : List Cl) (P : Nat → Prop) (W : List Cl) (D : List Nat) : Prop where
  s1 : ∀ i, P i → Rch C rs i
  s2 : ∀ c ∈ W, WfC C c ∧ ∀ i, tgt c = some i → Rch C rs i
  s3 : ∀ k ∈ D, Rch C rs k ∧ ∃ c, C[k]? = some c ∧ nonsym c
  c1 : ∀ i, P i → ∀ j ∈ succ C i, Pnd P W D j
  c2 : ∀ c ∈ rs, ∀ j, tgt c = some j → Pnd P W D j
theorem Inv.done {P : Nat → Prop} (h : Inv C rs P [] []) (i : Nat) : P i ↔ Rch C rs i := by
  have pn : ∀ {j}, Pnd P [] [] j → P j := fun {j} q => by
    rcases q with q | ⟨c, hc, _⟩ | q
    · exact q
    · simp at hc
    · simp at q
  refine ⟨h.s1 i, fun r => ?_⟩
  induction r with
  | root hc e => exact pn (h.c2 _ hc _ e)
  | go _ hj ih => exact pn (h.c1 _ ih _ hj)
theorem Inv.start (hw : ∀ c ∈ rs, WfC C c) : Inv C rs (fun _ => False) rs [] :=
  ⟨fun _ h => h.elim, fun c hc => ⟨hw c hc, fun i e => .root hc e⟩, by simp, fun _ h => h.elim, fun c hc j e => .inr (.inl ⟨c, hc, e⟩)⟩
theorem Inv.skip {P : Nat → Prop} {W : List Cl} {c : Cl} (h : Inv C rs P (W ++ [c]) []) (g : ∀ i, tgt c = some i → P i) : Inv C rs P W [] := by
  have pn : ∀ {j}, Pnd P (W ++ [c]) [] j → Pnd P W [] j := fun {j} q => by
    rcases q with q | ⟨d, hd, e⟩ | q
    · exact .inl q
    · rcases List.mem_append.mp hd with w | w
      · exact .inr (.inl ⟨d, w, e⟩)
      · simp at w; subst w; exact .inl (g j e)
    · simp at q
  exact ⟨h.s1, fun d hd => h.s2 d (by simp [hd]), by simp, fun i hi j hj => pn (h.c1 i hi j hj), fun d hd j e => pn (h.c2 d hd j e)⟩
/-- index i, whose successors are those of a cell x or the rest D -/
theorem Inv.mark {P : Nat → Prop} {W X : List Cl} {c : Cl} {D : List Nat} {i : Nat} (h : Inv C rs P (W ++ [c]) []) (e : tgt c = some i) (hX : ∀ x ∈ X, WfC C x ∧ ∀ k, tgt x = some k → k ∈ succ C i)
    (hD : ∀ k ∈ D, k ∈ succ C i ∧ ∃ c, C[k]? = some c ∧ nonsym c) (hs : ∀ j ∈ succ C i, (∃ x ∈ X, tgt x = some j) ∨ j ∈ D) : Inv C rs (fun k => P k ∨ k = i) (W ++ X) D := by
  have ri : Rch C rs i := (h.s2 c (by simp)).2 i e
  have pn : ∀ {j}, Pnd P (W ++ [c]) [] j → Pnd (fun k => P k ∨ k = i) (W ++ X) D j := fun {j} q => by
    rcases q with q | ⟨d, hd, e'⟩ | q
    · exact .inl (.inl q)
    · rcases List.mem_append.mp hd with w | w
      · exact .inr (.inl ⟨d, by simp [w], e'⟩)
      · simp at w; subst w
        rw [e] at e'; cases e'
        exact .inl (.inr rfl)
    · simp at q
  refine ⟨fun k hk => ?_, fun d hd => ?_, fun k hk => ⟨.go ri (hD k hk).1, (hD k hk).2⟩, fun k hk j hj => ?_, fun d hd j e => pn (h.c2 d hd j e)⟩
  · rcases hk with hk | rfl
    · exact h.s1 k hk
    · exact ri
  · rcases List.mem_append.mp hd with w | w
    · exact h.s2 d (by simp [w])
    · exact ⟨(hX d w).1, fun k ek => .go ri ((hX d w).2 k ek)⟩
  · rcases hk with hk | rfl
    · exact pn (h.c1 k hk j hj)
    · rcases hs j hj with ⟨x, hx, ex⟩ | hj
      · exact .inr (.inl ⟨x, by simp [hx], ex⟩)
      · exact .inr (.inr hj)
theorem succ_non {i : Nat} {c : Cl} (e : C[i]? = some c) (n : nonsym c) {j : Nat} : j ∈ succ C i ↔ tgt c = some j := by
  unfold succ
  rw [e]
  cases c with
  | num n => simp [tgt]
  | sym s a =>
    have := n s a rfl
    subst this
    simp [tgt]
  | ref i => simp [tgt, eq_comm]
  | str i => simp [tgt, eq_comm]
  | later d => simp [tgt]
theorem succ_sym {i : Nat} {s : Str} {a : Nat} (e : C[i]? = some (Cl.sym s a)) : succ C i = (List.range a).map fun k => i + 1 + k := by
  unfold succ
  rw [e]
/-- a reference that is met first -/
theorem Inv.ref (hC : HeapOk C) {P : Nat → Prop} {W : List Cl} {i : Nat} (h : Inv C rs P (W ++ [.ref i]) []) : ∃ c, C[i]? = some c ∧ Inv C rs (fun k => P k ∨ k = i) (W ++ [c]) [] := by
  obtain ⟨c, e, n⟩ := (h.s2 (.ref i) (by simp)).1
  refine ⟨c, e, h.mark rfl (fun x hx => ?_) (by simp) fun j hj => .inl ⟨c, by simp, (succ_non e n).mp hj⟩⟩
  simp at hx; subst hx
  exact ⟨hC.wf e, fun k ek => (succ_non e n).mpr ek⟩
theorem Inv.str (hC : HeapOk C) {P : Nat → Prop} {W : List Cl} {i : Nat} (h : Inv C rs P (W ++ [.str i]) []) : ∃ s a, C[i]? = some (Cl.sym s a) ∧ 0 < a ∧ Inv C rs (fun k => P k ∨ k = i) W ((List.range a).map fun k => i + 1 + k) := by
  obtain ⟨s, a, e, n⟩ := (h.s2 (.str i) (by simp)).1
  have := h.mark (X := []) (D := (List.range a).map fun k => i + 1 + k) rfl (by simp) (fun k hk => ⟨by rw [succ_sym e]; exact hk, ?_⟩) fun j hj => .inr (by rw [succ_sym e] at hj; exact hj)
  · rw [List.append_nil] at this
    exact ⟨s, a, e, n, this⟩
  · obtain ⟨m, hm, rfl⟩ := List.mem_map.mp hk
    rw [List.mem_range] at hm
    obtain ⟨c, ec, nc⟩ := hC.sy i s a e (m + 1) (by omega) (by omega)
    exact ⟨c, by rw [← ec]; congr 1; omega, nc⟩
theorem Inv.old {P : Nat → Prop} {W : List Cl} {k : Nat} {D : List Nat} (h : Inv C rs P W (k :: D)) (g : P k) : Inv C rs P W D := by
  have pn : ∀ {j}, Pnd P W (k :: D) j → Pnd P W D j := fun {j} q => by
    rcases q with q | q | q
    · exact .inl q
    · exact .inr (.inl q)
    · rcases List.mem_cons.mp q with rfl | q
      · exact .inl g
      · exact .inr (.inr q)
  exact ⟨h.s1, h.s2, fun m hm => h.s3 m (by simp [hm]), fun i hi j hj => pn (h.c1 i hi j hj), fun d hd j e => pn (h.c2 d hd j e)⟩
/-- an argument is marked and its cell waits -/
theorem Inv.arg (hC : HeapOk C) {P : Nat → Prop} {W : List Cl} {k : Nat} {D : List Nat} (h : Inv C rs P W (k :: D)) : ∃ c, C[k]? = some c ∧ Inv C rs (fun m => P m ∨ m = k) (W ++ [c]) D := by
  obtain ⟨rk, c, e, n⟩ := h.s3 k (by simp)
  have pn : ∀ {j}, Pnd P W (k :: D) j → Pnd (fun m => P m ∨ m = k) (W ++ [c]) D j := fun {j} q => by
    rcases q with q | ⟨d, hd, e'⟩ | q
    · exact .inl (.inl q)
    · exact .inr (.inl ⟨d, by simp [hd], e'⟩)
    · rcases List.mem_cons.mp q with rfl | q
      · exact .inl (.inr rfl)
      · exact .inr (.inr q)
  refine ⟨c, e, fun m hm => ?_, fun d hd => ?_, fun m hm => h.s3 m (by simp [hm]), fun m hm j hj => ?_, fun d hd j e => pn (h.c2 d hd j e)⟩
  · rcases hm with hm | rfl
    · exact h.s1 m hm
    · exact rk
  · rcases List.mem_append.mp hd with w | w
    · exact h.s2 d w
    · simp at w; subst w
      exact ⟨hC.wf e, fun i ei => .go rk ((succ_non e n).mpr ei)⟩
  · rcases hm with hm | rfl
    · exact pn (h.c1 m hm j hj)
    · exact .inr (.inl ⟨c, by simp, (succ_non e n).mp hj⟩)
/-- an argument waits as a reference -/
theorem Inv.argR {P : Nat → Prop} {W : List Cl} {k : Nat} {D : List Nat} (h : Inv C rs P W (k :: D)) : Inv C rs P (W ++ [.ref k]) D := by
  obtain ⟨rk, c, e, n⟩ := h.s3 k (by simp)
  have pn : ∀ {j}, Pnd P W (k :: D) j → Pnd P (W ++ [.ref k]) D j := fun {j} q => by
    rcases q with q | ⟨d, hd, e'⟩ | q
    · exact .inl q
    · exact .inr (.inl ⟨d, by simp [hd], e'⟩)
    · rcases List.mem_cons.mp q with rfl | q
      · exact .inr (.inl ⟨.ref j, by simp, rfl⟩)
      · exact .inr (.inr q)
  refine ⟨h.s1, fun d hd => ?_, fun m hm => h.s3 m (by simp [hm]), fun m hm j hj => pn (h.c1 m hm j hj), fun d hd j e => pn (h.c2 d hd j e)⟩
  rcases List.mem_append.mp hd with w | w
  · exact h.s2 d w
  · simp at w; subst w
    exact ⟨⟨c, e, n⟩, fun i ei => by cases ei; exact rk⟩
theorem Inv.congr {P P' : Nat → Prop} {W : List Cl} {D : List Nat} (h : Inv C rs P W D) (e : ∀ i, P i ↔ P' i) : Inv C rs P' W D := by
  have : P = P' := funext fun i => propext (e i)
  rw [← this]; exact h
/-- what is reached lies in the heap -/
theorem rch_lt (hC : HeapOk C) (hw : ∀ c ∈ rs, WfC C c) {i : Nat} (h : Rch C rs i) : i < C.length := by
  have lt : ∀ {j c}, C[j]? = some c → j < C.length := fun {j c} e => (List.getElem?_eq_some_iff.mp e).1
  cases h with
  | @root c i hc e =>
    have := hw c hc
    cases c with
    | ref j => cases e; obtain ⟨_, q, _⟩ := this; exact lt q
    | str j => cases e; obtain ⟨_, _, q, _⟩ := this; exact lt q
    | _ => cases e
  | @go k i _ hj =>
    unfold succ at hj
    split at hj
    · rename_i s a e
      obtain ⟨m, hm, rfl⟩ := List.mem_map.mp hj
      rw [List.mem_range] at hm
      obtain ⟨c, ec, _⟩ := hC.sy k s a e (m + 1) (by omega) (by omega)
      have := lt ec
      omega
    · rename_i j e
      simp at hj; subst hj
      obtain ⟨_, q, _⟩ := hC.rf k _ e; exact lt q
    · rename_i j e
      simp at hj; subst hj
      obtain ⟨_, _, q, _⟩ := hC.st k _ e; exact lt q
    · simp at hj
end
end Law

namespace Law
open PySem PySem.Spec PyProof.Rows L2 MM
def en : Cl → T
  | .num n => .int n
  | .sym s a => .tup [S "f", .str s, .int (a : Int)]
  | .ref i => .tup [S "ref", .int (i : Int)]
  | .str i => .tup [S "str", .int (i : Int)]
  | .later d => .tup [S "later", .int (d : Int)]
def md (M : List Nat) : List (Key × T) := M.map fun (i : Nat) => (Sum.inl (i : Int), T.bl true)
theorem md_look (M : List Nat) (i : Nat) : look (md M) (.inl (i : Int)) = if i ∈ M then some (.bl true) else none := by
  induction M with
  | nil => simp [md, look_nil]
  | cons k M ih =>
    have e : md (k :: M) = (Sum.inl (k : Int), T.bl true) :: md M := rfl
    rw [e, look_cons, ih]
    by_cases c : k = i
    · subst c; simp
    · have : ¬ (Sum.inl (k : Int) : Key) = .inl (i : Int) := fun h => c (by injection h with h; omega)
      rw [if_neg this]
      simp [show ¬ i = k from fun h => c h.symm]
theorem md_put {M : List Nat} {i : Nat} (h : i ∉ M) : putT (md M) (.inl (i : Int)) (.bl true) = md (M ++ [i]) := by
  rw [putT_new (by rw [md_look, if_neg h])]
  simp [md]
theorem atC {C : List Cl} {k : Nat} {c : Cl} (e : C[k]? = some c) : atI (C.map en) (k : Int) = some (en c) := by
  have hl := (List.getElem?_eq_some_iff.mp e).1
  obtain ⟨t, e1, e2⟩ := atI_of (xs := C.map en) (i := (k : Int)) (by omega) (by simp; omega)
  rw [e1, ← e2]
  simp [e]
theorem nod_len : ∀ {n : Nat} {M : List Nat}, M.Nodup → (∀ i ∈ M, i < n) → M.length ≤ n
  | 0, [], _, _ => Nat.le_refl _
  | 0, k :: M, _, h => absurd (h k (by simp)) (by omega)
  | n + 1, M, nd, h => by
    by_cases c : n ∈ M
    · have := nod_len (n := n) (M := M.erase n) (nd.erase n) fun i hi => by
        have := (nd.mem_erase_iff).mp hi
        have := h i this.2
        omega
      rw [List.length_erase_of_mem c] at this
      omega
    · have := nod_len (n := n) nd fun i hi => by
        have := h i hi
        have : i ≠ n := fun q => c (q ▸ hi)
        omega
      omega
section
variable {C rs : List Cl}
theorem mlen (hC : HeapOk C) (hw : ∀ c ∈ rs, WfC C c) {M : List Nat} {W : List Cl} {D : List Nat} (h : Inv C rs (· ∈ M) W D) (nd : M.Nodup) : M.length ≤ C.length := nod_len nd fun i hi => rch_lt hC hw (h.s1 i hi)
theorem inv_app {M : List Nat} {W : List Cl} {D : List Nat} {k : Nat} (h : Inv C rs (fun m => m ∈ M ∨ m = k) W D) : Inv C rs (· ∈ M ++ [k]) W D := h.congr fun i => by simp
theorem in_loop (hC : HeapOk C) (hw : ∀ c ∈ rs, WfC C c) (B x4 x5 : Sv) (z : Zs) (hn : C.length ≤ 5000) : ∀ (D : List Nat) (M : List Nat) (W : List Cl) (x6 : Sv), Inv C rs (· ∈ M) W D → M.Nodup → 2 * (C.length - M.length) + W.length ≤ 20000 →
    ∃ M' W' x6', sTurns (gN 6) b_reachable_1 (D.map fun (k : Nat) => T.int (k : Int)) [.b (.il (C.map en)), B, .o (.dk (md M)), .o (.il (W.map en)), x4, x5, x6] z = .nx [.b (.il (C.map en)), B, .o (.dk (md M')), .o (.il (W'.map en)), x4, x5, x6'] z ∧
      Inv C rs (· ∈ M') W' [] ∧ M'.Nodup ∧ 2 * (C.length - M'.length) + W'.length ≤ 2 * (C.length - M.length) + W.length
  | [], M, W, x6, h, nd, hl => ⟨M, W, x6, rfl, h, nd, Nat.le_refl _⟩
  | k :: D, M, W, x6, h, nd, hl => by
    have ml := mlen hC hw h nd
    have eg : gN 6 (.int (k : Int)) [.b (.il (C.map en)), B, .o (.dk (md M)), .o (.il (W.map en)), x4, x5, x6] = some [.b (.il (C.map en)), B, .o (.dk (md M)), .o (.il (W.map en)), x4, x5, .o (.im (.int (k : Int)))] := rfl
    have lk := md_look M k
    by_cases c : k ∈ M
    · rw [if_pos c] at lk
      obtain ⟨M', W', x6', e, r1, r2, r3⟩ := in_loop hC hw B x4 x5 z hn D M W (.o (.im (.int (k : Int)))) (h.old c) nd hl
      have e1 : b_reachable_1 [.b (.il (C.map en)), B, .o (.dk (md M)), .o (.il (W.map en)), x4, x5, .o (.im (.int (k : Int)))] z = .nx [.b (.il (C.map en)), B, .o (.dk (md M)), .o (.il (W.map en)), x4, x5, .o (.im (.int (k : Int)))] z := by
        simp [b_reachable_1, T.key?, lk]
      exact ⟨M', W', x6', by simp only [List.map_cons, sTurns, eg, e1, e], r1, r2, r3⟩
    · rw [if_neg c] at lk
      obtain ⟨d, ed, h2⟩ := h.arg hC
      have h3 := inv_app h2
      have nd3 : (M ++ [k]).Nodup := List.nodup_append.mpr ⟨nd, by simp, fun a ha b hb => by simp at hb; subst hb; exact fun q => c (q ▸ ha)⟩
      have ml3 := mlen hC hw h3 nd3
      simp at ml3
      obtain ⟨M', W', x6', e, r1, r2, r3⟩ := in_loop hC hw B x4 x5 z hn D (M ++ [k]) (W ++ [d]) (.o (.im (.int (k : Int)))) h3 nd3 (by simp; omega)
      have ac := atC ed
      have pm := md_put c
      have sm : (md M).length < 16777216 := by simp [md]; omega
      have e1 : b_reachable_1 [.b (.il (C.map en)), B, .o (.dk (md M)), .o (.il (W.map en)), x4, x5, .o (.im (.int (k : Int)))] z = .nx [.b (.il (C.map en)), B, .o (.dk (md (M ++ [k]))), .o (.il ((W ++ [d]).map en)), x4, x5, .o (.im (.int (k : Int)))] z := by
        simp [b_reachable_1, T.key?, lk, pm, ac, sm, show W.length < 16777216 by omega]
      exact ⟨M', W', x6', by simp only [List.map_cons, sTurns, eg, e1, e], r1, r2, by simp at r3; omega⟩
theorem rng_map (i a : Nat) : rngI ((i : Int) + 1) a = ((List.range a).map fun k => i + 1 + k).map fun (k : Nat) => T.int (k : Int) := by
  unfold rngI
  rw [List.map_map]
  refine List.map_congr_left fun k _ => ?_
  simp
theorem reach_ok (hC : HeapOk C) (hw : ∀ c ∈ rs, WfC C c) (hn : C.length ≤ 5000) (hr : rs.length ≤ 100) : ∃ M : List Nat, m_reachable [.il (C.map en), .il (rs.map en)] = .ok (.il ((sortI (M.map fun (i : Nat) => (i : Int))).map .int)) z0 ∧ M.Nodup ∧ ∀ i, i ∈ M ↔ Rch C rs i := by
  obtain ⟨S', z', e, M, x4, x5, x6, rfl, rfl, nd, hm⟩ := wh_ind (c := t_reachable_3) (b := b_reachable_2)
    (fun n S z => z = z0 ∧ ∃ (M : List Nat) (W : List Cl) (x4 x5 x6 : Sv), S = [.b (.il (C.map en)), .b (.il (rs.map en)), .o (.dk (md M)), .o (.il (W.map en)), x4, x5, x6] ∧ Inv C rs (· ∈ M) W [] ∧ M.Nodup ∧ 2 * (C.length - M.length) + W.length ≤ n ∧ n ≤ 20000)
    (fun S z => ∃ (M : List Nat) (x4 x5 x6 : Sv), z = z0 ∧ S = [.b (.il (C.map en)), .b (.il (rs.map en)), .o (.dk (md M)), .o (.il []), x4, x5, x6] ∧ M.Nodup ∧ ∀ i, i ∈ M ↔ Rch C rs i)
    (fun n S z hp => by
      obtain ⟨ez, M, W, x4, x5, x6, eS, h, nd, hl, hn2⟩ := hp
      subst ez eS
      have ml := mlen hC hw h nd
      rcases List.eq_nil_or_concat W with rfl | ⟨W, c, rfl⟩
      · exact .inl ⟨z0, by simp [t_reachable_3], M, x4, x5, x6, rfl, rfl, nd, h.done⟩
      · rw [List.concat_eq_append] at *
        refine .inr ⟨z0, by simp [t_reachable_3], ?_⟩
        simp at hl
        have skip : (∀ i, tgt c = some i → i ∈ M) → ∀ x5', (∃ S2 z2, (b_reachable_2 [.b (.il (C.map en)), .b (.il (rs.map en)), .o (.dk (md M)), .o (.il ((W ++ [c]).map en)), x4, x5, x6] z0 = .nx S2 z2 ∨ b_reachable_2 [.b (.il (C.map en)), .b (.il (rs.map en)), .o (.dk (md M)), .o (.il ((W ++ [c]).map en)), x4, x5, x6] z0 = .ct S2 z2) ∧ S2 = [.b (.il (C.map en)), .b (.il (rs.map en)), .o (.dk (md M)), .o (.il (W.map en)), .o (.im (en c)), x5', x6] ∧ z2 = z0) →
            ∃ S2 z2, (b_reachable_2 [.b (.il (C.map en)), .b (.il (rs.map en)), .o (.dk (md M)), .o (.il ((W ++ [c]).map en)), x4, x5, x6] z0 = .nx S2 z2 ∨ b_reachable_2 [.b (.il (C.map en)), .b (.il (rs.map en)), .o (.dk (md M)), .o (.il ((W ++ [c]).map en)), x4, x5, x6] z0 = .ct S2 z2) ∧ ∃ m, m < n ∧ z2 = z0 ∧ ∃ (M : List Nat) (W : List Cl) (x4 x5 x6 : Sv), S2 = [.b (.il (C.map en)), .b (.il (rs.map en)), .o (.dk (md M)), .o (.il (W.map en)), x4, x5, x6] ∧ Inv C rs (· ∈ M) W [] ∧ M.Nodup ∧ 2 * (C.length - M.length) + W.length ≤ m ∧ m ≤ 20000 := fun g x5' ⟨S2, z2, e, eS, ez⟩ =>
          ⟨S2, z2, e, n - 1, by omega, ez, M, W, _, _, _, eS, h.skip g, nd, by omega, by omega⟩
        have wf := (h.s2 c (by simp)).1
        cases c with
        | num v => exact skip (fun i e => by cases e) x5 ⟨_, _, .inr (by simp [b_reachable_2, en]), rfl, rfl⟩
        | sym s a => exact skip (fun i e => by cases e) x5 ⟨_, _, .inr (by simp [b_reachable_2, en]), rfl, rfl⟩
        | later d => exact wf.elim
        | ref i =>
          have lk := md_look M i
          by_cases ci : i ∈ M
          · rw [if_pos ci] at lk
            exact skip (fun j e => by cases e; exact ci) (.o (.im (.int (i : Int)))) ⟨_, _, .inr (by simp [b_reachable_2, en, T.key?, lk]), rfl, rfl⟩
          · rw [if_neg ci] at lk
            obtain ⟨d, ed, h2⟩ := h.ref hC
            have h3 := inv_app h2
            have nd3 : (M ++ [i]).Nodup := List.nodup_append.mpr ⟨nd, by simp, fun a ha b hb => by simp at hb; subst hb; exact fun q => ci (q ▸ ha)⟩
            have ml3 := mlen hC hw h3 nd3
            simp at ml3
            have ac := atC ed
            have pm := md_put ci
            have sm : (md M).length < 16777216 := by simp [md]; omega
            refine ⟨[.b (.il (C.map en)), .b (.il (rs.map en)), .o (.dk (md (M ++ [i]))), .o (.il ((W ++ [d]).map en)), .o (.im (en (.ref i))), .o (.im (.int (i : Int))), x6], z0, .inr ?_, n - 1, by omega, rfl, M ++ [i], W ++ [d], _, _, _, rfl, h3, nd3, by simp; omega, by omega⟩
            simp [b_reachable_2, en, T.key?, lk, pm, ac, sm, show W.length < 16777216 by omega]
        | str i =>
          have lk := md_look M i
          by_cases ci : i ∈ M
          · rw [if_pos ci] at lk
            exact skip (fun j e => by cases e; exact ci) (.o (.im (.int (i : Int)))) ⟨_, _, .inr (by simp [b_reachable_2, en, T.key?, lk]), rfl, rfl⟩
          · rw [if_neg ci] at lk
            obtain ⟨s, a, ed, ha, h2⟩ := h.str hC
            have h3 := inv_app h2
            have nd3 : (M ++ [i]).Nodup := List.nodup_append.mpr ⟨nd, by simp, fun a ha b hb => by simp at hb; subst hb; exact fun q => ci (q ▸ ha)⟩
            have ml3 := mlen hC hw h3 nd3
            simp at ml3
            have ac := atC ed
            have il : i + a < C.length := by
              obtain ⟨c, ec, _⟩ := hC.sy i s a ed a (by omega) (Nat.le_refl _)
              exact (List.getElem?_eq_some_iff.mp ec).1
            have pm := md_put ci
            have sm : (md M).length < 16777216 := by simp [md]; omega
            obtain ⟨M', W', x6', e, r1, r2, r3⟩ := in_loop hC hw (.b (.il (rs.map en))) (.o (.im (en (.str i)))) (.o (.im (.int (i : Int)))) z0 hn _ (M ++ [i]) W x6 h3 nd3 (by simp; omega)
            rw [← rng_map] at e
            refine ⟨[.b (.il (C.map en)), .b (.il (rs.map en)), .o (.dk (md M')), .o (.il (W'.map en)), .o (.im (en (.str i))), .o (.im (.int (i : Int))), x6'], z0, .inl ?_, n - 1, by omega, rfl, M', W', _, _, _, rfl, r1, r2, by simp at r3; omega, by omega⟩
            · simp [b_reachable_2, en, T.key?, lk, pm, ac, sm, MM.inR_of (i := (i : Int) + 1) (by omega) (by omega), MM.inR_of (i := (i : Int) + 1 + a) (by omega) (by omega), show ((i : Int) + 1 + a - (i + 1)).toNat = a by omega, -sTurns]
              simpa [en] using e) (2 * C.length + rs.length) [.b (.il (C.map en)), .b (.il (rs.map en)), .o (.dk (md [])), .o (.il (rs.map en)), .un, .un, .un] z0
    ⟨rfl, [], rs, _, _, _, rfl, (Inv.start hw).congr fun i => by simp, by simp, by simp, by omega⟩
  refine ⟨M, ?_, nd, hm⟩
  have ml : M.length ≤ C.length := nod_len nd fun i hi => rch_lt hC hw ((hm i).mp hi)
  have ik : intKs? (md M) = some (M.map fun (i : Nat) => (i : Int)) := by
    clear e nd hm ml
    induction M with
    | nil => rfl
    | cons k M ih =>
      have e : md (k :: M) = (Sum.inl (k : Int), T.bl true) :: md M := rfl
      rw [e]
      simp [intKs?, ih]
  have e' : sWh t_reachable_3 b_reachable_2 [.b (.il (C.map en)), .b (.il (rs.map en)), .o (.dk []), .o (.il (rs.map en)), .un, .un, .un] z0 = .nx [.b (.il (C.map en)), .b (.il (rs.map en)), .o (.dk (md M)), .o (.il []), x4, x5, x6] z0 := e
  simp [m_reachable, runP, c_reachable, e', ik, show M.length ≤ 16777216 by omega]
end
end Law

namespace Law
open PySem PySem.Spec PyProof.Rows L2 MM
section
variable {C rs : List Cl}
abbrev Fp (F : List Bool) : Nat → Prop := fun i => F[i]? = some true
theorem atF {F : List Bool} {k : Nat} {b : Bool} (e : F[k]? = some b) : atI (F.map T.bl) (k : Int) = some (.bl b) := by
  have hl := (List.getElem?_eq_some_iff.mp e).1
  obtain ⟨t, e1, e2⟩ := atI_of (xs := F.map T.bl) (i := (k : Int)) (by omega) (by simp; omega)
  rw [e1, ← e2]
  simp [e]
theorem ix_of {n i : Nat} (h : i < n) : ixN n (i : Int) = some i := by
  unfold ixN
  rw [if_pos (by omega), if_pos (by omega)]
  simp
theorem fp_set {F : List Bool} {i : Nat} (h : i < F.length) (j : Nat) : (Fp F j ∨ j = i) ↔ Fp (F.set i true) j := by
  unfold Fp
  rw [List.getElem?_set]
  by_cases c : i = j
  · subst c
    simp [h]
  · rw [if_neg c]
    constructor
    · rintro (q | q)
      · exact q
      · exact absurd q.symm c
    · exact .inl
theorem arg_loop (A B x2 x5 : Sv) (z : Zs) (F : List Bool) (hF : F.length = C.length) (hn : C.length ≤ 5000) (i : Nat) (hlt : ∀ k, Rch C rs k → k < C.length) : ∀ (D : List Nat) (W : List Cl) (x7 : Sv), Inv C rs (Fp F) W (D.map fun k => i + 1 + k) → W.length + D.length ≤ 100000 →
    ∃ W' x7', sTurns (gN 7) b__law_reachable_2 (D.map fun (k : Nat) => T.int (k : Int)) [A, B, x2, .o (.il (F.map T.bl)), .o (.il (W.map en)), x5, .o (.im (.int (i : Int))), x7] z = .nx [A, B, x2, .o (.il (F.map T.bl)), .o (.il (W'.map en)), x5, .o (.im (.int (i : Int))), x7'] z ∧
      Inv C rs (Fp F) W' [] ∧ W'.length ≤ W.length + D.length
  | [], W, x7, h, hl => ⟨W, x7, rfl, h, by simp⟩
  | k :: D, W, x7, h, hl => by
    simp only [List.length_cons] at hl
    have eg : gN 7 (.int (k : Int)) [A, B, x2, .o (.il (F.map T.bl)), .o (.il (W.map en)), x5, .o (.im (.int (i : Int))), x7] = some [A, B, x2, .o (.il (F.map T.bl)), .o (.il (W.map en)), x5, .o (.im (.int (i : Int))), .o (.im (.int (k : Int)))] := rfl
    have lt : i + 1 + k < F.length := by rw [hF]; exact hlt _ (h.s3 (i + 1 + k) (by simp)).1
    have ea := atF (List.getElem?_eq_getElem lt)
    have cst : ((i + 1 + k : Nat) : Int) = (i : Int) + 1 + k := by simp
    rw [cst] at ea
    cases c : F[i + 1 + k] with
    | true =>
      rw [c] at ea
      obtain ⟨W', x7', e, r1, r2⟩ := arg_loop A B x2 x5 z F hF hn i hlt D W (.o (.im (.int (k : Int)))) (h.old (show F[i + 1 + k]? = some true by rw [List.getElem?_eq_getElem lt, c])) (by omega)
      have e1 : b__law_reachable_2 [A, B, x2, .o (.il (F.map T.bl)), .o (.il (W.map en)), x5, .o (.im (.int (i : Int))), .o (.im (.int (k : Int)))] z = .nx [A, B, x2, .o (.il (F.map T.bl)), .o (.il (W.map en)), x5, .o (.im (.int (i : Int))), .o (.im (.int (k : Int)))] z := by
        simp [b__law_reachable_2, ea]
      exact ⟨W', x7', by simp only [List.map_cons, sTurns, eg, e1, e], r1, by simp only [List.length_cons]; omega⟩
    | false =>
      rw [c] at ea
      obtain ⟨W', x7', e, r1, r2⟩ := arg_loop A B x2 x5 z F hF hn i hlt D (W ++ [Cl.ref (i + 1 + k)]) (.o (.im (.int (k : Int)))) h.argR (by simp; omega)
      have e1 : b__law_reachable_2 [A, B, x2, .o (.il (F.map T.bl)), .o (.il (W.map en)), x5, .o (.im (.int (i : Int))), .o (.im (.int (k : Int)))] z = .nx [A, B, x2, .o (.il (F.map T.bl)), .o (.il ((W ++ [Cl.ref (i + 1 + k)]).map en)), x5, .o (.im (.int (i : Int))), .o (.im (.int (k : Int)))] z := by
        simp [b__law_reachable_2, ea, en, show W.length < 16777216 by omega]
      exact ⟨W', x7', by simp only [List.map_cons, sTurns, eg, e1, e], r1, by simp at r2; simp only [List.length_cons]; omega⟩
theorem cnt_set {F : List Bool} {i : Nat} (e : F[i]? = some false) : (F.set i true).count false + 1 = F.count false := by
  obtain ⟨hi, e⟩ := List.getElem?_eq_some_iff.mp e
  have h0 : 0 < F.count false := List.count_pos_iff.mpr (by rw [← e]; exact List.getElem_mem hi)
  rw [List.count_set hi]
  simp [e]
  omega
theorem lreach_loop (hC : HeapOk C) (hw : ∀ c ∈ rs, WfC C c) (h8 : ∀ (p : Nat) (s : Str) (a : Nat), C[p]? = some (Cl.sym s a) → a ≤ 8) (hn : C.length ≤ 5000) (B : Sv) (z : Zs) : ∀ (ts : List T) (F : List Bool) (W : List Cl) (x2 x5 x6 x7 : Sv), Inv C rs (Fp F) W [] → F.length = C.length → 9 * F.count false + W.length ≤ ts.length → 9 * F.count false + W.length ≤ 50000 →
    ∃ F' x2' x5' x6' x7', sTurns (gN 5) b__law_reachable_3 ts [.b (.il (C.map en)), B, x2, .o (.il (F.map T.bl)), .o (.il (W.map en)), x5, x6, x7] z = .nx [.b (.il (C.map en)), B, x2', .o (.il (F'.map T.bl)), .o (.il []), x5', x6', x7'] z ∧ F'.length = C.length ∧ ∀ i, Fp F' i ↔ Rch C rs i
  | ts, F, [], x2, x5, x6, x7, h, hF, hl, hW => by
    cases ts with
    | nil => exact ⟨F, x2, x5, x6, x7, rfl, hF, h.done⟩
    | cons t ts =>
      have eg : gN 5 t [.b (.il (C.map en)), B, x2, .o (.il (F.map T.bl)), .o (.il ([].map en)), x5, x6, x7] = some [.b (.il (C.map en)), B, x2, .o (.il (F.map T.bl)), .o (.il []), .o (.im t), x6, x7] := rfl
      have e1 : b__law_reachable_3 [.b (.il (C.map en)), B, x2, .o (.il (F.map T.bl)), .o (.il []), .o (.im t), x6, x7] z = .bk [.b (.il (C.map en)), B, x2, .o (.il (F.map T.bl)), .o (.il []), .o (.im t), x6, x7] z := by
        simp [b__law_reachable_3]
      exact ⟨F, x2, .o (.im t), x6, x7, by simp only [sTurns, eg, e1], hF, h.done⟩
  | [], F, c :: W, x2, x5, x6, x7, h, hF, hl, hW => by simp at hl
  | t :: ts, F, c0 :: W0, x2, x5, x6, x7, h, hF, hl, hW => by
    obtain ⟨W, c, e0⟩ : ∃ W c, c0 :: W0 = W ++ [c] := by
      rcases List.eq_nil_or_concat (c0 :: W0) with q | ⟨W, c, q⟩
      · cases q
      · exact ⟨W, c, by rw [q, List.concat_eq_append]⟩
    rw [e0] at h hl hW ⊢
    simp at hl hW
    have eg : gN 5 t [.b (.il (C.map en)), B, x2, .o (.il (F.map T.bl)), .o (.il ((W ++ [c]).map en)), x5, x6, x7] = some [.b (.il (C.map en)), B, x2, .o (.il (F.map T.bl)), .o (.il ((W ++ [c]).map en)), .o (.im t), x6, x7] := rfl
    have wf := (h.s2 c (by simp)).1
    have skip : (∀ i, tgt c = some i → Fp F i) → b__law_reachable_3 [.b (.il (C.map en)), B, x2, .o (.il (F.map T.bl)), .o (.il ((W ++ [c]).map en)), .o (.im t), x6, x7] z = .ct [.b (.il (C.map en)), B, .o (.im (en c)), .o (.il (F.map T.bl)), .o (.il (W.map en)), .o (.im t), x6, x7] z →
        ∃ F' x2' x5' x6' x7', sTurns (gN 5) b__law_reachable_3 (t :: ts) [.b (.il (C.map en)), B, x2, .o (.il (F.map T.bl)), .o (.il ((W ++ [c]).map en)), x5, x6, x7] z = .nx [.b (.il (C.map en)), B, x2', .o (.il (F'.map T.bl)), .o (.il []), x5', x6', x7'] z ∧ F'.length = C.length ∧ ∀ i, Fp F' i ↔ Rch C rs i := fun g e1 => by
      obtain ⟨F', y2, y5, y6, y7, e, r⟩ := lreach_loop hC hw h8 hn B z ts F W (.o (.im (en c))) (.o (.im t)) x6 x7 (h.skip g) hF (by omega) (by omega)
      exact ⟨F', y2, y5, y6, y7, by simp only [sTurns, eg, e1, e], r⟩
    cases c with
    | num v => exact skip (fun i e => by cases e) (by simp [b__law_reachable_3, en])
    | sym s a => exact skip (fun i e => by cases e) (by simp [b__law_reachable_3, en])
    | later d => exact wf.elim
    | ref i =>
      have lt : i < F.length := by
        obtain ⟨c, e, _⟩ := wf
        rw [hF]; exact (List.getElem?_eq_some_iff.mp e).1
      have ea := atF (List.getElem?_eq_getElem lt)
      cases cf : F[i] with
      | true =>
        rw [cf] at ea
        exact skip (fun j e => by cases e; show F[i]? = _; rw [List.getElem?_eq_getElem lt, cf]) (by simp [b__law_reachable_3, en, ea])
      | false =>
        rw [cf] at ea
        obtain ⟨d, ed, h2⟩ := h.ref hC
        have h3 := h2.congr (P' := Fp (F.set i true)) (fp_set lt)
        have ac := atC ed
        have cn := cnt_set (F := F) (i := i) (by rw [List.getElem?_eq_getElem lt, cf])
        have ei := ix_of lt
        have e1 : b__law_reachable_3 [.b (.il (C.map en)), B, x2, .o (.il (F.map T.bl)), .o (.il ((W ++ [Cl.ref i]).map en)), .o (.im t), x6, x7] z = .nx [.b (.il (C.map en)), B, .o (.im (en (.ref i))), .o (.il ((F.set i true).map T.bl)), .o (.il ((W ++ [d]).map en)), .o (.im t), .o (.im (.int (i : Int))), x7] z := by
          simp [b__law_reachable_3, en, ea, ei, ac, List.map_set, show W.length < 16777216 by omega]
        obtain ⟨F', y2, y5, y6, y7, e, r⟩ := lreach_loop hC hw h8 hn B z ts (F.set i true) (W ++ [d]) (.o (.im (en (.ref i)))) (.o (.im t)) (.o (.im (.int (i : Int)))) x7 h3 (by simpa using hF) (by simp; omega) (by simp; omega)
        exact ⟨F', y2, y5, y6, y7, by simp only [sTurns, eg, e1, e], r⟩
    | str i =>
      have lt : i < F.length := by
        obtain ⟨_, _, e, _⟩ := wf
        rw [hF]; exact (List.getElem?_eq_some_iff.mp e).1
      have ea := atF (List.getElem?_eq_getElem lt)
      cases cf : F[i] with
      | true =>
        rw [cf] at ea
        exact skip (fun j e => by cases e; show F[i]? = _; rw [List.getElem?_eq_getElem lt, cf]) (by simp [b__law_reachable_3, en, ea])
      | false =>
        rw [cf] at ea
        obtain ⟨s, a, ed, ha, h2⟩ := h.str hC
        have h3 := h2.congr (P' := Fp (F.set i true)) (fp_set lt)
        have ac := atC ed
        have a8 := h8 i s a ed
        have cn := cnt_set (F := F) (i := i) (by rw [List.getElem?_eq_getElem lt, cf])
        have ei := ix_of lt
        obtain ⟨W', x7', e2, r1, r2⟩ := arg_loop (.b (.il (C.map en))) B (.o (.im (en (.str i)))) (.o (.im t)) z (F.set i true) (by simpa using hF) hn i (fun k hk => rch_lt hC hw hk) (List.range a) W x7 h3 (by simp; omega)
        have er : rngI 0 a = (List.range a).map fun (k : Nat) => T.int (k : Int) := by simp [rngI]
        rw [← er, List.map_set] at e2
        simp only [List.length_range] at r2
        have e1 : b__law_reachable_3 [.b (.il (C.map en)), B, x2, .o (.il (F.map T.bl)), .o (.il ((W ++ [Cl.str i]).map en)), .o (.im t), x6, x7] z = .nx [.b (.il (C.map en)), B, .o (.im (en (.str i))), .o (.il ((F.set i true).map T.bl)), .o (.il (W'.map en)), .o (.im t), .o (.im (.int (i : Int))), x7'] z := by
          rw [List.map_set]
          simp [b__law_reachable_3, en, ea, ei, ac, MM.inR_of (i := (a : Int)) (by omega) (by omega), -sTurns]
          simpa [en] using e2
        obtain ⟨F', y2, y5, y6, y7, e, r⟩ := lreach_loop hC hw h8 hn B z ts (F.set i true) W' (.o (.im (en (.str i)))) (.o (.im t)) (.o (.im (.int (i : Int)))) x7' r1 (by simpa using hF) (by omega) (by omega)
        exact ⟨F', y2, y5, y6, y7, by simp only [sTurns, eg, e1, e], r⟩
theorem lreach_ok (hC : HeapOk C) (hw : ∀ c ∈ rs, WfC C c) (h8 : ∀ (p : Nat) (s : Str) (a : Nat), C[p]? = some (Cl.sym s a) → a ≤ 8) (hn : C.length ≤ 5000) (hr : rs.length ≤ 20) : ∃ L : List Nat, m__law_reachable [.il (C.map en), .il (rs.map en)] = .ok (.il ((L.map fun (i : Nat) => (i : Int)).map .int)) z0 ∧ L.Pairwise (· < ·) ∧ ∀ i, i ∈ L ↔ Rch C rs i := by
  have e1 := lc_mapG (j := 2) (m := e__law_reachable_1) (S0 := wipS 2 [.b (.il (C.map en)), .b (.il (rs.map en)), .un, .un, .un, .un, .un, .un]) (by simp [wipS]) (fun _ => .bl false) z0 (ts := C.map en) (acc := []) (fun t ht => by simp [e__law_reachable_1]) (by simp; omega)
  rw [List.nil_append] at e1
  have e1' : (C.map en).map (fun _ => T.bl false) = (List.replicate C.length false).map T.bl := by
    simp [List.map_const', Function.comp_def]
  rw [e1'] at e1
  have hnof : ∀ i, Fp (List.replicate C.length false) i ↔ False := fun i => by
    unfold Fp
    rw [List.getElem?_replicate]
    split <;> simp
  obtain ⟨F, y2, y5, y6, y7, e2, hF, hm⟩ := lreach_loop hC hw h8 hn (.b (.il (rs.map en))) z0 (rngI 0 (20 * (C.length : Int) + 20).toNat) (List.replicate C.length false) rs .un .un .un .un ((Inv.start hw).congr fun i => (hnof i).symm) (by simp) (by simp; omega) (by simp; omega)
  rw [List.map_replicate] at e1 e2
  have e3 := lc_filtG (j := 6) (c := tTru (eIx (eV 3) (eV 6))) (m := e__law_reachable_4) (S0 := wipS 6 [.b (.il (C.map en)), .b (.il (rs.map en)), y2, .o (.il (F.map T.bl)), .o (.il []), y5, y6, y7]) (by simp [wipS]) (fun t => match t with
    | .int n => F.getD n.toNat false
    | _ => false) id z0 (ts := rngI 0 C.length) (acc := []) (fun t ht => by
      obtain ⟨i, hi⟩ := List.mem_iff_getElem?.mp ht
      obtain ⟨hl, rfl⟩ := rngI_get hi
      have ea := atF (List.getElem?_eq_getElem (l := F) (i := i) (by omega))
      have e0 : (0 : Int) + i = i := by omega
      simp [wipS, ea, List.getElem?_eq_getElem (l := F) (i := i) (by omega)]) (fun t ht _ => by
      obtain ⟨i, hi⟩ := List.mem_iff_getElem?.mp ht
      obtain ⟨hl, rfl⟩ := rngI_get hi
      simp [wipS, e__law_reachable_4]) (by simp; omega)
  rw [List.nil_append] at e3
  have e4 : ((rngI 0 C.length).filter fun t => match t with
    | .int n => F.getD n.toNat false
    | _ => false).map id = ((((List.range C.length).filter fun i => F.getD i false)).map fun (i : Nat) => (i : Int)).map T.int := by
    unfold rngI
    rw [List.map_id, List.filter_map, List.map_map]
    have : ((fun t => match t with
      | .int n => F.getD n.toNat false
      | _ => false : T → Bool) ∘ fun (i : Nat) => T.int (0 + (i : Int))) = fun i => F.getD i false := by
      funext i
      simp
    rw [this]
    refine List.map_congr_left fun i _ => ?_
    simp
  rw [e4] at e3
  unfold eIx at e3
  refine ⟨(List.range C.length).filter fun i => F.getD i false, ?_, List.pairwise_lt_range.filter _, fun i => ?_⟩
  · generalize (List.map (fun (i : Nat) => (i : Int)) (List.filter (fun i => F.getD i false) (List.range C.length))).map T.int = R at *
    simp [m__law_reachable, runP, c__law_reachable, e1, e2, e3, MM.inR_of (i := 20 * (C.length : Int) + 20) (by omega) (by omega), MM.inR_of (i := (C.length : Int)) (by omega) (by omega), show cMul 20 (C.length : Int) = true by simp [cMul], -sTurns]
  · rw [List.mem_filter, List.mem_range, ← hm]
    unfold Fp
    constructor
    · rintro ⟨a, b⟩
      rw [List.getD_eq_getElem?_getD] at b
      rw [List.getElem?_eq_getElem (by omega)] at b ⊢
      simpa using b
    · intro e
      have := (List.getElem?_eq_some_iff.mp e).1
      exact ⟨by omega, by rw [List.getD_eq_getElem?_getD, e]; rfl⟩
end
theorem same_list {M L : List Nat} (nd : M.Nodup) (sl : L.Pairwise (· < ·)) (h : ∀ i, i ∈ M ↔ i ∈ L) : sortI (M.map fun (i : Nat) => (i : Int)) = L.map fun (i : Nat) => (i : Int) := by
  refine sortI_of ?_ (List.pairwise_map.mpr (sl.imp fun h => by omega))
  refine List.Perm.map _ ?_
  exact (List.perm_ext_iff_of_nodup (sl.imp fun h => Nat.ne_of_lt h) nd).mpr fun i => (h i).symm
end Law

namespace Law
open PySem PySem.Spec PyProof.Rows L2 MM
theorem sgn_ok {s : String} {n : Nat} (z : Zs) (hn : 0 < n) (h8 : n < 100) (hl : (Str.ofString s).cps.toList.length = n) : ∃ i z' c, m__law_draw [.im (.int (n : Int))] z = .ok (.im (.int i)) z' ∧ atI (Str.ofString s).cps.toList i = some c := by
  obtain ⟨i, z', e, i0, i1⟩ := draw_sm z (n : Int) (by omega) (by omega)
  obtain ⟨c, e2, _⟩ := atI_of (xs := (Str.ofString s).cps.toList) i0 (by omega)
  exact ⟨i, z', c, e, e2⟩
def argC : Cl → Prop
  | .num _ => True
  | .sym _ a => a = 0
  | .later _ => True
  | _ => False
theorem argC.non {c : Cl} (h : argC c) : nonsym c := fun s a e => by subst e; exact h
theorem arg_ok (z : Zs) : ∃ c z', m__law_argument [] z = .ok (.im (en c)) z' ∧ argC c := by
  obtain ⟨a, z1, e1, a0, a1⟩ := draw_sm z 6 (by decide) (by decide)
  by_cases c0 : a = 0
  · obtain ⟨b, z2, e2, _, _⟩ := draw_sm z1 9 (by decide) (by decide)
    exact ⟨.num (b - 4), z2, by simp [m__law_argument, runZ, c__law_argument, e1, e2, c0, en], trivial⟩
  · by_cases c1 : a = 1
    · obtain ⟨i, z2, c, e2, e3⟩ := sgn_ok (s := "ab") (n := 2) z1 (by decide) (by decide) (by decide +kernel)
      refine ⟨.sym ⟨#[c]⟩ 0, z2, ?_, rfl⟩
      simp at e2
      simp [m__law_argument, runZ, c__law_argument, e1, e2, e3, c0, c1, en]
    · obtain ⟨d, z2, e2, d0, d1⟩ := draw_sm z1 1000 (by decide) (by decide)
      obtain ⟨d, rfl⟩ := Int.eq_ofNat_of_zero_le d0
      refine ⟨.later d, z2, ?_, trivial⟩
      simp [m__law_argument, runZ, c__law_argument, e1, e2, c0, c1, en]
structure RawOk (R : List Cl) : Prop where
  sy : ∀ (p : Nat) (s : Str) (a : Nat), R[p]? = some (Cl.sym s a) → a ≤ 8 ∧ ∀ k, 1 ≤ k → k ≤ a → ∃ c, R[p + k]? = some c ∧ nonsym c
  rf : ∀ (p i : Nat), R[p]? = some (Cl.ref i) → i = p
  st : ∀ (p i : Nat), R[p]? ≠ some (Cl.str i)
theorem raw_blk {R : List Cl} (h : RawOk R) {s : Str} {args : List Cl} (h8 : args.length ≤ 8) (ha : ∀ c ∈ args, argC c) : RawOk (R ++ Cl.sym s args.length :: args) := by
  have old : ∀ {p : Nat} {c : Cl}, R[p]? = some c → (R ++ Cl.sym s args.length :: args)[p]? = some c := fun {p c} e => by
    rw [List.getElem?_append_left (List.getElem?_eq_some_iff.mp e).1]; exact e
  have new : ∀ {k : Nat} {c : Cl}, args[k]? = some c → (R ++ Cl.sym s args.length :: args)[R.length + 1 + k]? = some c := fun {k c} e => by
    rw [List.getElem?_append_right (by omega), show R.length + 1 + k - R.length = k + 1 by omega]; simpa using e
  have cas : ∀ {p : Nat} {c : Cl}, (R ++ Cl.sym s args.length :: args)[p]? = some c → R[p]? = some c ∨ (p = R.length ∧ c = Cl.sym s args.length) ∨ (c ∈ args) := fun {p c} e => by
    by_cases q : p < R.length
    · rw [List.getElem?_append_left q] at e; exact .inl e
    · rw [List.getElem?_append_right (by omega)] at e
      cases k : p - R.length with
      | zero => rw [k] at e; simp at e; exact .inr (.inl ⟨by omega, e.symm⟩)
      | succ m => rw [k] at e; simp at e; exact .inr (.inr (List.mem_of_getElem? e))
  refine ⟨fun p s' a e => ?_, fun p i e => ?_, fun p i e => ?_⟩
  · have e0 := cas e
    clear e
    rcases e0 with e | ⟨rfl, e⟩ | e
    · obtain ⟨q, r⟩ := h.sy p s' a e
      exact ⟨q, fun k k1 k2 => let ⟨c, ec, n⟩ := r k k1 k2; ⟨c, old ec, n⟩⟩
    · cases e
      refine ⟨h8, fun k k1 k2 => ?_⟩
      have : k - 1 < args.length := by omega
      refine ⟨args[k - 1], ?_, (ha _ (List.getElem_mem this)).non⟩
      have := new (List.getElem?_eq_getElem this)
      rwa [show R.length + 1 + (k - 1) = R.length + k by omega] at this
    · have := ha _ e
      have : a = 0 := this
      subst this
      exact ⟨by omega, fun k k1 k2 => by omega⟩
  · have e0 := cas e
    clear e
    rcases e0 with e | ⟨rfl, e⟩ | e
    · exact h.rf p i e
    · cases e
    · exact (ha _ e).elim
  · have e0 := cas e
    clear e
    rcases e0 with e | ⟨rfl, e⟩ | e
    · exact h.st p i e
    · cases e
    · exact (ha _ e).elim
theorem raw_one {R : List Cl} (h : RawOk R) {c : Cl} (hc : argC c ∨ c = .ref R.length) : RawOk (R ++ [c]) := by
  have old : ∀ {p : Nat} {d : Cl}, R[p]? = some d → (R ++ [c])[p]? = some d := fun {p d} e => by
    rw [List.getElem?_append_left (List.getElem?_eq_some_iff.mp e).1]; exact e
  have cas : ∀ {p : Nat} {d : Cl}, (R ++ [c])[p]? = some d → R[p]? = some d ∨ (p = R.length ∧ d = c) := fun {p d} e => by
    by_cases q : p < R.length
    · rw [List.getElem?_append_left q] at e; exact .inl e
    · rw [List.getElem?_append_right (by omega)] at e
      cases k : p - R.length with
      | zero => rw [k] at e; simp at e; exact .inr ⟨by omega, e.symm⟩
      | succ m => rw [k] at e; simp at e
  refine ⟨fun p s' a e => ?_, fun p i e => ?_, fun p i e => ?_⟩
  · have e0 := cas e
    clear e
    rcases e0 with e | ⟨rfl, e⟩
    · obtain ⟨q, r⟩ := h.sy p s' a e
      exact ⟨q, fun k k1 k2 => let ⟨c, ec, n⟩ := r k k1 k2; ⟨c, old ec, n⟩⟩
    · rcases hc with hc | hc
      · rw [← e] at hc
        have : a = 0 := hc
        subst this
        exact ⟨by omega, fun k k1 k2 => by omega⟩
      · rw [hc] at e; cases e
  · have e0 := cas e
    clear e
    rcases e0 with e | ⟨rfl, e⟩
    · exact h.rf p i e
    · rcases hc with hc | hc
      · rw [← e] at hc; exact hc.elim
      · rw [hc] at e; cases e; rfl
  · have e0 := cas e
    clear e
    rcases e0 with e | ⟨rfl, e⟩
    · exact h.st p i e
    · rcases hc with hc | hc
      · rw [← e] at hc; exact hc.elim
      · rw [hc] at e; cases e
/-! the rounds -/
abbrev St (size : Int) (R : List Cl) (x3 x4 x5 x6 x7 : Sv) : List Sv := [.s, .b (.im (.int size)), .o (.il (R.map en)), x3, x4, x5, x6, x7, .un, .un]
theorem args_loop (size : Int) (R : List Cl) (hR : R.length ≤ 5000) (x3 x4 x5 x6 x7 : Sv) (a : Nat) (h8 : a ≤ 8) (z : Zs) : ∃ args x7' z', sTurns (gN 7) b__law_cells_1 (rngI 0 a) (St size R x3 x4 x5 x6 x7) z = .nx (St size (R ++ args) x3 x4 x5 x6 x7') z' ∧ args.length = a ∧ ∀ c ∈ args, argC c := by
  obtain ⟨S', z', e, args, x7', rfl, hl, ha⟩ := turns_ind (g := gN 7) (body := b__law_cells_1) (fun i S _ => ∃ args x7', S = St size (R ++ args) x3 x4 x5 x6 x7' ∧ args.length = i ∧ i ≤ a ∧ ∀ c ∈ args, argC c) (ts := rngI 0 a) (n := 0) (S := St size R x3 x4 x5 x6 x7) (z := z)
    (fun i t S z e ⟨args, x7', eS, hl, hi, ha⟩ => by
      subst eS
      obtain ⟨hia, rfl⟩ := rngI_get e
      obtain ⟨c, z2, e2, hc⟩ := arg_ok z
      refine ⟨St size (R ++ args) x3 x4 x5 x6 (.o (.im (.int (0 + i)))), by simp, St size (R ++ (args ++ [c])) x3 x4 x5 x6 (.o (.im (.int (0 + i)))), z2, .inl ?_, args ++ [c], _, rfl, by simp; omega, by omega, fun d hd => ?_⟩
      · simp [b__law_cells_1, e2, show R.length + args.length < 16777216 by omega]
      · rcases List.mem_append.mp hd with q | q
        · exact ha d q
        · simp at q; subst q; exact hc) ⟨[], x7, by simp, rfl, by omega, by simp⟩
  rw [rngI_length] at hl
  exact ⟨args, x7', z', e, by omega, ha.2⟩
theorem round_ok (size : Int) (R : List Cl) (h : RawOk R) (hR : R.length ≤ 4900) (x3 x4 x5 x6 x7 : Sv) (z : Zs) : (b__law_cells_2 (St size R x3 x4 x5 x6 x7) z = .bk (St size R x3 x4 x5 x6 x7) z) ∨ ∃ R' x4' x5' x6' x7' z', b__law_cells_2 (St size R x3 x4 x5 x6 x7) z = .nx (St size R' x3 x4' x5' x6' x7') z' ∧ RawOk R' ∧ R'.length ≤ R.length + 9 := by
  by_cases cs : size ≤ (R.length : Int)
  · exact .inl (by simp [b__law_cells_2, cs])
  · refine .inr ?_
    have hlt : R.length < 16777216 := by omega
    obtain ⟨p, z1, e1, p0, p1⟩ := draw_sm z 6 (by decide) (by decide)
    by_cases c0 : p = 0
    · exact ⟨R ++ [.ref R.length], .o (.im (.int p)), .o (.im (.int R.length)), x6, x7, z1, by simp [b__law_cells_2, cs, e1, c0, hlt, en], raw_one h (.inr rfl), by simp⟩
    by_cases c1 : p = 1
    · obtain ⟨b, z2, e2, _, _⟩ := draw_sm z1 9 (by decide) (by decide)
      exact ⟨R ++ [.num (b - 4)], .o (.im (.int p)), .o (.im (.int R.length)), x6, x7, z2, by simp [b__law_cells_2, cs, e1, e2, c1, hlt, en], raw_one h (c := .num (b - 4)) (.inl trivial), by simp⟩
    by_cases c2 : p = 2
    · obtain ⟨i, z2, c, e2, e3⟩ := sgn_ok (s := "ab") (n := 2) z1 (by decide) (by decide) (by decide +kernel)
      simp at e2
      exact ⟨R ++ [.sym ⟨#[c]⟩ 0], .o (.im (.int p)), .o (.im (.int R.length)), x6, x7, z2, by simp [b__law_cells_2, cs, e1, e2, e3, c2, hlt, en], raw_one h (c := .sym ⟨#[c]⟩ 0) (.inl rfl), by simp⟩
    by_cases c3 : p = 3
    · obtain ⟨d, z2, e2, d0, d1⟩ := draw_sm z1 1000 (by decide) (by decide)
      obtain ⟨d, rfl⟩ := Int.eq_ofNat_of_zero_le d0
      exact ⟨R ++ [.later d], .o (.im (.int p)), .o (.im (.int R.length)), x6, x7, z2, by simp [b__law_cells_2, cs, e1, e2, c3, hlt, en], raw_one h (c := .later d) (.inl trivial), by simp⟩
    · obtain ⟨q, z2, e2, q0, q1⟩ := draw_sm z1 3 (by decide) (by decide)
      obtain ⟨w, ew, n, rfl, n0, n1⟩ := pick_ok (ts := [.int 3, .int 3, .int 8]) (fun t => ∃ n, t = .int n ∧ 0 < n ∧ n ≤ 8) q0 q1 (by
        intro t ht
        simp only [List.mem_cons, List.not_mem_nil, or_false] at ht
        rcases ht with rfl | rfl | rfl <;> exact ⟨_, rfl, by decide, by decide⟩)
      obtain ⟨a, z3, e3, a0, a1⟩ := draw_sm z2 n n0 (by omega)
      obtain ⟨a, rfl⟩ := Int.eq_ofNat_of_zero_le a0
      obtain ⟨i, z4, c, e4, e5⟩ := sgn_ok (s := "fgh") (n := 3) z3 (by decide) (by decide) (by decide +kernel)
      simp at e4
      obtain ⟨args, x7', z5, e6, hl, ha⟩ := args_loop size (R ++ [.sym ⟨#[c]⟩ (1 + a)]) (by simp; omega) x3 (.o (.im (.int p))) (.o (.im (.int R.length))) (.o (.im (.int (1 + (a : Int))))) x7 (1 + a) (by omega) z4
      have e7 : (1 + (a : Int)).toNat = 1 + a := by omega
      have eR : R ++ [Cl.sym ⟨#[c]⟩ (1 + a)] ++ args = R ++ Cl.sym ⟨#[c]⟩ args.length :: args := by rw [hl]; simp
      rw [eR] at e6
      refine ⟨R ++ Cl.sym ⟨#[c]⟩ args.length :: args, .o (.im (.int p)), .o (.im (.int R.length)), .o (.im (.int (1 + (a : Int)))), x7', z5, ?_, raw_blk h (by omega) ha, by simp; omega⟩
      simp [b__law_cells_2, cs, e1, e2, e3, e4, e5, ew, c0, c1, c2, c3, hlt, MM.inR_of (i := 1 + (a : Int)) (by omega) (by omega), e7, -sTurns]
      simpa [en, St] using e6
theorem rounds_ok (size : Int) : ∀ (ts : List T) (R : List Cl) (x3 x4 x5 x6 x7 : Sv) (z : Zs), RawOk R → R.length + 9 * ts.length ≤ 4000 → ∃ R' x3' x4' x5' x6' x7' z', sTurns (gN 3) b__law_cells_2 ts (St size R x3 x4 x5 x6 x7) z = .nx (St size R' x3' x4' x5' x6' x7') z' ∧ RawOk R' ∧ R'.length ≤ 4000
  | [], R, x3, x4, x5, x6, x7, z, h, hl => ⟨R, x3, x4, x5, x6, x7, z, rfl, h, by simpa using hl⟩
  | t :: ts, R, x3, x4, x5, x6, x7, z, h, hl => by
    simp only [List.length_cons] at hl
    have eg : gN 3 t (St size R x3 x4 x5 x6 x7) = some (St size R (.o (.im t)) x4 x5 x6 x7) := rfl
    rcases round_ok size R h (by omega) (.o (.im t)) x4 x5 x6 x7 z with e | ⟨R', y4, y5, y6, y7, z', e, h', hl'⟩
    · exact ⟨R, .o (.im t), x4, x5, x6, x7, z, by simp only [sTurns, eg, e], h, by omega⟩
    · obtain ⟨R2, w3, w4, w5, w6, w7, z2, e2, r⟩ := rounds_ok size ts R' (.o (.im t)) y4 y5 y6 y7 z' h' (by omega)
      exact ⟨R2, w3, w4, w5, w6, w7, z2, by simp only [sTurns, eg, e, e2], r⟩
end Law

namespace Law
open PySem PySem.Spec PyProof.Rows L2 MM
def symb : Cl → Bool
  | .sym _ a => decide (0 < a)
  | _ => false
theorem symb_non {c : Cl} : symb c = false ↔ nonsym c := by
  cases c with
  | sym s a => simp [symb, nonsym]
  | _ => simp [symb, nonsym]
theorem symb_eq (c : Cl) : m__law_is_symbol [.im (en c)] = .ok (.im (.bl (symb c))) z0 := by
  cases c <;> simp [m__law_is_symbol, runP, c__law_is_symbol, en, symb]
/-- what a raw cell becomes -/
def Stl (R : List Cl) (p : Nat) (c : Cl) : Prop := match R[p]? with
  | some (.later _) => (∃ j, c = .ref j ∧ ∃ d, R[j]? = some d ∧ nonsym d) ∨ ∃ j s a, c = .str j ∧ R[j]? = some (Cl.sym s a) ∧ 0 < a
  | some d => c = d
  | none => False
theorem settled_ok {R : List Cl} (sy ot : List Nat) (hsy : ∀ j ∈ sy, ∃ s a, R[j]? = some (Cl.sym s a) ∧ 0 < a) (hot : ∀ j ∈ ot, ∃ d, R[j]? = some d ∧ nonsym d) (hall : ∀ j d, R[j]? = some d → nonsym d → j ∈ ot) {p : Nat} (hp : p < R.length) (hl : R.length ≤ 5000) (ly : sy.length ≤ 5000) (lo : ot.length ≤ 5000) :
    ∃ c, m__law_settled [.il (R.map en), .im (.int (p : Int)), .il (sy.map fun (i : Nat) => T.int (i : Int)), .il (ot.map fun (i : Nat) => T.int (i : Int))] = .ok (.im (en c)) z0 ∧ Stl R p c := by
  have e := List.getElem?_eq_getElem hp
  have ea := atC e
  have pick : ∀ (xs : List Nat) (k : Int), 0 ≤ k → k < xs.length → ∃ j, j ∈ xs ∧ atI (xs.map fun (i : Nat) => T.int (i : Int)) k = some (.int (j : Int)) := fun xs k k0 k1 => by
    obtain ⟨t, e1, e2⟩ := atI_of (xs := xs.map fun (i : Nat) => T.int (i : Int)) k0 (by simpa using k1)
    rw [List.getElem?_map] at e2
    cases q : xs[k.toNat]? with
    | none => rw [q] at e2; cases e2
    | some j =>
      rw [q] at e2
      cases e2
      exact ⟨j, List.mem_of_getElem? q, e1⟩
  unfold Stl
  rw [e]
  cases c : R[p] with
  | num n => rw [c] at ea; exact ⟨.num n, by simp [m__law_settled, runP, c__law_settled, ea, en], rfl⟩
  | sym s a => rw [c] at ea; exact ⟨.sym s a, by simp [m__law_settled, runP, c__law_settled, ea, en], rfl⟩
  | ref i => rw [c] at ea; exact ⟨.ref i, by simp [m__law_settled, runP, c__law_settled, ea, en], rfl⟩
  | str i => rw [c] at ea; exact ⟨.str i, by simp [m__law_settled, runP, c__law_settled, ea, en], rfl⟩
  | later d =>
    rw [c] at ea
    dsimp only
    have cd : cDiv (d : Int) 2 = true := by
      simp [cDiv]
      decide
    have od : 0 < ot.length := List.length_pos_iff.mpr (List.ne_nil_of_mem (hall p _ (by rw [e, c]) (fun s a q => by cases q)))
    obtain ⟨j2, hj2, e2⟩ := pick ot ((d : Int) / 2 % (ot.length : Int)) (Int.emod_nonneg _ (by omega)) (Int.emod_lt_of_pos _ (by omega))
    by_cases c1 : (d : Int) % 2 = 0
    · by_cases c2 : sy = []
      · subst c2
        refine ⟨.ref j2, ?_, .inl ⟨j2, rfl, hot j2 hj2⟩⟩
        simp [m__law_settled, runP, c__law_settled, ea, en, c1, e2, od, cd]
      · have sd : 0 < sy.length := List.length_pos_iff.mpr c2
        obtain ⟨j1, hj1, e1⟩ := pick sy ((d : Int) / 2 % (sy.length : Int)) (Int.emod_nonneg _ (by omega)) (Int.emod_lt_of_pos _ (by omega))
        obtain ⟨s, a, q1, q2⟩ := hsy j1 hj1
        refine ⟨.str j1, ?_, .inr ⟨j1, s, a, rfl, q1, q2⟩⟩
        simp [m__law_settled, runP, c__law_settled, ea, en, c1, c2, e1, sd, cd]
    · refine ⟨.ref j2, ?_, .inl ⟨j2, rfl, hot j2 hj2⟩⟩
      simp [m__law_settled, runP, c__law_settled, ea, en, c1, e2, od, cd]
theorem cls_of {P : Nat → Cl → Prop} : ∀ {us : List T} {o : Nat}, (∀ i (h : i < us.length), ∃ c, us[i] = en c ∧ P (o + i) c) → ∃ C : List Cl, us = C.map en ∧ ∀ i c, C[i]? = some c → P (o + i) c
  | [], _, _ => ⟨[], rfl, by simp⟩
  | u :: us, o, h => by
    obtain ⟨c, e, p⟩ := h 0 (by simp)
    obtain ⟨C, e2, p2⟩ := cls_of (us := us) (o := o + 1) fun i hi => by
      obtain ⟨c, e, p⟩ := h (i + 1) (by simp; omega)
      exact ⟨c, by simpa using e, by rw [show o + 1 + i = o + (i + 1) by omega]; exact p⟩
    refine ⟨c :: C, by simp at e; simp [e, e2], fun i d hd => ?_⟩
    cases i with
    | zero => simp at hd; subst hd; exact p
    | succ i => simp at hd; rw [show o + (i + 1) = o + 1 + i by omega]; exact p2 i d hd
theorem heap_of {R C : List Cl} (h : RawOk R) (hl : C.length = R.length) (hs : ∀ i c, C[i]? = some c → Stl R i c) : HeapOk C ∧ ∀ (p : Nat) (s : Str) (a : Nat), C[p]? = some (Cl.sym s a) → a ≤ 8 := by
  have get : ∀ {i : Nat} {d : Cl}, R[i]? = some d → ∃ c, C[i]? = some c ∧ Stl R i c := fun {i d} e => by
    have : i < C.length := by rw [hl]; exact (List.getElem?_eq_some_iff.mp e).1
    exact ⟨_, List.getElem?_eq_getElem this, hs i _ (List.getElem?_eq_getElem this)⟩
  have non : ∀ {i : Nat} {d : Cl}, R[i]? = some d → nonsym d → ∃ c, C[i]? = some c ∧ nonsym c := fun {i d} e n => by
    obtain ⟨c, ec, q⟩ := get e
    refine ⟨c, ec, ?_⟩
    unfold Stl at q
    rw [e] at q
    cases d with
    | later k =>
      rcases q with ⟨j, rfl, _⟩ | ⟨j, s, a, rfl, _⟩ <;> exact fun s a q => by cases q
    | _ => cases q; exact n
  have symc : ∀ {i : Nat} {s : Str} {a : Nat}, R[i]? = some (Cl.sym s a) → C[i]? = some (Cl.sym s a) := fun {i s a} e => by
    obtain ⟨c, ec, q⟩ := get e
    unfold Stl at q
    rw [e] at q
    cases q
    exact ec
  have back : ∀ {i : Nat} {s : Str} {a : Nat}, C[i]? = some (Cl.sym s a) → R[i]? = some (Cl.sym s a) := fun {i s a} e => by
    have q := hs i _ e
    unfold Stl at q
    split at q
    · rcases q with ⟨j, q, _⟩ | ⟨j, s, a, q, _⟩ <;> cases q
    · rename_i d _ ed; rw [ed, ← q]
    · exact q.elim
  refine ⟨⟨fun p s a e k k1 k2 => ?_, fun p i e => ?_, fun p i e => ?_, fun p d e => ?_⟩, fun p s a e => (h.sy p s a (back e)).1⟩
  · obtain ⟨c, ec, n⟩ := (h.sy p s a (back e)).2 k k1 k2
    exact non ec n
  · have q := hs p _ e
    unfold Stl at q
    split at q
    · rcases q with ⟨j, q, d, e1, e2⟩ | ⟨j, s, a, q, _⟩
      · cases q; exact non e1 e2
      · cases q
    · rename_i d nl ed
      subst q
      have := h.rf p i ed
      subst this
      exact non ed (fun s a q => by cases q)
    · exact q.elim
  · have q := hs p _ e
    unfold Stl at q
    split at q
    · rcases q with ⟨j, q, _⟩ | ⟨j, s, a, q, e1, e2⟩
      · cases q
      · cases q; exact ⟨s, a, symc e1, e2⟩
    · rename_i d nl ed
      subst q
      exact absurd ed (h.st p i)
    · exact q.elim
  · have q := hs p _ e
    unfold Stl at q
    split at q
    · rcases q with ⟨j, q, _⟩ | ⟨j, s, a, q, _⟩ <;> cases q
    · rename_i d' nl ed
      subst q
      exact nl _ rfl
    · exact q.elim
theorem cells_ok (size : Int) (z : Zs) : ∃ C z', m__law_cells [.im (.int size)] z = .ok (.il (C.map en)) z' ∧ HeapOk C ∧ (∀ (p : Nat) (s : Str) (a : Nat), C[p]? = some (Cl.sym s a) → a ≤ 8) ∧ C.length ≤ 4000 := by
  obtain ⟨R, x3, x4, x5, x6, x7, z1, e1, h, hl⟩ := rounds_ok size (rngI 0 200) [] .un .un .un .un .un z ⟨by simp, by simp, by simp⟩ (by simp)
  have flt : ∀ (b : Bool) (c : MT) (m : ME) (S0 : List Sv), 5 < S0.length → (∀ i < R.length, c (S0.set 5 (.o (.im (.int (i : Int))))) z1 = .ok (symb (R.getD i (.num 0)) == b) z1) → (∀ i < R.length, m (S0.set 5 (.o (.im (.int (i : Int))))) z1 = .ok (.im (.int (i : Int))) z1) →
      lcT 5 c m S0 (rngI 0 R.length) [] z1 = .ok (.il (((List.range R.length).filter fun i => symb (R.getD i (.num 0)) == b).map fun (i : Nat) => T.int (i : Int))) z1 := fun b c m S0 hS hc hm => by
    have := lc_filtG (j := 5) (c := c) (m := m) (S0 := S0) hS (fun t => match t with
      | .int n => symb (R.getD n.toNat (.num 0)) == b
      | _ => false) id z1 (ts := rngI 0 R.length) (acc := []) (fun t ht => by
        obtain ⟨i, hi⟩ := List.mem_iff_getElem?.mp ht
        obtain ⟨hl, rfl⟩ := rngI_get hi
        have := hc i hl
        simpa using this) (fun t ht _ => by
        obtain ⟨i, hi⟩ := List.mem_iff_getElem?.mp ht
        obtain ⟨hl, rfl⟩ := rngI_get hi
        have := hm i hl
        simpa using this) (by simp; omega)
    rw [this]
    congr 2
    unfold rngI
    rw [List.map_id, List.filter_map, List.nil_append]
    have q : ((fun t => match t with
      | .int n => symb (R.getD n.toNat (.num 0)) == b
      | _ => false : T → Bool) ∘ fun (i : Nat) => T.int (0 + (i : Int))) = fun i => symb (R.getD i (.num 0)) == b := by
      funext i
      simp
    rw [q]
    refine List.map_congr_left fun i _ => ?_
    simp
  have geq : ∀ {i}, i < R.length → R[i]? = some (R.getD i (.num 0)) := fun {i} hi => by
    rw [List.getD_eq_getElem?_getD, List.getElem?_eq_getElem hi]; rfl
  obtain ⟨sy, hsy⟩ : ∃ sy, sy = (List.range R.length).filter fun i => symb (R.getD i (.num 0)) == true := ⟨_, rfl⟩
  obtain ⟨ot, hot⟩ : ∃ ot, ot = (List.range R.length).filter fun i => symb (R.getD i (.num 0)) == false := ⟨_, rfl⟩
  have f1 := flt true (tTru (eCall m__law_is_symbol (aCons (eIx (eV 2) (eV 5)) aNil))) e__law_cells_3 (wipS 5 (St size R x3 x4 x5 x6 x7)) (by simp [wipS]) (fun i hi => by
    have ea := atC (geq hi)
    simp [wipS, ea, symb_eq]) (fun i hi => by simp [wipS, e__law_cells_3])
  have f2 := flt false (tNt (tTru (eCall m__law_is_symbol (aCons (eIx (eV 2) (eV 5)) aNil)))) e__law_cells_4 (wipS 5 [.s, .b (.im (.int size)), .o (.il (R.map en)), x3, x4, x5, x6, x7, .o (.il (sy.map fun (i : Nat) => T.int (i : Int))), .un]) (by simp [wipS]) (fun i hi => by
    have ea := atC (geq hi)
    simp [wipS, ea, symb_eq]) (fun i hi => by simp [wipS, e__law_cells_4])
  rw [← hsy] at f1
  rw [← hot] at f2
  have msy : ∀ j ∈ sy, ∃ s a, R[j]? = some (Cl.sym s a) ∧ 0 < a := fun j hj => by
    rw [hsy, List.mem_filter, List.mem_range] at hj
    have e := geq hj.1
    have q := hj.2
    cases c : R.getD j (.num 0) with
    | sym s a =>
      rw [c] at q e
      simp [symb] at q
      exact ⟨s, a, e, q⟩
    | _ => rw [c] at q; simp [symb] at q
  have mot : ∀ j ∈ ot, ∃ d, R[j]? = some d ∧ nonsym d := fun j hj => by
    rw [hot, List.mem_filter, List.mem_range] at hj
    exact ⟨_, geq hj.1, symb_non.mp (by simpa using hj.2)⟩
  have aot : ∀ j d, R[j]? = some d → nonsym d → j ∈ ot := fun j d e n => by
    have lt := (List.getElem?_eq_some_iff.mp e).1
    rw [hot, List.mem_filter, List.mem_range]
    refine ⟨lt, ?_⟩
    have := geq lt
    rw [e] at this
    cases this
    simpa using symb_non.mpr n
  have lsy : sy.length ≤ 4000 := by rw [hsy]; exact Nat.le_trans (List.length_filter_le _ _) (by simpa using hl)
  have lot : ot.length ≤ 4000 := by rw [hot]; exact Nat.le_trans (List.length_filter_le _ _) (by simpa using hl)
  obtain ⟨us, z2, e3, l3, r3⟩ := lc_all (j := 5) (m := e__law_cells_5) (S0 := wipS 5 [.s, .b (.im (.int size)), .o (.il (R.map en)), x3, x4, x5, x6, x7, .o (.il (sy.map fun (i : Nat) => T.int (i : Int))), .o (.il (ot.map fun (i : Nat) => T.int (i : Int)))]) (by simp [wipS]) (fun t u => ∃ (p : Nat) (c : Cl), t = .int (p : Int) ∧ u = en c ∧ Stl R p c) (ts := rngI 0 R.length) (acc := []) (z := z1)
    (fun t ht z => by
      obtain ⟨i, hi⟩ := List.mem_iff_getElem?.mp ht
      obtain ⟨hl', rfl⟩ := rngI_get hi
      obtain ⟨c, e, q⟩ := settled_ok sy ot msy mot aot hl' (by omega) (by omega) (by omega)
      exact ⟨en c, z, by simp [wipS, e__law_cells_5, e], i, c, by simp, rfl, q⟩) (by simp; omega)
  rw [List.nil_append] at e3
  rw [rngI_length] at l3
  obtain ⟨C, rfl, hC⟩ := cls_of (P := Stl R) (us := us) (o := 0) fun i hi => by
    have : i < (rngI 0 R.length).length := by rw [rngI_length]; omega
    obtain ⟨_, q⟩ := rngI_get (List.getElem?_eq_getElem this)
    obtain ⟨u, eu, p, c, e1, e2, e3⟩ := r3 i _ (List.getElem?_eq_getElem this)
    rw [q] at e1
    have : p = i := by injection e1 with e1; omega
    subst this
    rw [List.getElem?_eq_getElem hi] at eu
    exact ⟨c, by rw [← e2]; exact Option.some.inj eu, by simpa using e3⟩
  have lC : C.length = R.length := by simpa using l3
  obtain ⟨g1, g2⟩ := heap_of h lC fun i c e => by simpa using hC i c e
  refine ⟨C, z2, ?_, g1, g2, by omega⟩
  unfold eIx at f1 f2
  simp [m__law_cells, runZ, c__law_cells, MM.inR_of (i := 200) (by decide) (by decide), MM.inR_of (i := (R.length : Int)) (by omega) (by omega), -sTurns]
  have e1' : sTurns (gN 3) b__law_cells_2 (rngI 0 (200 : Int).toNat) [.s, .b (.im (.int size)), .o (.il []), .un, .un, .un, .un, .un, .un, .un] z = .nx (St size R x3 x4 x5 x6 x7) z1 := e1
  first | rw [e1'] | simp only [show (200 : Int).toNat = 200 from rfl] at e1' ⊢; rw [e1']
  simp [MM.inR_of (i := (R.length : Int)) (by omega) (by omega), f1, f2, e3, St, -sTurns]
end Law

namespace Law
open PySem PySem.Spec PyProof.Rows L2 MM
theorem roots_ok {C : List Cl} (hl : C.length ≤ 4000) (z : Zs) : ∃ (rs : List Cl) (z' : Zs), m__law_roots [.il (C.map en)] z = .ok (.il (rs.map en)) z' ∧ (∀ c ∈ rs, WfC C c) ∧ rs.length ≤ 6 := by
  obtain ⟨k, z1, e1, k0, k1⟩ := draw_sm z 6 (by decide) (by decide)
  have hmax : ∀ n : Nat, (if 1 < (n : Int) then (n : Int) else 1) = max 1 (n : Int) := fun n => by split <;> omega
  obtain ⟨S', z2, e2, rs, x3, x4, rfl, hn, hw⟩ := turns_ind (g := gN 3) (body := b__law_roots_1) (fun i S _ => ∃ (rs : List Cl) (x3 x4 : Sv), S = [.s, .b (.il (C.map en)), .o (.il (rs.map en)), x3, x4] ∧ rs.length ≤ i ∧ ∀ c ∈ rs, WfC C c) (ts := rngI 0 k.toNat) (n := 0) (S := [.s, .b (.il (C.map en)), .o (.il []), .un, .un]) (z := z1)
    (fun i t S z e ⟨rs, x3, x4, eS, hn, hw⟩ => by
      subst eS
      obtain ⟨hia, rfl⟩ := rngI_get e
      have hr : rs.length < 16777216 := by omega
      obtain ⟨a, w1, f1, a0, a1⟩ := draw_sm z (max 1 (C.length : Int)) (by omega) (by omega)
      obtain ⟨b, w2, f2, b0, b1⟩ := draw_sm w1 6 (by decide) (by decide)
      have app : ∀ c, WfC C c → ∀ d ∈ rs ++ [c], WfC C d := fun c hc d hd => by
        rcases List.mem_append.mp hd with q | q
        · exact hw d q
        · simp at q; subst q; exact hc
      refine ⟨[.s, .b (.il (C.map en)), .o (.il (rs.map en)), .o (.im (.int (0 + i))), x4], by simp, ?_⟩
      by_cases c0 : b = 0
      · obtain ⟨j, w3, c, f3, f4⟩ := sgn_ok (s := "ab") (n := 2) w2 (by decide) (by decide) (by decide +kernel)
        simp at f3
        exact ⟨[.s, .b (.il (C.map en)), .o (.il ((rs ++ [Cl.sym ⟨#[c]⟩ 0]).map en)), .o (.im (.int (0 + i))), .o (.im (.int a))], w3, .inl (by simp [b__law_roots_1, hmax, f1, f2, f3, f4, c0, en, hr]), _, _, _, rfl, by simp; omega, app (.sym ⟨#[c]⟩ 0) trivial⟩
      obtain ⟨a, rfl⟩ := Int.eq_ofNat_of_zero_le a0
      have last : ∀ w, (¬ (a : Int) < C.length ∨ True) → ∃ v w', m__law_draw [.im (.int 9)] w = .ok (.im (.int v)) w' := fun w _ => let ⟨v, w', e, _⟩ := draw_sm w 9 (by decide) (by decide); ⟨v, w', e⟩
      by_cases c1 : a < C.length
      · have ec := List.getElem?_eq_getElem c1
        have ea := atC ec
        cases cs : symb C[a] with
        | true =>
          refine ⟨[.s, .b (.il (C.map en)), .o (.il ((rs ++ [Cl.str a]).map en)), .o (.im (.int (0 + i))), .o (.im (.int (a : Int)))], w2, .inl (by simp [b__law_roots_1, hmax, f1, f2, c0, c1, ea, symb_eq, cs, hr]; simp [en]), _, _, _, rfl, by simp; omega, app (.str a) ?_⟩
          show ∃ s b, C[a]? = some (Cl.sym s b) ∧ 0 < b
          rw [ec]
          cases q : C[a] with
          | sym s b => rw [q] at cs; simp [symb] at cs; exact ⟨s, b, rfl, cs⟩
          | _ => rw [q] at cs; simp [symb] at cs
        | false =>
          obtain ⟨g, w3, f3, g0, g1⟩ := draw_sm w2 4 (by decide) (by decide)
          by_cases c2 : 0 < g
          · refine ⟨[.s, .b (.il (C.map en)), .o (.il ((rs ++ [Cl.ref a]).map en)), .o (.im (.int (0 + i))), .o (.im (.int (a : Int)))], w3, .inl (by simp [b__law_roots_1, hmax, f1, f2, f3, c0, c1, c2, ea, symb_eq, cs, hr]; simp [en]), _, _, _, rfl, by simp; omega, app (.ref a) ⟨_, ec, symb_non.mp cs⟩⟩
          · obtain ⟨v, w4, f4⟩ := last w3 (.inr trivial)
            exact ⟨[.s, .b (.il (C.map en)), .o (.il ((rs ++ [Cl.num v]).map en)), .o (.im (.int (0 + i))), .o (.im (.int (a : Int)))], w4, .inl (by simp [b__law_roots_1, hmax, f1, f2, f3, f4, c0, c1, c2, ea, symb_eq, cs, hr]; simp [en]), _, _, _, rfl, by simp; omega, app (.num v) trivial⟩
      · obtain ⟨v, w4, f4⟩ := last w2 (.inr trivial)
        exact ⟨[.s, .b (.il (C.map en)), .o (.il ((rs ++ [Cl.num v]).map en)), .o (.im (.int (0 + i))), .o (.im (.int (a : Int)))], w4, .inl (by simp [b__law_roots_1, hmax, f1, f2, f4, c0, c1, hr]; simp [en]), _, _, _, rfl, by simp; omega, app (.num v) trivial⟩)
    ⟨[], .un, .un, rfl, by simp, by simp⟩
  rw [rngI_length] at hn
  exact ⟨rs, z2, by simp [m__law_roots, runZ, c__law_roots, e1, MM.inR_of (i := k) (by omega) (by omega), e2, -sTurns], hw, by omega⟩
theorem dep_en (c : Cl) : (en c).dep ≤ 1 := by cases c <;> simp [en]
theorem dep_ens (C : List Cl) : depS (C.map en) ≤ 63 := Nat.le_trans (depS_le fun t ht => by
  obtain ⟨c, _, rfl⟩ := List.mem_map.mp ht
  exact dep_en c) (by decide)
theorem dep_is (l : List Int) : depS (l.map .int) ≤ 63 := depS_le fun t ht => by
  obtain ⟨p, _, rfl⟩ := List.mem_map.mp ht
  simp
end Law

namespace Law
open PySem PySem.Spec PyProof.Rows L2 MM
/-! the new heap of slide -/
def ix : List Nat → Nat → Nat
  | [], _ => 0
  | a :: L, i => if a = i then 0 else ix L i + 1
theorem ix_mem : ∀ {L : List Nat} {i : Nat}, i ∈ L → L[ix L i]? = some i
  | [], i, h => by simp at h
  | a :: L, i, h => by
    unfold ix
    by_cases c : a = i
    · subst c; simp
    · rw [if_neg c]
      have : i ∈ L := by
        rcases List.mem_cons.mp h with q | q
        · exact absurd q.symm c
        · exact q
      simpa using ix_mem this
theorem ix_at : ∀ {L : List Nat} {p v : Nat}, L.Nodup → L[p]? = some v → ix L v = p
  | [], p, v, _, e => by simp at e
  | a :: L, p, v, nd, e => by
    have nd' := List.nodup_cons.mp nd
    cases p with
    | zero => simp at e; subst e; simp [ix]
    | succ p =>
      have e' : L[p]? = some v := by simpa using e
      have : a ≠ v := fun c => nd'.1 (by rw [c]; exact List.mem_of_getElem? e')
      unfold ix
      rw [if_neg this, ix_at nd'.2 e']
theorem inc {L : List Nat} (sl : L.Pairwise (· < ·)) {i j a b : Nat} (e1 : L[i]? = some a) (e2 : L[j]? = some b) (h : i < j) : a < b := by
  obtain ⟨l1, r1⟩ := List.getElem?_eq_some_iff.mp e1
  obtain ⟨l2, r2⟩ := List.getElem?_eq_some_iff.mp e2
  have := List.pairwise_iff_getElem.mp sl i j l1 l2 h
  omega
theorem run {L : List Nat} (sl : L.Pairwise (· < ·)) {p v : Nat} (e : L[p]? = some v) : ∀ (k : Nat), (∀ m, 1 ≤ m → m ≤ k → v + m ∈ L) → L[p + k]? = some (v + k)
  | 0, _ => e
  | k + 1, h => by
    have e1 := run sl e k fun m m1 m2 => h m m1 (by omega)
    obtain ⟨q, hq⟩ := List.getElem?_of_mem (h (k + 1) (by omega) (Nat.le_refl _))
    have l0 : p + k < q := by
      rcases Nat.lt_or_ge (p + k) q with c | c
      · exact c
      · rcases Nat.lt_or_ge q (p + k) with c2 | c2
        · have := inc sl hq e1 c2; omega
        · have : q = p + k := by omega
          subst this
          rw [e1] at hq
          injection hq with hq
          omega
    have lq := (List.getElem?_eq_some_iff.mp hq).1
    have e2 : L[p + (k + 1)]? = some L[p + (k + 1)] := List.getElem?_eq_getElem (by omega)
    have a1 := inc sl e1 e2 (by omega)
    rcases Nat.lt_or_ge (p + (k + 1)) q with c | c
    · have a2 := inc sl e2 hq c; omega
    · have : q = p + (k + 1) := by omega
      rw [← this]; exact hq
def mvd (L : List Nat) : Cl → Cl
  | .ref i => .ref (ix L i)
  | .str i => .str (ix L i)
  | c => c
theorem mvd_non {L : List Nat} {c : Cl} (h : nonsym c) : nonsym (mvd L c) := by
  intro s a e
  cases c with
  | sym t b => cases e; exact h _ _ rfl
  | _ => cases e
def nw (C : List Cl) (L : List Nat) : List Cl := L.map fun i => mvd L (C.getD i (.num 0))
theorem nw_len (C : List Cl) (L : List Nat) : (nw C L).length = L.length := by simp [nw]
theorem nw_get {C : List Cl} {L : List Nat} {p v : Nat} {c : Cl} (e : L[p]? = some v) (ec : C[v]? = some c) : (nw C L)[p]? = some (mvd L c) := by
  unfold nw
  rw [List.getElem?_map, e]
  simp [List.getD_eq_getElem?_getD, ec]
section
variable {C rs : List Cl} {L : List Nat}
theorem nw_inv (hC : HeapOk C) (hw : ∀ c ∈ rs, WfC C c) (hL : ∀ i, i ∈ L ↔ Rch C rs i) {p : Nat} {d : Cl} (e : (nw C L)[p]? = some d) : ∃ v c, L[p]? = some v ∧ C[v]? = some c ∧ d = mvd L c := by
  unfold nw at e
  rw [List.getElem?_map] at e
  cases q : L[p]? with
  | none => rw [q] at e; cases e
  | some v =>
    rw [q] at e
    have lt := rch_lt hC hw ((hL v).mp (List.mem_of_getElem? q))
    have ec := List.getElem?_eq_getElem lt
    refine ⟨v, _, rfl, ec, ?_⟩
    simp only [Option.map_some, Option.some.injEq, List.getD_eq_getElem?_getD, ec, Option.getD_some] at e
    exact e.symm
theorem after (hL : ∀ i, i ∈ L ↔ Rch C rs i) (sl : L.Pairwise (· < ·)) {p v : Nat} (e : L[p]? = some v) {s : Str} {a : Nat} (ec : C[v]? = some (Cl.sym s a)) {k : Nat} (hk : k ≤ a) : L[p + k]? = some (v + k) :=
  run sl e k fun m m1 m2 => (hL _).mpr (.go ((hL v).mp (List.mem_of_getElem? e)) (by
    rw [succ_sym ec]
    exact List.mem_map.mpr ⟨m - 1, List.mem_range.mpr (by omega), by omega⟩))
theorem nw_ref (hL : ∀ i, i ∈ L ↔ Rch C rs i) {i : Nat} (r : Rch C rs i) (h : ∃ c, C[i]? = some c ∧ nonsym c) : ∃ c, (nw C L)[ix L i]? = some c ∧ nonsym c := by
  obtain ⟨c, e, n⟩ := h
  exact ⟨_, nw_get (ix_mem ((hL i).mpr r)) e, mvd_non n⟩
theorem nw_str (hL : ∀ i, i ∈ L ↔ Rch C rs i) {i : Nat} (r : Rch C rs i) (h : ∃ s a, C[i]? = some (Cl.sym s a) ∧ 0 < a) : ∃ s a, (nw C L)[ix L i]? = some (Cl.sym s a) ∧ 0 < a := by
  obtain ⟨s, a, e, n⟩ := h
  exact ⟨s, a, nw_get (ix_mem ((hL i).mpr r)) e, n⟩
theorem nw_heap (hC : HeapOk C) (hw : ∀ c ∈ rs, WfC C c) (hL : ∀ i, i ∈ L ↔ Rch C rs i) (sl : L.Pairwise (· < ·)) : HeapOk (nw C L) := by
  refine ⟨fun p s a e k k1 k2 => ?_, fun p j e => ?_, fun p j e => ?_, fun p d e => ?_⟩
  · obtain ⟨v, c, ev, ec, ed⟩ := nw_inv hC hw hL e
    cases c with
    | sym t b =>
      cases ed
      obtain ⟨c', ec', n⟩ := hC.sy v _ _ ec k k1 k2
      exact ⟨_, nw_get (after hL sl ev ec k2) ec', mvd_non n⟩
    | _ => cases ed
  · obtain ⟨v, c, ev, ec, ed⟩ := nw_inv hC hw hL e
    have rv := (hL v).mp (List.mem_of_getElem? ev)
    cases c with
    | ref i =>
      cases ed
      have h := hC.rf v i ec
      exact nw_ref hL (.go rv (by simp [succ, ec])) h
    | _ => cases ed
  · obtain ⟨v, c, ev, ec, ed⟩ := nw_inv hC hw hL e
    have rv := (hL v).mp (List.mem_of_getElem? ev)
    cases c with
    | str i =>
      cases ed
      have h := hC.st v i ec
      exact nw_str hL (.go rv (by simp [succ, ec])) h
    | _ => cases ed
  · obtain ⟨v, c, ev, ec, ed⟩ := nw_inv hC hw hL e
    cases c with
    | later i => exact hC.la v i ec
    | _ => cases ed
theorem nw_wf (hw : ∀ c ∈ rs, WfC C c) (hL : ∀ i, i ∈ L ↔ Rch C rs i) : ∀ c ∈ rs.map (mvd L), WfC (nw C L) c := by
  intro d hd
  obtain ⟨c, hc, rfl⟩ := List.mem_map.mp hd
  have w := hw c hc
  cases c with
  | num n => trivial
  | sym s a => trivial
  | ref i => exact nw_ref hL (.root hc rfl) w
  | str i => exact nw_str hL (.root hc rfl) w
  | later d => exact w.elim
theorem nw_rch (hC : HeapOk C) (hw : ∀ c ∈ rs, WfC C c) (hL : ∀ i, i ∈ L ↔ Rch C rs i) (sl : L.Pairwise (· < ·)) {i : Nat} (r : Rch C rs i) : Rch (nw C L) (rs.map (mvd L)) (ix L i) := by
  have nd : L.Nodup := sl.imp fun h => Nat.ne_of_lt h
  induction r with
  | @root c i hc e =>
    refine .root (List.mem_map.mpr ⟨c, hc, rfl⟩) ?_
    cases c with
    | ref k => cases e; rfl
    | str k => cases e; rfl
    | _ => cases e
  | @go i j r hj ih =>
    refine .go ih ?_
    have ei := ix_mem ((hL i).mpr r)
    unfold succ at hj
    split at hj
    · rename_i s a ec
      obtain ⟨m, hm, rfl⟩ := List.mem_map.mp hj
      rw [List.mem_range] at hm
      rw [succ_sym (nw_get ei ec : (nw C L)[ix L i]? = some (Cl.sym s a))]
      have := after hL sl ei ec (k := m + 1) (by omega)
      rw [show i + 1 + m = i + (m + 1) by omega, ix_at nd this]
      exact List.mem_map.mpr ⟨m, List.mem_range.mpr hm, by omega⟩
    · rename_i k ec
      simp at hj; subst hj
      simp [succ, nw_get ei ec, mvd]
    · rename_i k ec
      simp at hj; subst hj
      simp [succ, nw_get ei ec, mvd]
    · simp at hj
theorem nw_all (hC : HeapOk C) (hw : ∀ c ∈ rs, WfC C c) (hL : ∀ i, i ∈ L ↔ Rch C rs i) (sl : L.Pairwise (· < ·)) (p : Nat) : p ∈ List.range L.length ↔ Rch (nw C L) (rs.map (mvd L)) p := by
  have nd : L.Nodup := sl.imp fun h => Nat.ne_of_lt h
  rw [List.mem_range]
  constructor
  · intro h
    have e := List.getElem?_eq_getElem h
    have := nw_rch hC hw hL sl ((hL _).mp (List.mem_of_getElem? e))
    rwa [ix_at nd e] at this
  · intro r
    have := rch_lt (nw_heap hC hw hL sl) (nw_wf hw hL) r
    rwa [nw_len] at this
theorem ix_range {n j : Nat} (h : j < n) : ix (List.range n) j = j := ix_at List.nodup_range (by simp [h])
theorem mvd_range {D : List Cl} {d : Cl} (h : WfC D d) : mvd (List.range D.length) d = d := by
  cases d with
  | ref i =>
    obtain ⟨c, e, _⟩ := h
    show Cl.ref _ = _
    rw [ix_range (List.getElem?_eq_some_iff.mp e).1]
  | str i =>
    obtain ⟨_, _, e, _⟩ := h
    show Cl.str _ = _
    rw [ix_range (List.getElem?_eq_some_iff.mp e).1]
  | _ => rfl
theorem nw_range {D : List Cl} (h : HeapOk D) : nw D (List.range D.length) = D := by
  apply List.ext_getElem?
  intro p
  by_cases c : p < D.length
  · have e := List.getElem?_eq_getElem c
    rw [nw_get (v := p) (by simp [c]) e, mvd_range (h.wf e), e]
  · rw [List.getElem?_eq_none (by rw [nw_len]; simp; omega), List.getElem?_eq_none (by omega)]
theorem rs_range {D rs : List Cl} (h : ∀ c ∈ rs, WfC D c) : rs.map (mvd (List.range D.length)) = rs := by
  conv => rhs; rw [← List.map_id rs]
  exact List.map_congr_left fun c hc => mvd_range (h c hc)
end
end Law

namespace Law
open PySem PySem.Spec PyProof.Rows L2 MM
def plO : Nat → List Nat → List (Key × T)
  | _, [] => []
  | o, i :: L => (.inl (i : Int), .int (o : Int)) :: plO (o + 1) L
theorem plO_len : ∀ (L : List Nat) (o : Nat), (plO o L).length = L.length
  | [], _ => rfl
  | i :: L, o => by simp [plO, plO_len L (o + 1)]
theorem plO_look : ∀ (L : List Nat) (o i : Nat), look (plO o L) (.inl (i : Int)) = if i ∈ L then some (.int ((o + ix L i : Nat) : Int)) else none
  | [], o, i => by simp [plO, look_nil]
  | a :: L, o, i => by
    rw [plO, look_cons, plO_look L (o + 1) i]
    by_cases c : a = i
    · subst c; simp [ix]
    · have h1 : ¬ (Sum.inl (a : Int) : Key) = .inl (i : Int) := fun h => c (by injection h with h; omega)
      rw [if_neg h1]
      have hx : ix (a :: L) i = ix L i + 1 := by simp [ix, c]
      rw [hx]
      have : i ∈ a :: L ↔ i ∈ L := by simp [show ¬ i = a from fun h => c h.symm]
      simp only [this]
      split
      · congr 2; omega
      · rfl
theorem dc_ok {i j : Nat} {S0 : List Sv} (hi : i < S0.length) (hj : j < S0.length) (hn : i ≠ j) (z : Zs) : ∀ (L : List Nat) (o : Nat) (acc : List (Key × T)), L.Nodup → (∀ x ∈ L, look acc (.inl (x : Int)) = none) → acc.length + L.length ≤ 10000 →
    dcT2 i j tYs (eV j) (eV i) S0 (((L.map fun (n : Nat) => T.int (n : Int)).zipIdx o).map fun p => .tup [.int p.2, p.1]) acc z = .ok (.dk (acc ++ plO o L)) z
  | [], o, acc, _, _, _ => by simp [dcT2, plO]
  | a :: L, o, acc, nd, na, hl => by
    simp only [List.length_cons] at hl
    have nd' := List.nodup_cons.mp nd
    have la := na a (by simp)
    have pt : putT acc (.inl (a : Int)) (.int (o : Int)) = acc ++ [(.inl (a : Int), .int (o : Int))] := putT_new la
    have ih := dc_ok hi hj hn z L (o + 1) (acc ++ [(.inl (a : Int), .int (o : Int))]) nd'.2 (fun x hx => by
      rw [look_append, na x (by simp [hx])]
      have : ¬ (Sum.inl (a : Int) : Key) = .inl (x : Int) := fun h => nd'.1 (by injection h with h; rw [show a = x by omega]; exact hx)
      simp [look_cons, look_nil, this]) (by simp; omega)
    simp only [List.map_cons, List.zipIdx_cons, dcT2]
    rw [if_pos ⟨hi, hj, hn⟩]
    simp only [tYs, eV]
    have g1 : ((S0.set i (.o (.im (.int (o : Int))))).set j (.o (.im (.int (a : Int)))))[j]? = some (.o (.im (.int (a : Int)))) := by simp [hj]
    have g2 : ((S0.set i (.o (.im (.int (o : Int))))).set j (.o (.im (.int (a : Int)))))[i]? = some (.o (.im (.int (o : Int)))) := by
      rw [List.getElem?_set_ne (Ne.symm hn)]; simp [hi]
    rw [g1, g2]
    simp only [T.key?, pt]
    rw [if_pos (by rw [sizeLine_eq]; omega), ih]
    simp [plO]
theorem pl_ok {i j : Nat} {S0 : List Sv} (hi : i < S0.length) (hj : j < S0.length) (hn : i ≠ j) (z : Zs) {L : List Nat} (nd : L.Nodup) (hl : L.length ≤ 10000) : dcT2 i j tYs (eV j) (eV i) S0 (enumT (L.map fun (n : Nat) => T.int (n : Int))) [] z = .ok (.dk (plO 0 L)) z :=
  dc_ok hi hj hn z L 0 [] nd (fun x _ => rfl) (by simpa using hl)
theorem moved_ok {C : List Cl} {L : List Nat} {c : Cl} (w : WfC C c) (h : ∀ i, tgt c = some i → i ∈ L) : m_moved [.im (en c), .dk (plO 0 L)] = .ok (.im (en (mvd L c))) z0 := by
  cases c with
  | num n => simp [m_moved, runP, c_moved, en, mvd]
  | sym s a => simp [m_moved, runP, c_moved, en, mvd]
  | later d => exact w.elim
  | ref i =>
    have lk := plO_look L 0 i
    rw [if_pos (h i rfl)] at lk
    simp [m_moved, runP, c_moved, en, mvd, T.key?, lk]
  | str i =>
    have lk := plO_look L 0 i
    rw [if_pos (h i rfl)] at lk
    simp [m_moved, runP, c_moved, en, mvd, T.key?, lk]
theorem lmoved_ok {C : List Cl} {L : List Nat} {c : Cl} (w : WfC C c) (h : ∀ i, tgt c = some i → i ∈ L) : m__law_moved [.im (en c), .dk (plO 0 L)] = .ok (.im (en (mvd L c))) z0 := by
  cases c with
  | num n => simp [m__law_moved, runP, c__law_moved, en, mvd]
  | sym s a => simp [m__law_moved, runP, c__law_moved, en, mvd]
  | later d => exact w.elim
  | ref i =>
    have lk := plO_look L 0 i
    rw [if_pos (h i rfl)] at lk
    simp [m__law_moved, runP, c__law_moved, en, mvd, T.key?, lk]
  | str i =>
    have lk := plO_look L 0 i
    rw [if_pos (h i rfl)] at lk
    simp [m__law_moved, runP, c__law_moved, en, mvd, T.key?, lk]
section
variable {C rs : List Cl} {L : List Nat}
theorem tg_heap (hC : HeapOk C) (hL : ∀ i, i ∈ L ↔ Rch C rs i) {v : Nat} {c : Cl} (hv : v ∈ L) (ec : C[v]? = some c) : ∀ i, tgt c = some i → i ∈ L := by
  intro i e
  refine (hL i).mpr (.go ((hL v).mp hv) ?_)
  cases c with
  | ref k => cases e; simp [succ, ec]
  | str k => cases e; simp [succ, ec]
  | _ => cases e
theorem slide_ok (hC : HeapOk C) (hw : ∀ c ∈ rs, WfC C c) (hl : C.length ≤ 4000) (hr : rs.length ≤ 6) (sl : L.Pairwise (· < ·)) (hL : ∀ i, i ∈ L ↔ Rch C rs i) :
    m_slide [.il (C.map en), .il (rs.map en)] = .ok (.tup [.il ((nw C L).map en), .il ((rs.map (mvd L)).map en), .dk (plO 0 L)]) z0 := by
  obtain ⟨M, e1, nd, hm⟩ := reach_ok hC hw (by omega) (by omega)
  have nL : L.Nodup := sl.imp fun h => Nat.ne_of_lt h
  have e := same_list nd sl fun i => by rw [hm, hL]
  rw [e, List.map_map] at e1
  have ec : (T.int ∘ fun (i : Nat) => (i : Int)) = fun (i : Nat) => T.int (i : Int) := rfl
  rw [ec] at e1
  have lL : L.length ≤ 4000 := Nat.le_trans (nod_len nL fun i hi => rch_lt hC hw ((hL i).mp hi)) hl
  have e2 := pl_ok (i := 4) (j := 5) (S0 := wipS2 4 5 [.b (.il (C.map en)), .b (.il (rs.map en)), .o (.im (.ls (L.map fun (n : Nat) => T.int (n : Int)))), .un, .un, .un, .un]) (by simp [wipS2]) (by simp [wipS2]) (by decide) z0 nL (by omega)
  have e3 := lc_mapF (j := 5) (m := e_slide_2) (S0 := wipS 5 [.b (.il (C.map en)), .b (.il (rs.map en)), .o (.im (.ls (L.map fun (n : Nat) => T.int (n : Int)))), .o (.dk (plO 0 L)), .un, .un, .un]) (by simp [wipS]) (fun (n : Nat) => T.int (n : Int)) (fun v => en (mvd L (C.getD v (.num 0)))) z0 (ts := L) (acc := []) (fun v hv => by
    have lt := rch_lt hC hw ((hL v).mp hv)
    have ec := List.getElem?_eq_getElem lt
    have ea := atC ec
    have em := moved_ok (hC.wf ec) (tg_heap hC hL hv ec)
    simp [wipS, e_slide_2, ea, em, List.getD_eq_getElem?_getD, ec]) (by simp; omega)
  have e4 := lc_mapF (j := 6) (m := e_slide_3) (S0 := wipS 6 [.b (.il (C.map en)), .b (.il (rs.map en)), .o (.im (.ls (L.map fun (n : Nat) => T.int (n : Int)))), .o (.dk (plO 0 L)), .un, .un, .un]) (by simp [wipS]) en (fun c => en (mvd L c)) z0 (ts := rs) (acc := []) (fun c hc => by
    have em := moved_ok (L := L) (hw c hc) (fun i e => (hL i).mpr (.root hc e))
    simp [wipS, e_slide_3, em]) (by simp; omega)
  rw [List.nil_append] at e3 e4
  have n1 : L.map (fun v => en (mvd L (C.getD v (.num 0)))) = (nw C L).map en := by simp [nw]
  have n2 : rs.map (fun c => en (mvd L c)) = (rs.map (mvd L)).map en := by simp
  rw [n1] at e3
  rw [n2] at e4
  generalize (nw C L).map en = A at *
  generalize (rs.map (mvd L)).map en = B at *
  simp [m_slide, runP, c_slide, e_slide_1, e1, e2, e3, e4]
end
end Law

namespace Law
open PySem PySem.Spec PyProof.Rows L2 MM
theorem plO_snoc : ∀ (L : List Nat) (o a : Nat), plO o (L ++ [a]) = plO o L ++ [(.inl (a : Int), .int ((o + L.length : Nat) : Int))]
  | [], o, a => by simp [plO]
  | i :: L, o, a => by
    rw [List.cons_append, plO, plO, plO_snoc L (o + 1) a, List.cons_append, List.length_cons, show o + (L.length + 1) = o + 1 + L.length by omega]
theorem plO_mem : ∀ {L : List Nat} {o : Nat}, L.Nodup → ∀ p ∈ plO o L, ∃ i ∈ L, p = (.inl (i : Int), .int ((o + ix L i : Nat) : Int))
  | [], o, _, p, h => by simp [plO] at h
  | a :: L, o, nd, p, h => by
    have nd' := List.nodup_cons.mp nd
    rw [plO] at h
    rcases List.mem_cons.mp h with rfl | h
    · exact ⟨a, by simp, by simp [ix]⟩
    · obtain ⟨i, hi, rfl⟩ := plO_mem nd'.2 p h
      have c : ¬ a = i := fun e => nd'.1 (e ▸ hi)
      have hx : ix (a :: L) i = ix L i + 1 := by simp [ix, c]
      exact ⟨i, by simp [hi], by rw [hx, show o + (ix L i + 1) = o + 1 + ix L i by omega]⟩
theorem deq_pl {L : List Nat} (nd : L.Nodup) : deq (plO 0 L) (plO 0 L) = true := by
  unfold deq
  rw [Bool.and_eq_true]
  refine ⟨by simp, List.all_eq_true.mpr fun p hp => ?_⟩
  obtain ⟨i, hi, rfl⟩ := plO_mem nd p hp
  have lk := plO_look L 0 i
  rw [if_pos hi] at lk
  simp only [lk, teq, decide_true]
theorem dep_list {ds : List PyData} {n : Nat} (h : PyData.depthAll ds ≤ n) : (PyData.list ds).depth ≤ n + 1 := by
  simp [PyData.depth]; omega
theorem veq_il {A : List T} (h : depS A ≤ 50) : veq (.il A) (.il A) = true := by
  have hd : (PyData.list (T.pys A)).depth ≤ 51 := dep_list h
  have he : PyData.eqv (.list (T.pys A)) (.list (T.pys A)) = true := by
    simp only [PyData.eqv, eqvs_py]
    exact eqvs_self A
  unfold veq
  simp only [Val.flat, he, Bool.and_true, decide_eq_true_eq]
  omega
theorem eqI_tup {n : Bool} {A B : List T} {K : List (Key × T)} (hA : depS A ≤ 50) (hB : depS B ≤ 50) (hK : deq K K = true) : oEqI n (.tup [.il A, .il B, .dk K]) (.tup [.il A, .il B, .dk K]) = some (.im (.bl (!n))) := by
  have hk : veq (.dk K) (.dk K) = true := hK
  simp [oEqI, veqs, veq_il hA, veq_il hB, hk]
theorem eqI_dk {n : Bool} {K : List (Key × T)} (hK : deq K K = true) : oEqI n (.dk K) (.dk K) = some (.im (.bl (!n))) := by
  simp [oEqI, hK]
theorem loop1 (c2 c3 c4 c5 c6 : Sv) (z : Zs) {L : List Nat} (nd : L.Nodup) (hl : L.length ≤ 4000) : ∀ (L2 L1 : List Nat) (x9 : Sv), L = L1 ++ L2 →
    ∃ x9', sTurns (gN 9) b_law_1 ((List.range L2.length).map fun (k : Nat) => T.int ((L1.length + k : Nat) : Int)) [.un, .s, c2, c3, c4, c5, c6, .o (.il (L.map fun (n : Nat) => T.int (n : Int))), .o (.dk (plO 0 L1)), x9, .un, .un, .un, .un, .un, .un] z =
      .nx [.un, .s, c2, c3, c4, c5, c6, .o (.il (L.map fun (n : Nat) => T.int (n : Int))), .o (.dk (plO 0 L)), x9', .un, .un, .un, .un, .un, .un] z
  | [], L1, x9, e => ⟨x9, by rw [e, List.append_nil]; rfl⟩
  | a :: L2, L1, x9, e => by
    obtain ⟨x9', ih⟩ := loop1 c2 c3 c4 c5 c6 z nd hl L2 (L1 ++ [a]) (.o (.im (.int (L1.length : Int)))) (by simp [e])
    refine ⟨x9', ?_⟩
    have er : (List.range (a :: L2).length).map (fun (k : Nat) => T.int ((L1.length + k : Nat) : Int)) = .int (L1.length : Int) :: (List.range L2.length).map fun (k : Nat) => T.int (((L1 ++ [a]).length + k : Nat) : Int) := by
      rw [List.length_cons, List.range_succ_eq_map, List.map_cons, List.map_map]
      refine congr (congrArg List.cons (by simp)) (List.map_congr_left fun k _ => ?_)
      simp only [Function.comp, List.length_append, List.length_singleton, Nat.succ_eq_add_one]
      congr 2; omega
    rw [er]
    have ea : atI (L.map fun (n : Nat) => T.int (n : Int)) (L1.length : Int) = some (.int (a : Int)) := by
      obtain ⟨t, q1, q2⟩ := atI_of (xs := L.map fun (n : Nat) => T.int (n : Int)) (i := (L1.length : Int)) (by omega) (by simp [e]; omega)
      rw [q1, ← q2]
      simp [e]
    have nk : a ∉ L1 := fun h => by
      rw [e] at nd
      exact (List.nodup_append.mp nd).2.2 a h a (by simp) rfl
    have lk := plO_look L1 0 a
    rw [if_neg nk] at lk
    have pt := putT_new (u := .int (L1.length : Int)) lk
    have ps := plO_snoc L1 0 a
    rw [Nat.zero_add] at ps
    rw [← ps] at pt
    have l1 : L1.length < 16777216 := by rw [e] at hl; simp at hl; omega
    have eg : gN 9 (.int (L1.length : Int)) [.un, .s, c2, c3, c4, c5, c6, .o (.il (L.map fun (n : Nat) => T.int (n : Int))), .o (.dk (plO 0 L1)), x9, .un, .un, .un, .un, .un, .un] = some [.un, .s, c2, c3, c4, c5, c6, .o (.il (L.map fun (n : Nat) => T.int (n : Int))), .o (.dk (plO 0 L1)), .o (.im (.int (L1.length : Int))), .un, .un, .un, .un, .un, .un] := rfl
    have e1 : b_law_1 [.un, .s, c2, c3, c4, c5, c6, .o (.il (L.map fun (n : Nat) => T.int (n : Int))), .o (.dk (plO 0 L1)), .o (.im (.int (L1.length : Int))), .un, .un, .un, .un, .un, .un] z = .nx [.un, .s, c2, c3, c4, c5, c6, .o (.il (L.map fun (n : Nat) => T.int (n : Int))), .o (.dk (plO 0 (L1 ++ [a]))), .o (.im (.int (L1.length : Int))), .un, .un, .un, .un, .un, .un] z := by
      simp [b_law_1, ea, T.key?, pt, plO_len, l1]
    simp only [sTurns, eg, e1]
    exact ih
theorem loop2 (c2 c3 c4 c5 c6 c7 c8 c9 c11 c12 : Sv) (z : Zs) (N : Nat) (hl : N ≤ 4000) : ∀ (k o : Nat) (x10 : Sv), o + k = N →
    ∃ x10', sTurns (gN 10) b_law_5 ((List.range k).map fun (k : Nat) => T.int ((o + k : Nat) : Int)) [.un, .s, c2, c3, c4, c5, c6, c7, c8, c9, x10, c11, c12, .o (.dk (plO 0 (List.range o))), .un, .un] z =
      .nx [.un, .s, c2, c3, c4, c5, c6, c7, c8, c9, x10', c11, c12, .o (.dk (plO 0 (List.range N))), .un, .un] z
  | 0, o, x10, e => ⟨x10, by rw [← e]; rfl⟩
  | k + 1, o, x10, e => by
    obtain ⟨x10', ih⟩ := loop2 c2 c3 c4 c5 c6 c7 c8 c9 c11 c12 z N hl k (o + 1) (.o (.im (.int (o : Int)))) (by omega)
    refine ⟨x10', ?_⟩
    have er : (List.range (k + 1)).map (fun (k : Nat) => T.int ((o + k : Nat) : Int)) = .int (o : Int) :: (List.range k).map fun (k : Nat) => T.int ((o + 1 + k : Nat) : Int) := by
      rw [List.range_succ_eq_map, List.map_cons, List.map_map]
      refine congr (congrArg List.cons (by simp)) (List.map_congr_left fun k _ => ?_)
      simp only [Function.comp, Nat.succ_eq_add_one]
      congr 2; omega
    rw [er]
    have lk := plO_look (List.range o) 0 o
    rw [if_neg (by simp)] at lk
    have pt := putT_new (u := .int (o : Int)) lk
    have ps := plO_snoc (List.range o) 0 o
    rw [Nat.zero_add, List.length_range, ← List.range_succ] at ps
    rw [← ps] at pt
    have eg : gN 10 (.int (o : Int)) [.un, .s, c2, c3, c4, c5, c6, c7, c8, c9, x10, c11, c12, .o (.dk (plO 0 (List.range o))), .un, .un] = some [.un, .s, c2, c3, c4, c5, c6, c7, c8, c9, .o (.im (.int (o : Int))), c11, c12, .o (.dk (plO 0 (List.range o))), .un, .un] := rfl
    have e1 : b_law_5 [.un, .s, c2, c3, c4, c5, c6, c7, c8, c9, .o (.im (.int (o : Int))), c11, c12, .o (.dk (plO 0 (List.range o))), .un, .un] z = .nx [.un, .s, c2, c3, c4, c5, c6, c7, c8, c9, .o (.im (.int (o : Int))), c11, c12, .o (.dk (plO 0 (List.range (o + 1)))), .un, .un] z := by
      simp [b_law_5, T.key?, pt, plO_len, show o < 16777216 by omega]
    simp only [sTurns, eg, e1]
    exact ih
end Law

namespace Law
open PySem PySem.Spec PyProof.Rows L2 MM
theorem dep_ens5 (C : List Cl) : depS (C.map en) ≤ 50 := Nat.le_trans (depS_le fun t ht => by
  obtain ⟨c, _, rfl⟩ := List.mem_map.mp ht
  exact dep_en c) (by decide)
theorem dep_mem : ∀ {ts : List T} {t : T}, t ∈ ts → t.dep ≤ depS ts
  | [], t, h => by simp at h
  | u :: ts, t, h => by
    simp only [depS_cons]
    rcases List.mem_cons.mp h with rfl | h
    · omega
    · have := dep_mem h; omega
theorem law_ok : lawOk 16 c_law := by
  intro z _ _ _ _
  obtain ⟨a, z1, e1, a0, a1⟩ := draw_sm z 16 (by decide) (by decide)
  obtain ⟨n, en', n0, n1⟩ : ∃ n : Int, (38 + 600 * if a = 0 then 1 else 0) = n ∧ 0 < n ∧ n < 1000 := ⟨_, rfl, by split <;> decide, by split <;> decide⟩
  obtain ⟨b, z2, e2, b0, b1⟩ := draw_sm z1 n n0 (by omega)
  obtain ⟨C, z3, e3, hC, h8, hl⟩ := cells_ok b z2
  obtain ⟨rs, z4, e4, hw, hr⟩ := roots_ok hl z3
  obtain ⟨L, e5, sl, hL⟩ := lreach_ok hC hw h8 (by omega) (by omega)
  have nL : L.Nodup := sl.imp fun h => Nat.ne_of_lt h
  have lL : L.length ≤ 4000 := Nat.le_trans (nod_len nL fun i hi => rch_lt hC hw ((hL i).mp hi)) hl
  have s1 := slide_ok hC hw hl hr sl hL
  have s2 := slide_ok (nw_heap hC hw hL sl) (nw_wf hw hL) (by rw [nw_len]; exact lL) (by simpa using hr) (L := List.range L.length) List.pairwise_lt_range (nw_all hC hw hL sl)
  have r1 : nw (nw C L) (List.range L.length) = nw C L := by
    have := nw_range (nw_heap hC hw hL sl)
    rwa [nw_len] at this
  have r2 : (rs.map (mvd L)).map (mvd (List.range L.length)) = rs.map (mvd L) := by
    have := rs_range (nw_wf hw hL)
    rwa [nw_len] at this
  rw [r1, r2] at s2
  rw [List.map_map] at e5
  have ec : (T.int ∘ fun (i : Nat) => (i : Int)) = fun (i : Nat) => T.int (i : Int) := rfl
  rw [ec] at e5
  have q1 := deq_pl nL
  have q2 := deq_pl (List.nodup_range (n := L.length))
  have l1 := plO_len L 0
  have k1 : ∀ t ∈ (plO 0 L).map (·.2), ∃ n, t = T.int n := fun t ht => by
    obtain ⟨p, hp, rfl⟩ := List.mem_map.mp ht
    obtain ⟨i, _, rfl⟩ := plO_mem nL p hp
    exact ⟨_, rfl⟩
  have d0 := dep_ens5 C
  have d1 := dep_ens5 rs
  have d2 := dep_ens5 (nw C L)
  have d3 := dep_ens5 (rs.map (mvd L))
  have t1 := eqI_tup (n := true) d2 d3 q2
  have t2 := eqI_tup (n := false) d2 d3 q1
  have t3 := eqI_dk (n := true) q1
  have h1 : ∀ (S0 : List Sv), 10 < S0.length → S0[2]? = some (.o (.il (C.map en))) → S0[8]? = some (.o (.dk (plO 0 L))) → lcT 10 tYs e_law_2 S0 (L.map fun (n : Nat) => T.int (n : Int)) [] z4 = .ok (.il ((nw C L).map en)) z4 := fun S0 hS g2 g8 => by
    have := lc_mapF (j := 10) (m := e_law_2) (S0 := S0) hS (fun (n : Nat) => T.int (n : Int)) (fun v => en (mvd L (C.getD v (.num 0)))) z4 (ts := L) (acc := []) (fun v hv => by
      have lt := rch_lt hC hw ((hL v).mp hv)
      have ec := List.getElem?_eq_getElem lt
      have ea := atC ec
      have em := lmoved_ok (hC.wf ec) (tg_heap hC hL hv ec)
      simp [e_law_2, ea, em, List.getD_eq_getElem?_getD, ec, g2, g8, hS]) (by simp; omega)
    rw [this, List.nil_append]
    simp [nw]
  have h2 : ∀ (m : ME) (S0 : List Sv), m = (eCall m__law_moved (aCons (eV 15) (aCons (eV 8) aNil))) → 15 < S0.length → S0[8]? = some (.o (.dk (plO 0 L))) → lcT 15 tYs m S0 (rs.map en) [] z4 = .ok (.il ((rs.map (mvd L)).map en)) z4 := fun m S0 em hS g8 => by
    have := lc_mapF (j := 15) (m := m) (S0 := S0) hS en (fun c => en (mvd L c)) z4 (ts := rs) (acc := []) (fun c hc => by
      have em' := lmoved_ok (L := L) (hw c hc) (fun i e => (hL i).mpr (.root hc e))
      simp [em, em', g8, hS]) (by simp; omega)
    rw [this, List.nil_append]
    simp
  have h3 : ∀ (S0 : List Sv), 9 < S0.length → lcT 9 tYs e_law_4 S0 ((plO 0 L).map (·.2)) [] z4 = .ok (.il (((plO 0 L).map (·.2)).map fun _ => T.bl false)) z4 := fun S0 hS => by
    have := lc_mapG (j := 9) (m := e_law_4) (S0 := S0) hS (fun _ => T.bl false) z4 (ts := (plO 0 L).map (·.2)) (acc := []) (fun t ht => by
      obtain ⟨n, rfl⟩ := k1 t ht
      simp [e_law_4, hS]) (by simp [l1]; omega)
    rw [this, List.nil_append]
  have h4 : bools? (((plO 0 L).map (·.2)).map fun _ => T.bl false) = some (((plO 0 L).map (·.2)).map fun _ => false) := bools_map (fun _ => false) _
  have h5 : (((plO 0 L).map (·.2)).map fun _ => false).any id = false := by simp
  have g1 := fun c2 c3 c4 c5 c6 z x9 => loop1 c2 c3 c4 c5 c6 z nL lL L [] x9 rfl
  have g2 := fun c2 c3 c4 c5 c6 c7 c8 c9 c11 c12 z x10 => loop2 c2 c3 c4 c5 c6 c7 c8 c9 c11 c12 z L.length lL L.length 0 x10 (by omega)
  have er : ((List.range L.length).map fun (k : Nat) => T.int ((([] : List Nat).length + k : Nat) : Int)) = rngI 0 L.length := by
    unfold rngI
    exact List.map_congr_left fun k _ => by simp
  have er2 : ((List.range L.length).map fun (k : Nat) => T.int ((0 + k : Nat) : Int)) = rngI 0 L.length := by
    unfold rngI
    exact List.map_congr_left fun k _ => by simp
  rw [er] at g1
  rw [er2] at g2
  have lA : ((nw C L).map en).length < 16777216 := by simp [nw_len]; omega
  have lB : ((rs.map (mvd L)).map en).length < 16777216 := by simp; omega
  have lP : (plO 0 L).length < 16777216 := by omega
  generalize (nw C L).map en = A at *
  generalize (rs.map (mvd L)).map en = B at *
  have p0 : plO 0 [] = [] := rfl
  rw [p0] at g1
  have p1 : plO 0 (List.range 0) = [] := rfl
  rw [p1] at g2
  generalize plO 0 (List.range L.length) = P2 at *
  generalize plO 0 L = P1 at *
  have hm : cMul 600 (if a = 0 then 1 else 0) = true := by split <;> decide
  obtain ⟨x9, g1⟩ := g1 (.o (.il (C.map en))) (.o (.il (rs.map en))) (.o (.il (C.map en))) (.o (.il (rs.map en))) (.o (.tup [.il A, .il B, .dk P1])) z4 .un
  refine ⟨z4, ?_⟩
  have d4 : depS (C.map en) ≤ 63 := by omega
  have d5 : depS (rs.map en) ≤ 63 := by omega
  have d6 : depS A ≤ 63 := by omega
  have d7 : depS B ≤ 63 := by omega
  simp [c_law, e1, hm, en', e2, e3, e4, e5, s1, d4, d5, eqvs_self, MM.inR_of (i := (L.length : Int)) (by omega) (by omega), g1, -sTurns, -r_law_13]
  have h2a := fun S0 => h2 e_law_3 S0 rfl
  have h2b := fun S0 => h2 e_law_6 S0 rfl
  obtain ⟨x10, g2⟩ := g2 (.o (.il (C.map en))) (.o (.il (rs.map en))) (.o (.il (C.map en))) (.o (.il (rs.map en))) (.o (.tup [.il A, .il B, .dk P1])) (.o (.il (L.map fun (n : Nat) => T.int (n : Int)))) (.o (.dk P1)) x9 (.o (.il A)) (.o (.tup [.il A, .il B, .dk P2])) z4 .un
  simp [t3, wipS, h1, h2a, d6, d7, eqvs_self, -sTurns, -r_law_11]
  have h4' : bools? (P1.map ((fun _ => T.bl false) ∘ fun x => x.2)) = some (P1.map fun _ => false) := by
    rw [← List.map_map, h4, List.map_map]; rfl
  simp [wipS, h3, h4', s2, MM.inR_of (i := (L.length : Int)) (by omega) (by omega), g2, t1, -sTurns, -r_law_8]
  have d8 : depS (A ++ [.int 3]) ≤ 63 := Nat.le_trans (depS_le (n := 63) fun t ht => by
    rcases List.mem_append.mp ht with q | q
    · exact Nat.le_trans (dep_mem q) d6
    · simp at q; subst q; simp) (Nat.le_refl _)
  have d9 : depS (B ++ [.int 3]) ≤ 63 := Nat.le_trans (depS_le (n := 63) fun t ht => by
    rcases List.mem_append.mp ht with q | q
    · exact Nat.le_trans (dep_mem q) d7
    · simp at q; subst q; simp) (Nat.le_refl _)
  simp [lA, lB, lP, d4, d5, eqvs_self, -sTurns, -r_law_7]
  simp [wipS, h2b, s1, t2, d6, d7, d8, d9, eqvs_self, show A.length ≤ 16777215 by omega, show B.length ≤ 16777215 by omega, -sTurns]
end Law

namespace Law
open PySem PySem.Spec PyProof.Rows L2 MM
/-! ### the top -/
theorem all_mk {l : PySem.W.OpenLaw} {w : World} {K : PySem.W.Frag} {h : Heap} {mg : Str → Option Value} {fa : Addr} (X : K.In h) (G : h.Ns mainGlobals mg) (hfa : mg "law" = some (.ref fa)) (hl : lawOk 16 c_law)
    {a1 : Addr} {od1 an1 : Option Addr} {sl1 : Array (Option Value)} {oc1 kV1 dc1 pm1 cd1 ct1 : Value}
    {a2 : Addr} {od2 an2 : Option Addr} {sl2 : Array (Option Value)} {oc2 kV2 dc2 pm2 cd2 ct2 : Value}
    {a3 : Addr} {od3 an3 : Option Addr} {sl3 : Array (Option Value)} {oc3 kV3 dc3 pm3 cd3 ct3 : Value}
    {a4 : Addr} {od4 an4 : Option Addr} {sl4 : Array (Option Value)} {oc4 kV4 dc4 pm4 cd4 ct4 : Value}
    {a5 : Addr} {od5 an5 : Option Addr} {sl5 : Array (Option Value)} {oc5 kV5 dc5 pm5 cd5 ct5 : Value}
    {a6 : Addr} {od6 an6 : Option Addr} {sl6 : Array (Option Value)} {oc6 kV6 dc6 pm6 cd6 ct6 : Value}
    {a7 : Addr} {od7 an7 : Option Addr} {sl7 : Array (Option Value)} {oc7 kV7 dc7 pm7 cd7 ct7 : Value}
    {a8 : Addr} {od8 an8 : Option Addr} {sl8 : Array (Option Value)} {oc8 kV8 dc8 pm8 cd8 ct8 : Value}
    {a9 : Addr} {od9 an9 : Option Addr} {sl9 : Array (Option Value)} {oc9 kV9 dc9 pm9 cd9 ct9 : Value}
    {a10 : Addr} {od10 an10 : Option Addr} {sl10 : Array (Option Value)} {oc10 kV10 dc10 pm10 cd10 ct10 : Value}
    {a11 : Addr} {od11 an11 : Option Addr} {sl11 : Array (Option Value)} {oc11 kV11 dc11 pm11 cd11 ct11 : Value}
    {a12 : Addr} {od12 an12 : Option Addr} {sl12 : Array (Option Value)} {oc12 kV12 dc12 pm12 cd12 ct12 : Value}
    {a13 : Addr} {od13 an13 : Option Addr} {sl13 : Array (Option Value)} {oc13 kV13 dc13 pm13 cd13 ct13 : Value}
    (a_1 : PySem.W.nsIn K mainGlobals "reachable" = some (some (.ref a1))) (l_1 : K.lookup a1 = some ⟨oc1, od1, .func (PySem.W.fnOf "reachable" "reachable" (defArgs s_reachable) (defBody s_reachable) (defScope s_reachable) .none kV1 dc1 pm1 an1 cd1 ct1), sl1⟩) (c_1 : PySem.W.codeIn K cd1 "reachable" = true) (k_1 : PySem.W.keepIn K (.ref a1) = true)
    (a_2 : PySem.W.nsIn K mainGlobals "moved" = some (some (.ref a2))) (l_2 : K.lookup a2 = some ⟨oc2, od2, .func (PySem.W.fnOf "moved" "moved" (defArgs s_moved) (defBody s_moved) (defScope s_moved) .none kV2 dc2 pm2 an2 cd2 ct2), sl2⟩) (c_2 : PySem.W.codeIn K cd2 "moved" = true) (k_2 : PySem.W.keepIn K (.ref a2) = true)
    (a_3 : PySem.W.nsIn K mainGlobals "slide" = some (some (.ref a3))) (l_3 : K.lookup a3 = some ⟨oc3, od3, .func (PySem.W.fnOf "slide" "slide" (defArgs s_slide) (defBody s_slide) (defScope s_slide) .none kV3 dc3 pm3 an3 cd3 ct3), sl3⟩) (c_3 : PySem.W.codeIn K cd3 "slide" = true) (k_3 : PySem.W.keepIn K (.ref a3) = true)
    (a_4 : PySem.W.nsIn K mainGlobals "_law_stream" = some (some (.ref a4))) (l_4 : K.lookup a4 = some ⟨oc4, od4, .func (PySem.W.fnOf "_law_stream" "_law_stream" (defArgs s__law_stream) (defBody s__law_stream) (defScope s__law_stream) .none kV4 dc4 pm4 an4 cd4 ct4), sl4⟩) (c_4 : PySem.W.codeIn K cd4 "_law_stream" = true) (k_4 : PySem.W.keepIn K (.ref a4) = true)
    (a_5 : PySem.W.nsIn K mainGlobals "_law_draw" = some (some (.ref a5))) (l_5 : K.lookup a5 = some ⟨oc5, od5, .func (PySem.W.fnOf "_law_draw" "_law_draw" (defArgs s__law_draw) (defBody s__law_draw) (defScope s__law_draw) .none kV5 dc5 pm5 an5 cd5 ct5), sl5⟩) (c_5 : PySem.W.codeIn K cd5 "_law_draw" = true) (k_5 : PySem.W.keepIn K (.ref a5) = true)
    (a_6 : PySem.W.nsIn K mainGlobals "_law_argument" = some (some (.ref a6))) (l_6 : K.lookup a6 = some ⟨oc6, od6, .func (PySem.W.fnOf "_law_argument" "_law_argument" (defArgs s__law_argument) (defBody s__law_argument) (defScope s__law_argument) .none kV6 dc6 pm6 an6 cd6 ct6), sl6⟩) (c_6 : PySem.W.codeIn K cd6 "_law_argument" = true) (k_6 : PySem.W.keepIn K (.ref a6) = true)
    (a_7 : PySem.W.nsIn K mainGlobals "_law_cells" = some (some (.ref a7))) (l_7 : K.lookup a7 = some ⟨oc7, od7, .func (PySem.W.fnOf "_law_cells" "_law_cells" (defArgs s__law_cells) (defBody s__law_cells) (defScope s__law_cells) .none kV7 dc7 pm7 an7 cd7 ct7), sl7⟩) (c_7 : PySem.W.codeIn K cd7 "_law_cells" = true) (k_7 : PySem.W.keepIn K (.ref a7) = true)
    (a_8 : PySem.W.nsIn K mainGlobals "_law_is_symbol" = some (some (.ref a8))) (l_8 : K.lookup a8 = some ⟨oc8, od8, .func (PySem.W.fnOf "_law_is_symbol" "_law_is_symbol" (defArgs s__law_is_symbol) (defBody s__law_is_symbol) (defScope s__law_is_symbol) .none kV8 dc8 pm8 an8 cd8 ct8), sl8⟩) (c_8 : PySem.W.codeIn K cd8 "_law_is_symbol" = true) (k_8 : PySem.W.keepIn K (.ref a8) = true)
    (a_9 : PySem.W.nsIn K mainGlobals "_law_settled" = some (some (.ref a9))) (l_9 : K.lookup a9 = some ⟨oc9, od9, .func (PySem.W.fnOf "_law_settled" "_law_settled" (defArgs s__law_settled) (defBody s__law_settled) (defScope s__law_settled) .none kV9 dc9 pm9 an9 cd9 ct9), sl9⟩) (c_9 : PySem.W.codeIn K cd9 "_law_settled" = true) (k_9 : PySem.W.keepIn K (.ref a9) = true)
    (a_10 : PySem.W.nsIn K mainGlobals "_law_roots" = some (some (.ref a10))) (l_10 : K.lookup a10 = some ⟨oc10, od10, .func (PySem.W.fnOf "_law_roots" "_law_roots" (defArgs s__law_roots) (defBody s__law_roots) (defScope s__law_roots) .none kV10 dc10 pm10 an10 cd10 ct10), sl10⟩) (c_10 : PySem.W.codeIn K cd10 "_law_roots" = true) (k_10 : PySem.W.keepIn K (.ref a10) = true)
    (a_11 : PySem.W.nsIn K mainGlobals "_law_reachable" = some (some (.ref a11))) (l_11 : K.lookup a11 = some ⟨oc11, od11, .func (PySem.W.fnOf "_law_reachable" "_law_reachable" (defArgs s__law_reachable) (defBody s__law_reachable) (defScope s__law_reachable) .none kV11 dc11 pm11 an11 cd11 ct11), sl11⟩) (c_11 : PySem.W.codeIn K cd11 "_law_reachable" = true) (k_11 : PySem.W.keepIn K (.ref a11) = true)
    (a_12 : PySem.W.nsIn K mainGlobals "_law_moved" = some (some (.ref a12))) (l_12 : K.lookup a12 = some ⟨oc12, od12, .func (PySem.W.fnOf "_law_moved" "_law_moved" (defArgs s__law_moved) (defBody s__law_moved) (defScope s__law_moved) .none kV12 dc12 pm12 an12 cd12 ct12), sl12⟩) (c_12 : PySem.W.codeIn K cd12 "_law_moved" = true) (k_12 : PySem.W.keepIn K (.ref a12) = true)
    (a_13 : PySem.W.nsIn K mainGlobals "law" = some (some (.ref a13))) (l_13 : K.lookup a13 = some ⟨oc13, od13, .func (PySem.W.fnOf "law" "law" (defArgs s_law) (defBody s_law) (defScope s_law) .none kV13 dc13 pm13 an13 cd13 ct13), sl13⟩) (c_13 : PySem.W.codeIn K cd13 "law" = true) (k_13 : PySem.W.keepIn K (.ref a13) = true)
    (n_1 : PySem.W.nsIn K mainGlobals "abs" = some none)
    (n_2 : PySem.W.nsIn K mainGlobals "any" = some none)
    (n_3 : PySem.W.nsIn K mainGlobals "bool" = some none)
    (n_4 : PySem.W.nsIn K mainGlobals "dict" = some none)
    (n_5 : PySem.W.nsIn K mainGlobals "enumerate" = some none)
    (n_6 : PySem.W.nsIn K mainGlobals "int" = some none)
    (n_7 : PySem.W.nsIn K mainGlobals "isinstance" = some none)
    (n_8 : PySem.W.nsIn K mainGlobals "len" = some none)
    (n_9 : PySem.W.nsIn K mainGlobals "list" = some none)
    (n_10 : PySem.W.nsIn K mainGlobals "max" = some none)
    (n_11 : PySem.W.nsIn K mainGlobals "range" = some none)
    (n_12 : PySem.W.nsIn K mainGlobals "sorted" = some none)
    (n_13 : PySem.W.nsIn K mainGlobals "tuple" = some none)
    : ∃ fd : FuncData, (∀ (s : Shared) (v : Value), BindsTo s fd ⟨[v], []⟩ [("script", v)]) ∧ ∀ base : Heap, K.In base → base.Ns mainGlobals mg → FnOk l.prog w K mg base (L2.CX l.prog w) 4 fa fd ["script"] (spLaw K) := by
  have e := hfa.symm.trans (PySem.W.mg_of X G a_13)
  cases e
  have F1 := fun_mk (st := s_reachable) l_1 c_1 k_1
  have b1 := F1.binds (ps := ["cells", "roots"]) fun _ _ _ _ _ _ us hl => match us, hl with | [_, _], _ => rfl
  have F2 := fun_mk (st := s_moved) l_2 c_2 k_2
  have b2 := F2.binds (ps := ["cell", "places"]) fun _ _ _ _ _ _ us hl => match us, hl with | [_, _], _ => rfl
  have F3 := fun_mk (st := s_slide) l_3 c_3 k_3
  have b3 := F3.binds (ps := ["cells", "roots"]) fun _ _ _ _ _ _ us hl => match us, hl with | [_, _], _ => rfl
  have F4 := fun_mk (st := s__law_stream) l_4 c_4 k_4
  have b4 := F4.binds (ps := ["script"]) fun _ _ _ _ _ _ us hl => match us, hl with | [_], _ => rfl
  have F5 := fun_mk (st := s__law_draw) l_5 c_5 k_5
  have b5 := F5.binds (ps := ["stream", "many"]) fun _ _ _ _ _ _ us hl => match us, hl with | [_, _], _ => rfl
  have F6 := fun_mk (st := s__law_argument) l_6 c_6 k_6
  have b6 := F6.binds (ps := ["stream"]) fun _ _ _ _ _ _ us hl => match us, hl with | [_], _ => rfl
  have F7 := fun_mk (st := s__law_cells) l_7 c_7 k_7
  have b7 := F7.binds (ps := ["stream", "size"]) fun _ _ _ _ _ _ us hl => match us, hl with | [_, _], _ => rfl
  have F8 := fun_mk (st := s__law_is_symbol) l_8 c_8 k_8
  have b8 := F8.binds (ps := ["cell"]) fun _ _ _ _ _ _ us hl => match us, hl with | [_], _ => rfl
  have F9 := fun_mk (st := s__law_settled) l_9 c_9 k_9
  have b9 := F9.binds (ps := ["cells", "at", "symbols", "others"]) fun _ _ _ _ _ _ us hl => match us, hl with | [_, _, _, _], _ => rfl
  have F10 := fun_mk (st := s__law_roots) l_10 c_10 k_10
  have b10 := F10.binds (ps := ["stream", "cells"]) fun _ _ _ _ _ _ us hl => match us, hl with | [_, _], _ => rfl
  have F11 := fun_mk (st := s__law_reachable) l_11 c_11 k_11
  have b11 := F11.binds (ps := ["cells", "roots"]) fun _ _ _ _ _ _ us hl => match us, hl with | [_, _], _ => rfl
  have F12 := fun_mk (st := s__law_moved) l_12 c_12 k_12
  have b12 := F12.binds (ps := ["cell", "places"]) fun _ _ _ _ _ _ us hl => match us, hl with | [_, _], _ => rfl
  have F13 := fun_mk (st := s_law) l_13 c_13 k_13
  have b13 := F13.binds (ps := ["script"]) fun _ _ _ _ _ _ us hl => match us, hl with | [_], _ => rfl
  let T : Tx K mg := {
    a_reachable := _, d_reachable := _, F_reachable := F1, b_reachable := b1, m_reachable := PySem.W.mg_of X G a_1,
    a_moved := _, d_moved := _, F_moved := F2, b_moved := b2, m_moved := PySem.W.mg_of X G a_2,
    a_slide := _, d_slide := _, F_slide := F3, b_slide := b3, m_slide := PySem.W.mg_of X G a_3,
    a__law_stream := _, d__law_stream := _, F__law_stream := F4, b__law_stream := b4, m__law_stream := PySem.W.mg_of X G a_4,
    a__law_draw := _, d__law_draw := _, F__law_draw := F5, b__law_draw := b5, m__law_draw := PySem.W.mg_of X G a_5,
    a__law_argument := _, d__law_argument := _, F__law_argument := F6, b__law_argument := b6, m__law_argument := PySem.W.mg_of X G a_6,
    a__law_cells := _, d__law_cells := _, F__law_cells := F7, b__law_cells := b7, m__law_cells := PySem.W.mg_of X G a_7,
    a__law_is_symbol := _, d__law_is_symbol := _, F__law_is_symbol := F8, b__law_is_symbol := b8, m__law_is_symbol := PySem.W.mg_of X G a_8,
    a__law_settled := _, d__law_settled := _, F__law_settled := F9, b__law_settled := b9, m__law_settled := PySem.W.mg_of X G a_9,
    a__law_roots := _, d__law_roots := _, F__law_roots := F10, b__law_roots := b10, m__law_roots := PySem.W.mg_of X G a_10,
    a__law_reachable := _, d__law_reachable := _, F__law_reachable := F11, b__law_reachable := b11, m__law_reachable := PySem.W.mg_of X G a_11,
    a__law_moved := _, d__law_moved := _, F__law_moved := F12, b__law_moved := b12, m__law_moved := PySem.W.mg_of X G a_12,
    a_law := _, d_law := _, F_law := F13, b_law := b13, m_law := PySem.W.mg_of X G a_13,
    n_abs := PySem.W.mg_none_of X G n_1,
    n_any := PySem.W.mg_none_of X G n_2,
    n_bool := PySem.W.mg_none_of X G n_3,
    n_dict := PySem.W.mg_none_of X G n_4,
    n_enumerate := PySem.W.mg_none_of X G n_5,
    n_int := PySem.W.mg_none_of X G n_6,
    n_isinstance := PySem.W.mg_none_of X G n_7,
    n_len := PySem.W.mg_none_of X G n_8,
    n_list := PySem.W.mg_none_of X G n_9,
    n_max := PySem.W.mg_none_of X G n_10,
    n_range := PySem.W.mg_none_of X G n_11,
    n_sorted := PySem.W.mg_none_of X G n_12,
    n_tuple := PySem.W.mg_none_of X G n_13 }
  exact ⟨_, fun s v => .of_eq rfl, fun base _ _ => ok_law (P := l.prog) (w := w) (base := base) T hl⟩
theorem walk {l : PySem.W.OpenLaw} {q : Program} {loose : List Str} {XP : (Str → Option Value) → Heap → Prop} {YP : World → Heap → Prop} {d : DefRec} {K : Params → PySem.W.Frag} (hn : l.most = some 63) (hdf : d.params.defaults = [])
    (hY : ∀ (w : World) (h : Heap), YP w h → (K w.params).In h)
    (F : ∀ (w : World) (mg : Str → Option Value) (fa : Addr) (h : Heap), (K w.params).In h → h.Ns mainGlobals mg → mg d.name = some (.ref fa) →
      ∃ fd : FuncData, (∀ (s : Shared) (u : Value), BindsTo s fd ⟨[u], []⟩ [("script", u)]) ∧ ∀ base : Heap, (K w.params).In base → base.Ns mainGlobals mg → FnOk l.prog w (K w.params) mg base (L2.CX l.prog w) 4 fa fd ["script"] (spLaw (K w.params))) :
    PySem.W.WalkO q loose XP YP l.row.toRowW d [] (fun f vs => PySem.call f vs) :=
  L2.walk_of (n := 63) (k := 4) (x := "script") (CX := fun w => L2.CX l.prog w) (sp := fun w => spLaw (K w.params)) hn (by decide) hdf ⟨rfl, by decide, by decide⟩ hY F (fun _ _ a ns hl _ hS => ⟨a, ns, rfl, hS, hl, fun _ => rfl⟩) fun w H s e s' c => by
    obtain ⟨_, _, _, _, _, _, _, _, _, _, _, _, z⟩ := c
    exact z
end Law
open PySem PySem.W PyProof.Rows
set_option maxRecDepth 100000 in
set_option maxHeartbeats 0 in
theorem PySem.Challenge.cw_hornbook_k92_whole_slide_keeps_terms_holds : PySem.Challenge.rw_hornbook_k92_whole_slide_keeps_terms.Holds := by
  w_on; o_law; k_head; (case hw => w_witness2)
  k_fill
  refine Law.walk (l := PySem.Challenge.rw_hornbook_k92_whole_slide_keeps_terms) rfl rfl (fun w h Y => PySem.W.kIn_of Y) ?F
  case F =>
    intro w mg fa h KX G hmg
    refine' Law.all_mk KX G hmg Law.law_ok ?a_1 ?l_1 ?c_1 ?k_1 ?a_2 ?l_2 ?c_2 ?k_2 ?a_3 ?l_3 ?c_3 ?k_3 ?a_4 ?l_4 ?c_4 ?k_4 ?a_5 ?l_5 ?c_5 ?k_5 ?a_6 ?l_6 ?c_6 ?k_6 ?a_7 ?l_7 ?c_7 ?k_7 ?a_8 ?l_8 ?c_8 ?k_8 ?a_9 ?l_9 ?c_9 ?k_9 ?a_10 ?l_10 ?c_10 ?k_10 ?a_11 ?l_11 ?c_11 ?k_11 ?a_12 ?l_12 ?c_12 ?k_12 ?a_13 ?l_13 ?c_13 ?k_13 ?n_1 ?n_2 ?n_3 ?n_4 ?n_5 ?n_6 ?n_7 ?n_8 ?n_9 ?n_10 ?n_11 ?n_12 ?n_13
    (case a_1 => k_is)
    (case l_1 => k_is)
    (case c_1 => k_is)
    (case k_1 => k_is)
    (case a_2 => k_is)
    (case l_2 => k_is)
    (case c_2 => k_is)
    (case k_2 => k_is)
    (case a_3 => k_is)
    (case l_3 => k_is)
    (case c_3 => k_is)
    (case k_3 => k_is)
    (case a_4 => k_is)
    (case l_4 => k_is)
    (case c_4 => k_is)
    (case k_4 => k_is)
    (case a_5 => k_is)
    (case l_5 => k_is)
    (case c_5 => k_is)
    (case k_5 => k_is)
    (case a_6 => k_is)
    (case l_6 => k_is)
    (case c_6 => k_is)
    (case k_6 => k_is)
    (case a_7 => k_is)
    (case l_7 => k_is)
    (case c_7 => k_is)
    (case k_7 => k_is)
    (case a_8 => k_is)
    (case l_8 => k_is)
    (case c_8 => k_is)
    (case k_8 => k_is)
    (case a_9 => k_is)
    (case l_9 => k_is)
    (case c_9 => k_is)
    (case k_9 => k_is)
    (case a_10 => k_is)
    (case l_10 => k_is)
    (case c_10 => k_is)
    (case k_10 => k_is)
    (case a_11 => k_is)
    (case l_11 => k_is)
    (case c_11 => k_is)
    (case k_11 => k_is)
    (case a_12 => k_is)
    (case l_12 => k_is)
    (case c_12 => k_is)
    (case k_12 => k_is)
    (case a_13 => k_is)
    (case l_13 => k_is)
    (case c_13 => k_is)
    (case k_13 => k_is)
    (case n_1 => k_is)
    (case n_2 => k_is)
    (case n_3 => k_is)
    (case n_4 => k_is)
    (case n_5 => k_is)
    (case n_6 => k_is)
    (case n_7 => k_is)
    (case n_8 => k_is)
    (case n_9 => k_is)
    (case n_10 => k_is)
    (case n_11 => k_is)
    (case n_12 => k_is)
    (case n_13 => k_is)
#print axioms PySem.Challenge.cw_hornbook_k92_whole_slide_keeps_terms_holds

