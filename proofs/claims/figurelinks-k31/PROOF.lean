import PyProof.Rows.All
import Wide.All
import OpenK.AllK
import Wide.FinOn
import KE.KStateDown
import HandS.ForMost
import HandS.ForExc
import HandS.Defaults
import HandS.HeadHook1
import HandS.Wide
import HandS.TupAny
import HandS.IsInst
import HandS.Deep
import HandS.Style
import HandS.SortInts
import HandS.RaiseMore
import HandS.Walk
import HandS.Zip
import HandS.More
import HandS.FStr
import PyProof.StrBlock2
import HandS.ExcIs
import HandS.ExcField
import HandS.ExcInit
import HandS.TryMany
import HandS.Small
import KE.KExcSuper
import HandS.ExcSuper
import HandS.Head2
import HandS.HeadEnd
import HandS.HeadHook2
import PyProof.Rows.StrSplitCount
import HandS.Codes
import Wide.Once
import PySem.Challenge.RW_figurelinks_k31_script_lines_at_their_bo
set_option Elab.async false
set_option linter.all false
set_option maxRecDepth 100000
set_option exponentiation.threshold 2000
set_option maxHeartbeats 4000000
/-! FL0: plain data for Python's values, slots, states, outcomes; what it means that a piece of syntax does what a function on plain data says. -/
namespace FL
open PySem PySem.Spec PyProof.Rows L2
abbrev Fr := PySem.W.Frag
/-- plain data -/
inductive D where
  | non
  | bl (b : Bool)
  | int (i : Int)
  | str (s : Str)
  | lst (xs : List D)
  | tup (xs : List D)
  | ins (C : Str) (ns : List Str) (ds : List D)
  | dic (ks : List Key) (ds : List D)
  /-- a list that is known to the object, or written at the top: read alone -/
  | scr (xs : List D)

mutual
/-- the value v stands for the datum, by the frozen objects of F -/
def Rep (K : Fr) (F : Hp) : D → V → Prop
  | .non, v => v = .non
  | .bl b, v => v = .bl b
  | .int i, v => v = .int i
  | .str s, v => v = .str s
  | .lst xs, v => ∃ a vs, v = .ref a ∧ F a = some (.lst vs) ∧ Reps K F xs vs
  | .scr xs, v => ∃ a vs, v = .ref a ∧ SqL K F a vs ∧ Reps K F xs vs
  | .tup xs, v => ∃ a vs, v = .ref a ∧ SqT K F a vs ∧ Reps K F xs vs
  | .ins C ns ds, v => ∃ a dx vs, v = .ref a ∧ F a = some (.ins (He.ga K C) dx (ns.zip vs)) ∧ ns.length = ds.length ∧ Reps K F ds vs
  | .dic ks ds, v => ∃ a vs, v = .ref a ∧ Rd F a (.dK (ks.zip vs)) ∧ ks.length = ds.length ∧ Reps K F ds vs
def Reps (K : Fr) (F : Hp) : List D → List V → Prop
  | [], vs => vs = []
  | d :: ds, vs => ∃ v r, vs = v :: r ∧ Rep K F d v ∧ Reps K F ds r
end

theorem sqT_same {K : Fr} {H H' : Hp} {a : Addr} {xs : List V} (e : Same H H') (h : SqT K H a xs) : SqT K H' a xs := by
  rcases h with (h | ⟨o, h⟩) | h
  · exact .inl (.inl (e _ _ h))
  · exact .inl (.inr ⟨o, e _ _ h⟩)
  · exact .inr h

mutual
theorem Rep.mono {K : Fr} {F F' : Hp} (e : Same F F') : ∀ (d : D) (v : V), Rep K F d v → Rep K F' d v
  | .non, v, h => by simpa only [Rep] using h
  | .bl b, v, h => by simpa only [Rep] using h
  | .int i, v, h => by simpa only [Rep] using h
  | .str s, v, h => by simpa only [Rep] using h
  | .lst xs, v, h => by
    simp only [Rep] at h ⊢
    obtain ⟨a, vs, rfl, q, r⟩ := h
    exact ⟨a, vs, rfl, e _ _ q, Reps.mono e xs vs r⟩
  | .scr xs, v, h => by
    simp only [Rep] at h ⊢
    obtain ⟨a, vs, rfl, q, r⟩ := h
    exact ⟨a, vs, rfl, e.seq q, Reps.mono e xs vs r⟩
  | .tup xs, v, h => by
    simp only [Rep] at h ⊢
    obtain ⟨a, vs, rfl, q, r⟩ := h
    exact ⟨a, vs, rfl, sqT_same e q, Reps.mono e xs vs r⟩
  | .ins C ns ds, v, h => by
    simp only [Rep] at h ⊢
    obtain ⟨a, dx, vs, rfl, q, l, r⟩ := h
    exact ⟨a, dx, vs, rfl, e _ _ q, l, Reps.mono e ds vs r⟩
  | .dic ks ds, v, h => by
    simp only [Rep] at h ⊢
    obtain ⟨a, vs, rfl, q, l, r⟩ := h
    refine ⟨a, vs, rfl, ?_, l, Reps.mono e ds vs r⟩
    rcases q with q | ⟨o, q⟩
    · exact .inl (e _ _ q)
    · exact .inr ⟨o, e _ _ q⟩
theorem Reps.mono {K : Fr} {F F' : Hp} (e : Same F F') : ∀ (ds : List D) (vs : List V), Reps K F ds vs → Reps K F' ds vs
  | [], vs, h => by simpa only [Reps] using h
  | d :: ds, vs, h => by
    simp only [Reps] at h ⊢
    obtain ⟨v, r, rfl, h1, h2⟩ := h
    exact ⟨v, r, rfl, Rep.mono e d v h1, Reps.mono e ds r h2⟩
end
section
variable {K : Fr} {F : Hp}
theorem Reps.len : ∀ {ds : List D} {vs : List V}, Reps K F ds vs → vs.length = ds.length
  | [], vs, h => by simp only [Reps] at h; subst h; rfl
  | d :: ds, vs, h => by
    simp only [Reps] at h
    obtain ⟨v, r, rfl, _, h2⟩ := h
    simp [Reps.len h2]
theorem Reps.get : ∀ {ds : List D} {vs : List V} {i : Nat} {d : D}, Reps K F ds vs → ds[i]? = some d → ∃ v, vs[i]? = some v ∧ Rep K F d v
  | [], vs, i, d, h, e => by simp at e
  | x :: ds, vs, 0, d, h, e => by
    simp only [Reps] at h
    obtain ⟨v, r, rfl, h1, _⟩ := h
    simp at e; subst e
    exact ⟨v, rfl, h1⟩
  | x :: ds, vs, i + 1, d, h, e => by
    simp only [Reps] at h
    obtain ⟨v, r, rfl, _, h2⟩ := h
    obtain ⟨u, e1, e2⟩ := Reps.get (i := i) h2 (by simpa using e)
    exact ⟨u, by simpa using e1, e2⟩
theorem Reps.append : ∀ {ds es : List D} {vs us : List V}, Reps K F ds vs → Reps K F es us → Reps K F (ds ++ es) (vs ++ us)
  | [], es, vs, us, h, k => by simp only [Reps] at h; subst h; exact k
  | d :: ds, es, vs, us, h, k => by
    simp only [Reps] at h
    obtain ⟨v, r, rfl, h1, h2⟩ := h
    simp only [List.cons_append, Reps]
    exact ⟨v, r ++ us, rfl, h1, h2.append k⟩
theorem Reps.cons {d : D} {v : V} {ds : List D} {vs : List V} (h : Rep K F d v) (k : Reps K F ds vs) : Reps K F (d :: ds) (v :: vs) := by
  simp only [Reps]; exact ⟨v, vs, rfl, h, k⟩
theorem Reps.nil : Reps K F [] [] := by simp only [Reps]
theorem Reps.drop : ∀ {ds : List D} {vs : List V} (n : Nat), Reps K F ds vs → Reps K F (ds.drop n) (vs.drop n)
  | ds, vs, 0, h => h
  | [], vs, n + 1, h => by simp only [Reps] at h; subst h; exact Reps.nil
  | d :: ds, vs, n + 1, h => by
    simp only [Reps] at h
    obtain ⟨v, r, rfl, _, h2⟩ := h
    exact Reps.drop n h2
theorem Reps.take : ∀ {ds : List D} {vs : List V} (n : Nat), Reps K F ds vs → Reps K F (ds.take n) (vs.take n)
  | ds, vs, 0, h => by simp only [List.take_zero]; exact Reps.nil
  | [], vs, n + 1, h => by simp only [Reps] at h; subst h; exact Reps.nil
  | d :: ds, vs, n + 1, h => by
    simp only [Reps] at h
    obtain ⟨v, r, rfl, h1, h2⟩ := h
    exact Reps.cons h1 (Reps.take n h2)
theorem Reps.set : ∀ {ds : List D} {vs : List V} (n : Nat) {d : D} {v : V}, Reps K F ds vs → Rep K F d v → Reps K F (ds.set n d) (vs.set n v)
  | [], vs, n, d, v, h, k => by simp only [Reps] at h; subst h; exact Reps.nil
  | x :: ds, vs, 0, d, v, h, k => by
    simp only [Reps] at h
    obtain ⟨u, r, rfl, _, h2⟩ := h
    exact Reps.cons k h2
  | x :: ds, vs, n + 1, d, v, h, k => by
    simp only [Reps] at h
    obtain ⟨u, r, rfl, h1, h2⟩ := h
    exact Reps.cons h1 (Reps.set n h2 k)
theorem Reps.rev : ∀ {ds : List D} {vs : List V}, Reps K F ds vs → Reps K F ds.reverse vs.reverse
  | [], vs, h => by simp only [Reps] at h; subst h; exact Reps.nil
  | d :: ds, vs, h => by
    simp only [Reps] at h
    obtain ⟨v, r, rfl, h1, h2⟩ := h
    simp only [List.reverse_cons]
    exact (Reps.rev h2).append (Reps.cons h1 Reps.nil)
theorem Reps.erase : ∀ {ds : List D} {vs : List V} (n : Nat), Reps K F ds vs → Reps K F (ds.eraseIdx n) (vs.eraseIdx n)
  | [], vs, n, h => by simp only [Reps] at h; subst h; exact Reps.nil
  | d :: ds, vs, 0, h => by
    simp only [Reps] at h
    obtain ⟨v, r, rfl, _, h2⟩ := h
    exact h2
  | d :: ds, vs, n + 1, h => by
    simp only [Reps] at h
    obtain ⟨v, r, rfl, h1, h2⟩ := h
    exact Reps.cons h1 (Reps.erase n h2)
theorem Reps.rep {ds : List D} {vs : List V} (h : Reps K F ds vs) : ∀ k : Nat, Reps K F (List.replicate k ds).flatten (List.replicate k vs).flatten
  | 0 => Reps.nil
  | k + 1 => by simp only [List.replicate_succ, List.flatten_cons]; exact h.append (Reps.rep h k)
theorem Reps.map {α : Type} (f : α → D) (g : α → V) (h : ∀ a, Rep K F (f a) (g a)) : ∀ l : List α, Reps K F (l.map f) (l.map g)
  | [] => Reps.nil
  | a :: l => Reps.cons (h a) (Reps.map f g h l)
end

/-! ### slots and states -/
inductive Slot where
  /-- what nobody changes any more -/
  | fz (d : D)
  /-- a list of one's own -/
  | ow (xs : List D)
  /-- an instance that is being made -/
  | oi (C : Str) (ns : List Str) (ds : List D)
abbrev AS := List (Option Slot)
abbrev Own := Nat → List Addr
def SlotR (K : Fr) (F H : Hp) (as : List Addr) : Slot → V → Prop
  | .fz d, v => as = [] ∧ Rep K F d v
  | .ow xs, v => ∃ a vs, v = .ref a ∧ as = [a] ∧ H a = some (.lst vs) ∧ Reps K F xs vs
  | .oi C ns ds, v => ∃ a dx vs, v = .ref a ∧ as = [a] ∧ H a = some (.ins (He.ga K C) dx (ns.zip vs)) ∧ ns.length = ds.length ∧ Reps K F ds vs
theorem SlotR.mono {K : Fr} {F F' H H' : Hp} {as : List Addr} (e : Same F F') (k : ∀ a ∈ as, H' a = H a) : ∀ {s : Slot} {v : V}, SlotR K F H as s v → SlotR K F' H' as s v
  | .fz d, v, h => ⟨h.1, h.2.mono e⟩
  | .ow xs, v, h => by
    obtain ⟨a, vs, h1, h2, h3, h4⟩ := h
    exact ⟨a, vs, h1, h2, by rw [k a (by rw [h2]; simp)]; exact h3, h4.mono e⟩
  | .oi C ns ds, v, h => by
    obtain ⟨a, dx, vs, h1, h2, h3, h4, h5⟩ := h
    exact ⟨a, dx, vs, h1, h2, by rw [k a (by rw [h2]; simp)]; exact h3, h4, h5.mono e⟩

/-- from (F0, H0) to (F, H): what was tracked stands but at io, the frozen part grew by new objects alone -/
structure Post (F0 H0 : Hp) (io : List Addr) (F H : Hp) : Prop where
  FH : Same F H
  FF : Same F0 F
  new : ∀ a o, F a = some o → F0 a = some o ∨ H0 a = none
  keep : ∀ a o, H0 a = some o → a ∉ io → H a = some o
theorem Post.refl {F H : Hp} {io : List Addr} (e : Same F H) : Post F H io F H := ⟨e, Same.refl _, fun _ _ h => .inl h, fun _ _ h _ => h⟩

/-- the entry: the frozen part and the heap there; the parameters that are changed, with their addresses -/
structure Ent where
  F0 : Hp
  H0 : Hp
  io : List (Nat × Addr)
  /-- what else stands of the slots and of what is frozen -/
  n : Nat
  P : L2.St → Hp → Prop
  mono : ∀ σ F F', Same F F' → P σ F → P σ F'
  len : ∀ σ F, P σ F → σ.length = n
/-- the slot i may be set -/
structure Free (E : Ent) (i : Nat) : Prop where
  io : ∀ p ∈ E.io, p.1 ≠ i
  P : ∀ σ F v, E.P σ F → E.P (σ.set i v) F
structure StR (K : Fr) (E : Ent) (F : Hp) (ŝ : AS) (σ : L2.St) (H : Hp) (own : Own) : Prop where
  post : Post E.F0 E.H0 (E.io.map (·.2)) F H
  len : ŝ.length = σ.length
  sl : ∀ i s, ŝ[i]? = some (some s) → ∃ v, σ[i]? = some (some v) ∧ SlotR K F H (own i) s v
  sep : ∀ i a, a ∈ own i → F a = none ∧ (∃ o, H a = some o) ∧ (E.H0 a = none ∨ a ∈ E.io.map (·.2))
  dis : ∀ i j a, a ∈ own i → a ∈ own j → i = j
  ios : ∀ p ∈ E.io, own p.1 = [p.2]
  inv : E.P σ F

section
variable {K : Fr} {E : Ent} {F F2 H H2 : Hp} {ŝ ŝ2 : AS} {σ : L2.St} {own : Own} {io2 : List Addr}
theorem StR.fh (S : StR K E F ŝ σ H own) : Same F H := S.post.FH
theorem Post.trans_new {F0 H0 : Hp} {io : List Addr} (P : Post F0 H0 io F H) (P2 : Post F H io2 F2 H2) (hio : ∀ a ∈ io, ∃ o, H a = some o) (hi2 : ∀ a ∈ io2, H0 a = none ∨ a ∈ io) : Post F0 H0 io F2 H2 where
  FH := P2.FH
  FF := P.FF.trans P2.FF
  new := fun a o e => by
    rcases P2.new a o e with h | h
    · exact P.new a o h
    · refine .inr ?_
      cases q : H0 a with
      | none => rfl
      | some o' =>
        by_cases m : a ∈ io
        · obtain ⟨o2, h2⟩ := hio a m
          rw [h] at h2; cases h2
        · have := P.keep a o' q m
          rw [h] at this; cases this
  keep := fun a o e m => by
    refine P2.keep a o (P.keep a o e m) fun z => ?_
    rcases hi2 a z with h | h
    · rw [e] at h; cases h
    · exact m h
/-- one step: the objects at io2, of slots that may change, are written; new frozen objects come -/
theorem StR.step (S : StR K E F ŝ σ H own) (P : Post F H io2 F2 H2) (hio : ∀ a ∈ io2, ∃ k, a ∈ own k) (hH2 : ∀ a ∈ io2, ∃ o, H2 a = some o) (hF2 : ∀ a ∈ io2, F2 a = none) (hl : ŝ2.length = ŝ.length)
    (hs : ∀ i s, ŝ2[i]? = some (some s) → (ŝ[i]? = some (some s) ∧ ∀ a ∈ own i, a ∉ io2) ∨ (∃ v, σ[i]? = some (some v) ∧ SlotR K F2 H2 (own i) s v)) : StR K E F2 ŝ2 σ H2 own where
  post := S.post.trans_new P (fun a m => by
    obtain ⟨p, hp, rfl⟩ := List.mem_map.mp m
    exact (S.sep p.1 p.2 (by rw [S.ios p hp]; simp)).2.1) fun a m => by
    obtain ⟨k, hk⟩ := hio a m
    exact (S.sep k a hk).2.2
  len := hl.trans S.len
  sl := fun i s e => by
    rcases hs i s e with ⟨h1, h2⟩ | h
    · obtain ⟨v, hv, r⟩ := S.sl i s h1
      refine ⟨v, hv, r.mono P.FF fun a ha => ?_⟩
      obtain ⟨o, ho⟩ := (S.sep i a ha).2.1
      rw [ho]
      exact P.keep a o ho (h2 a ha)
    · exact h
  sep := fun i a ha => by
    obtain ⟨h1, ⟨o, h2⟩, h3⟩ := S.sep i a ha
    refine ⟨?_, ?_, h3⟩
    · cases q : F2 a with
      | none => rfl
      | some o' =>
        rcases P.new a o' q with z | z
        · rw [h1] at z; cases z
        · rw [h2] at z; cases z
    · by_cases m : a ∈ io2
      · exact hH2 a m
      · exact ⟨o, P.keep a o h2 m⟩
  dis := S.dis
  ios := S.ios
  inv := E.mono _ _ _ P.FF S.inv
/-- nothing of one's own is changed -/
theorem StR.grow (S : StR K E F ŝ σ H own) (P : Post F H [] F2 H2) : StR K E F2 ŝ σ H2 own :=
  S.step P (fun _ z => nomatch z) (fun _ z => nomatch z) (fun _ z => nomatch z) rfl fun i s e => .inl ⟨e, fun _ _ z => nomatch z⟩
/-- a new frozen object -/
theorem Post.alloc (e : Same F H) {p : Addr} {o : HO} (hp : H p = none) : Post F H [] (upd F p o) (upd H p o) where
  FH := fun b u q => by
    by_cases hb : b = p
    · subst hb; rw [upd_same] at q ⊢; exact q
    · rw [upd_ne hb] at q ⊢; exact e b u q
  FF := fun b u q => by rw [upd_ne (ne_of_none (e _ _ q) hp)]; exact q
  new := fun b u q => by
    by_cases hb : b = p
    · subst hb; exact .inr hp
    · rw [upd_ne hb] at q; exact .inl q
  keep := fun b u q _ => by rw [upd_ne (ne_of_none q hp)]; exact q
/-- a new object of one's own -/
theorem Post.allocO (e : Same F H) {p : Addr} {o : HO} (hp : H p = none) : Post F H [] F (upd H p o) where
  FH := fun b u q => by rw [upd_ne (ne_of_none (e _ _ q) hp)]; exact e b u q
  FF := Same.refl _
  new := fun _ _ q => .inl q
  keep := fun b u q _ => by rw [upd_ne (ne_of_none q hp)]; exact q
/-- an object is written that is not frozen -/
theorem Post.write (e : Same F H) {p : Addr} {o : HO} (hp : F p = none) : Post F H [p] F (upd H p o) where
  FH := fun b u q => by rw [upd_ne (ne_of_none q hp)]; exact e b u q
  FF := Same.refl _
  new := fun _ _ q => .inl q
  keep := fun b u q m => by rw [upd_ne (by simpa using m)]; exact q
/-- what stands at p, in no slot's hands, is frozen -/
theorem StR.freeze (S : StR K E F ŝ σ H own) {p : Addr} {o : HO} (hF : F p = none) (hH : H p = some o) (h0 : E.H0 p = none) (ho : ∀ i, p ∉ own i) : StR K E (upd F p o) ŝ σ H own ∧ Same F (upd F p o) := by
  have ff : Same F (upd F p o) := fun b u q => by rw [upd_ne (ne_of_none q hF)]; exact q
  refine ⟨⟨⟨fun b u q => ?_, S.post.FF.trans ff, fun b u q => ?_, S.post.keep⟩, S.len, fun i s e => ?_, fun i a ha => ?_, S.dis, S.ios, E.mono _ _ _ ff S.inv⟩, ff⟩
  · by_cases hb : b = p
    · subst hb; rw [upd_same] at q; rw [← q]; exact hH
    · rw [upd_ne hb] at q; exact S.post.FH b u q
  · by_cases hb : b = p
    · subst hb; exact .inr h0
    · rw [upd_ne hb] at q; exact S.post.new b u q
  · obtain ⟨v, hv, r⟩ := S.sl i s e
    exact ⟨v, hv, r.mono ff fun _ _ => rfl⟩
  · obtain ⟨h1, h2, h3⟩ := S.sep i a ha
    have hap : a ≠ p := fun z => ho i (z ▸ ha)
    exact ⟨by rw [upd_ne hap]; exact h1, h2, h3⟩
/-- slots forgotten, or moved where they are not looked at -/
theorem StR.weak {σ2 : L2.St} (S : StR K E F ŝ σ H own) (hl : ŝ2.length = σ2.length) (hs : ∀ (i : Nat) (s : Slot), ŝ2[i]? = some (some s) → ŝ[i]? = some (some s) ∧ σ2[i]? = σ[i]?) (hP : E.P σ2 F) : StR K E F ŝ2 σ2 H own :=
  ⟨S.post, hl, fun i s e => by
    obtain ⟨h1, h2⟩ := hs i s e
    obtain ⟨v, hv, r⟩ := S.sl i s h1
    exact ⟨v, h2.trans hv, r⟩, S.sep, S.dis, S.ios, hP⟩
theorem get_set_eq {α : Type} {l : List α} {i : Nat} {x y : α} (h : (l.set i x)[i]? = some y) : i < l.length ∧ x = y := by
  by_cases hi : i < l.length
  · rw [List.getElem?_set_self hi] at h
    exact ⟨hi, Option.some.inj h⟩
  · rw [List.getElem?_eq_none (by simpa using hi)] at h; cases h
/-- a slot gets a frozen value -/
theorem StR.put (S : StR K E F ŝ σ H own) {i : Nat} {d : D} {v : V} (r : Rep K F d v) (hi : Free E i) :
    StR K E F (ŝ.set i (some (.fz d))) (σ.set i (some v)) H (fun j => if j = i then [] else own j) := by
  refine ⟨S.post, by simp [S.len], fun j s e => ?_, fun j a ha => ?_, fun j k a h1 h2 => ?_, fun p hp => ?_, hi.P _ _ _ S.inv⟩
  · by_cases hj : j = i
    · subst hj
      obtain ⟨hl, e2⟩ := get_set_eq e
      cases e2
      refine ⟨v, by rw [List.getElem?_set_self (by rw [← S.len]; exact hl)], ?_⟩
      show SlotR K F H (if j = j then [] else own j) _ v
      rw [if_pos rfl]
      exact ⟨rfl, r⟩
    · rw [List.getElem?_set_ne (Ne.symm hj)] at e ⊢
      obtain ⟨u, hu, q⟩ := S.sl j s e
      refine ⟨u, hu, ?_⟩
      show SlotR K F H (if j = i then [] else own j) s u
      rw [if_neg hj]
      exact q
  · by_cases hj : j = i
    · simp [hj] at ha
    · simp only [if_neg hj] at ha
      exact S.sep j a ha
  · by_cases hj : j = i
    · simp [hj] at h1
    · by_cases hk : k = i
      · simp [hk] at h2
      · simp only [if_neg hj] at h1
        simp only [if_neg hk] at h2
        exact S.dis j k a h1 h2
  · show (if p.1 = i then [] else own p.1) = _
    rw [if_neg (hi.io p hp)]
    exact S.ios p hp
/-- a slot gets a list of one's own -/
theorem StR.putO (S : StR K E F ŝ σ H own) {i : Nat} {xs : List D} {a : Addr} {vs : List V} (hF : F a = none) (hH : H a = some (.lst vs)) (h0 : E.H0 a = none) (ho : ∀ i, a ∉ own i) (r : Reps K F xs vs) (hi : Free E i) :
    StR K E F (ŝ.set i (some (.ow xs))) (σ.set i (some (.ref a))) H (fun j => if j = i then [a] else own j) := by
  refine ⟨S.post, by simp [S.len], fun j s e => ?_, fun j b hb => ?_, fun j k b h1 h2 => ?_, fun p hp => ?_, hi.P _ _ _ S.inv⟩
  · by_cases hj : j = i
    · subst hj
      obtain ⟨hl, e2⟩ := get_set_eq e
      cases e2
      refine ⟨.ref a, by rw [List.getElem?_set_self (by rw [← S.len]; exact hl)], ?_⟩
      show SlotR K F H (if j = j then [a] else own j) _ _
      rw [if_pos rfl]
      exact ⟨a, vs, rfl, rfl, hH, r⟩
    · rw [List.getElem?_set_ne (Ne.symm hj)] at e ⊢
      obtain ⟨u, hu, q⟩ := S.sl j s e
      refine ⟨u, hu, ?_⟩
      show SlotR K F H (if j = i then [a] else own j) s u
      rw [if_neg hj]
      exact q
  · by_cases hj : j = i
    · have : b = a := by simpa [hj] using hb
      subst this
      exact ⟨hF, ⟨_, hH⟩, .inl h0⟩
    · simp only [if_neg hj] at hb
      exact S.sep j b hb
  · by_cases hj : j = i
    · have e1 : b = a := by simpa [hj] using h1
      by_cases hk : k = i
      · rw [hj, hk]
      · simp only [if_neg hk] at h2
        exact absurd (e1 ▸ h2) (ho k)
    · simp only [if_neg hj] at h1
      by_cases hk : k = i
      · have e2 : b = a := by simpa [hk] using h2
        exact absurd (e2 ▸ h1) (ho j)
      · simp only [if_neg hk] at h2
        exact S.dis j k b h1 h2
  · show (if p.1 = i then [a] else own p.1) = _
    rw [if_neg (hi.io p hp)]
    exact S.ios p hp
end

theorem Post.trans {F H F1 H1 F2 H2 : Hp} (P : Post F H [] F1 H1) (P2 : Post F1 H1 [] F2 H2) : Post F H [] F2 H2 := P.trans_new P2 (fun _ z => nomatch z) (fun _ z => nomatch z)
theorem Post.hh {F H F1 H1 : Hp} (P : Post F H [] F1 H1) : Same H H1 := fun a o e => P.keep a o e (fun z => nomatch z)

/-! ### outcomes -/
structure Exn where
  cls : Str
  ns : List Str
  ds : List D
/-- of what leaves the state as it is -/
inductive Res (α : Type) where
  | ok (a : α)
  | exn (x : Exn)
  | stuck
def Res.bind {α β : Type} (o : Res α) (f : α → Res β) : Res β := match o with
  | .ok a => f a
  | .exn x => .exn x
  | .stuck => .stuck
@[simp] theorem Res.bind_ok {α β : Type} (a : α) (f : α → Res β) : (Res.ok a).bind f = f a := rfl
@[simp] theorem Res.bind_exn {α β : Type} (x : Exn) (f : α → Res β) : (Res.exn x).bind f = .exn x := rfl
@[simp] theorem Res.bind_stuck {α β : Type} (f : α → Res β) : (Res.stuck : Res α).bind f = .stuck := rfl
def Res.opt {α : Type} : Option α → Res α
  | some a => .ok a
  | none => .stuck
@[simp] theorem Res.opt_some {α : Type} (a : α) : Res.opt (some a) = .ok a := rfl
@[simp] theorem Res.opt_none {α : Type} : Res.opt (none : Option α) = .stuck := rfl
/-- of what may change slots -/
inductive Out (α : Type) where
  | ok (a : α) (s : AS)
  | exn (x : Exn) (s : AS)
  | stuck
def Out.bind {α β : Type} (o : Out α) (f : α → AS → Out β) : Out β := match o with
  | .ok a s => f a s
  | .exn x s => .exn x s
  | .stuck => .stuck
@[simp] theorem Out.bind_ok {α β : Type} (a : α) (s : AS) (f : α → AS → Out β) : (Out.ok a s).bind f = f a s := rfl
@[simp] theorem Out.bind_exn {α β : Type} (x : Exn) (s : AS) (f : α → AS → Out β) : (Out.exn x s).bind f = .exn x s := rfl
@[simp] theorem Out.bind_stuck {α β : Type} (f : α → AS → Out β) : (Out.stuck : Out α).bind f = .stuck := rfl
def Res.out {α : Type} (r : Res α) (ŝ : AS) : Out α := match r with
  | .ok a => .ok a ŝ
  | .exn x => .exn x ŝ
  | .stuck => .stuck
@[simp] theorem Res.out_ok {α : Type} (a : α) (ŝ : AS) : (Res.ok a).out ŝ = .ok a ŝ := rfl
@[simp] theorem Res.out_exn {α : Type} (x : Exn) (ŝ : AS) : (Res.exn x : Res α).out ŝ = .exn x ŝ := rfl
@[simp] theorem Res.out_stuck {α : Type} (ŝ : AS) : (Res.stuck : Res α).out ŝ = .stuck := rfl
def ExnR (K : Fr) (F : Hp) (x : Exn) (cls : Value) (dd : Option Addr) : Prop :=
  cls = .ref (He.ga K x.cls) ∧ ((x.ns = [] ∧ dd = none) ∨ ∃ d vs, dd = some d ∧ x.ns ≠ [] ∧ F d = some (.xd (x.ns.zip vs)) ∧ x.ns.length = x.ds.length ∧ Reps K F x.ds vs)
/-- what is asked where an exception x leaves at the slots ŝ -/
def ExP (K : Fr) (E : Ent) (W : WX) (σ : L2.St) (x : Exn) (ŝ : AS) : Prop := ∀ F H own cls dd, StR K E F ŝ σ H own → ExnR K F x cls dd → W cls dd σ H
def ResP (K : Fr) (E : Ent) (W : WX) (σ : L2.St) (ŝ : AS) {α : Type} (o : Res α) (k : α → Prop) : Prop := match o with
  | .ok a => k a
  | .exn x => ExP K E W σ x ŝ
  | .stuck => False
def OutP (K : Fr) (E : Ent) (W : WX) (σ : L2.St) {α : Type} (o : Out α) (k : α → AS → Prop) : Prop := match o with
  | .ok a ŝ => k a ŝ
  | .exn x ŝ => ExP K E W σ x ŝ
  | .stuck => False
section
variable {K : Fr} {E : Ent} {W : WX} {σ : L2.St} {ŝ : AS} {α β : Type}
theorem ResP.bind {o : Res α} {f : α → Res β} {k : β → Prop} (h : ResP K E W σ ŝ (o.bind f) k) : ResP K E W σ ŝ o fun a => ResP K E W σ ŝ (f a) k := by
  cases o with
  | ok a => exact h
  | exn x => exact h
  | stuck => exact h
theorem ResP.imp {o : Res α} {k k' : α → Prop} (h : ResP K E W σ ŝ o k) (i : ∀ a, k a → k' a) : ResP K E W σ ŝ o k' := by
  cases o with
  | ok a => exact i a h
  | exn x => exact h
  | stuck => exact h
theorem ResP.opt {o : Option α} {k : α → Prop} (h : ResP K E W σ ŝ (Res.opt o) k) : ∃ a, o = some a ∧ k a := by
  cases o with
  | some a => exact ⟨a, rfl, h⟩
  | none => exact h.elim
theorem OutP.bind {o : Out α} {f : α → AS → Out β} {k : β → AS → Prop} (h : OutP K E W σ (o.bind f) k) : OutP K E W σ o fun a ŝ => OutP K E W σ (f a ŝ) k := by
  cases o with
  | ok a ŝ => exact h
  | exn x ŝ => exact h
  | stuck => exact h
theorem OutP.imp {o : Out α} {k k' : α → AS → Prop} (h : OutP K E W σ o k) (i : ∀ a ŝ, k a ŝ → k' a ŝ) : OutP K E W σ o k' := by
  cases o with
  | ok a ŝ => exact i a ŝ h
  | exn x ŝ => exact h
  | stuck => exact h
theorem OutP.res {o : Res α} {k : α → AS → Prop} (h : OutP K E W σ (o.out ŝ) k) : ResP K E W σ ŝ o fun a => k a ŝ := by
  cases o with
  | ok a => exact h
  | exn x => exact h
  | stuck => exact h
end
/-! ### readings. pure: f (a frozen datum), v (a datum as it stands now), n (a new list of one's own), t (a test), a (arguments, frozen), w (arguments as they stand now). with changes of slots: F, N, T, A -/
abbrev PC := AS → Res D
abbrev PL := AS → Res (List D)
abbrev PB := AS → Res Bool
abbrev IC := AS → Out D
abbrev IL := AS → Out (List D)
abbrev IB := AS → Out Bool
/-- a new list at a, nobody's so far -/
structure Mine (K : Fr) (E : Ent) (F H : Hp) (own : Own) (a : Addr) (xs : List D) (vs : List V) : Prop where
  hF : F a = none
  hH : H a = some (.lst vs)
  h0 : E.H0 a = none
  ho : ∀ i, a ∉ own i
  r : Reps K F xs vs
def rdf (K : Fr) (E : Ent) (W : WX) (c : PC) : TE := fun σ H Q => ∃ ŝ F own, StR K E F ŝ σ H own ∧ ResP K E W σ ŝ (c ŝ) fun d => ∀ v F' H', Post F H [] F' H' → Rep K F' d v → Q v H'
def rdv (K : Fr) (E : Ent) (W : WX) (c : PC) : TE := fun σ H Q => ∃ ŝ F own, StR K E F ŝ σ H own ∧ ResP K E W σ ŝ (c ŝ) fun d => ∀ v F' H', Post F H [] F' H' → Rep K H' d v → Q v H'
/-- the new list is not in H -/
def rdn (K : Fr) (E : Ent) (W : WX) (c : PL) : TE := fun σ H Q => ∃ ŝ F own, StR K E F ŝ σ H own ∧ ResP K E W σ ŝ (c ŝ) fun xs => ∀ a vs F' H', Post F H [] F' H' → H a = none → F' a = none → H' a = some (.lst vs) → Reps K F' xs vs → Q (.ref a) H'
def rda (K : Fr) (E : Ent) (W : WX) (c : PL) : TA := fun σ H Q => ∃ ŝ F own, StR K E F ŝ σ H own ∧ ResP K E W σ ŝ (c ŝ) fun ds => ∀ vs F' H', Post F H [] F' H' → Reps K F' ds vs → Q vs H'
def rdw (K : Fr) (E : Ent) (W : WX) (c : PL) : TA := fun σ H Q => ∃ ŝ F own, StR K E F ŝ σ H own ∧ ResP K E W σ ŝ (c ŝ) fun ds => ∀ vs F' H', Post F H [] F' H' → Reps K H' ds vs → Q vs H'
def rdt (K : Fr) (E : Ent) (W : WX) (c : PB) : TT := fun σ H Q => ∃ ŝ F own, StR K E F ŝ σ H own ∧ ResP K E W σ ŝ (c ŝ) fun b => ∀ F' H', Post F H [] F' H' → Q b H'
def rdF (K : Fr) (E : Ent) (W : WX) (c : IC) : TE := fun σ H Q => ∃ ŝ F own, StR K E F ŝ σ H own ∧ OutP K E W σ (c ŝ) fun d ŝ' => ∀ v H' F' own', StR K E F' ŝ' σ H' own' → Same F F' → Rep K F' d v → Q v H'
def rdN (K : Fr) (E : Ent) (W : WX) (c : IL) : TE := fun σ H Q => ∃ ŝ F own, StR K E F ŝ σ H own ∧ OutP K E W σ (c ŝ) fun xs ŝ' => ∀ a vs H' F' own', StR K E F' ŝ' σ H' own' → Same F F' → Mine K E F' H' own' a xs vs → Q (.ref a) H'
def rdA (K : Fr) (E : Ent) (W : WX) (c : IL) : TA := fun σ H Q => ∃ ŝ F own, StR K E F ŝ σ H own ∧ OutP K E W σ (c ŝ) fun ds ŝ' => ∀ vs H' F' own', StR K E F' ŝ' σ H' own' → Same F F' → Reps K F' ds vs → Q vs H'
def rdT (K : Fr) (E : Ent) (W : WX) (c : IB) : TT := fun σ H Q => ∃ ŝ F own, StR K E F ŝ σ H own ∧ OutP K E W σ (c ŝ) fun b ŝ' => ∀ H' F' own', StR K E F' ŝ' σ H' own' → Same F F' → Q b H'

/-- what stands behind a statement -/
inductive Ret where
  | fz (d : D)
  | ow (xs : List D)
inductive SOut where
  | nx (s : AS)
  | rt (r : Ret) (s : AS)
  | bk (s : AS)
  | ct (s : AS)
  | exn (x : Exn) (s : AS)
  | stuck
abbrev SC := AS → SOut
def RetR (K : Fr) (E : Ent) (F H : Hp) (own : Own) : Ret → V → Prop
  | .fz d, v => Rep K F d v
  | .ow xs, v => ∃ a vs, v = .ref a ∧ Mine K E F H own a xs vs
def SOutP (K : Fr) (E : Ent) (W : WX) (D : Ends) (F0 : Hp) : SOut → Prop
  | .nx ŝ => ∀ σ H F own, StR K E F ŝ σ H own → Same F0 F → D.nx σ H
  | .rt r ŝ => ∀ v σ H F own, StR K E F ŝ σ H own → RetR K E F H own r v → D.rt v H
  | .bk ŝ => ∀ σ H F own, StR K E F ŝ σ H own → Same F0 F → D.bk σ H
  | .ct ŝ => ∀ σ H F own, StR K E F ŝ σ H own → Same F0 F → D.ct σ H
  | .exn x ŝ => ∀ σ, ExP K E W σ x ŝ
  | .stuck => False
theorem SOutP.mono {K : Fr} {E : Ent} {W : WX} {D : Ends} {F F' : Hp} (e : Same F F') {o : SOut} (h : SOutP K E W D F o) : SOutP K E W D F' o := by
  cases o with
  | nx ŝ => exact fun σ H F2 own S s => h σ H F2 own S (e.trans s)
  | rt r ŝ => exact h
  | bk ŝ => exact fun σ H F2 own S s => h σ H F2 own S (e.trans s)
  | ct ŝ => exact fun σ H F2 own S s => h σ H F2 own S (e.trans s)
  | exn x ŝ => exact h
  | stuck => exact h
def rdS (K : Fr) (E : Ent) (W : WX) (c : SC) : TS := fun D σ H => ∃ ŝ F own, StR K E F ŝ σ H own ∧ SOutP K E W D F (c ŝ)

/-! ### the judgements -/
theorem PE_imp {X : Cx} {e : Expr} {t t' : TE} (h : PE X e t) (i : ∀ σ H Q, t' σ H Q → t σ H Q) : PE X e t' := ⟨fun pins s σ H Q I q => h.run pins s σ H Q I (i σ H Q q)⟩
theorem PT_imp {X : Cx} {e : Expr} {t t' : TT} (h : PT X e t) (i : ∀ σ H Q, t' σ H Q → t σ H Q) : PT X e t' := ⟨fun pins s σ H Q I q => h.run pins s σ H Q I (i σ H Q q)⟩
theorem PW_imp {X : Cx} {e : Expr} {t t' : TT} (h : PW X e t) (i : ∀ σ H Q, t' σ H Q → t σ H Q) : PW X e t' := ⟨fun wh pins s σ H Q I q => h.run wh pins s σ H Q I (i σ H Q q)⟩
theorem PA_imp {X : Cx} {e : List Expr} {t t' : TA} (h : PA X e t) (i : ∀ σ H Q, t' σ H Q → t σ H Q) : PA X e t' := ⟨fun pos pins s σ H Q I q => h.run pos pins s σ H Q I (i σ H Q q)⟩
theorem PS_imp {X : Cx} {e : Stmt} {t t' : TS} (h : PS X e t) (i : ∀ D σ H, t' D σ H → t D σ H) : PS X e t' := ⟨fun pins s σ H D I q => h.run pins s σ H D I (i D σ H q)⟩
theorem PSs_imp {X : Cx} {e : List Stmt} {t t' : TS} (h : PSs X e t) (i : ∀ D σ H, t' D σ H → t D σ H) : PSs X e t' := ⟨fun pins s σ H D I q => h.run pins s σ H D I (i D σ H q)⟩
abbrev Jf (X : Cx) (E : Ent) (W : WX) (e : Expr) (c : PC) : Prop := PE X e (rdf X.K E W c)
abbrev Jv (X : Cx) (E : Ent) (W : WX) (e : Expr) (c : PC) : Prop := PE X e (rdv X.K E W c)
abbrev Jn (X : Cx) (E : Ent) (W : WX) (e : Expr) (c : PL) : Prop := PE X e (rdn X.K E W c)
abbrev Ja (X : Cx) (E : Ent) (W : WX) (es : List Expr) (c : PL) : Prop := PA X es (rda X.K E W c)
abbrev Jw (X : Cx) (E : Ent) (W : WX) (es : List Expr) (c : PL) : Prop := PA X es (rdw X.K E W c)
abbrev Jt (X : Cx) (E : Ent) (W : WX) (e : Expr) (c : PB) : Prop := PT X e (rdt X.K E W c)
abbrev JF (X : Cx) (E : Ent) (W : WX) (e : Expr) (c : IC) : Prop := PE X e (rdF X.K E W c)
abbrev JN (X : Cx) (E : Ent) (W : WX) (e : Expr) (c : IL) : Prop := PE X e (rdN X.K E W c)
abbrev JA (X : Cx) (E : Ent) (W : WX) (es : List Expr) (c : IL) : Prop := PA X es (rdA X.K E W c)
abbrev JT (X : Cx) (E : Ent) (W : WX) (e : Expr) (c : IB) : Prop := PT X e (rdT X.K E W c)
abbrev JS (X : Cx) (E : Ent) (W : WX) (e : Stmt) (c : SC) : Prop := PS X e (rdS X.K E W c)
abbrev JSs (X : Cx) (E : Ent) (W : WX) (e : List Stmt) (c : SC) : Prop := PSs X e (rdS X.K E W c)
end FL

set_option maxHeartbeats 4000000
/-! FL1: expressions that leave the slots as they are. -/
namespace FL
open PySem PySem.Spec PyProof.Rows L2
section
variable {X : Cx} {E : Ent} {W : WX} {e a b : Expr} {es : List Expr} {pos p p2 apos : Pos}
/-! ### from one kind to another -/
/-- a list, its items frozen, its own or not -/
def rdo (K : Fr) (E : Ent) (W : WX) (c : PL) : TE := fun σ H Q => ∃ ŝ F own, StR K E F ŝ σ H own ∧ ResP K E W σ ŝ (c ŝ) fun xs => ∀ a vs F' H', Post F H [] F' H' → H' a = some (.lst vs) → Reps K F' xs vs → Q (.ref a) H'
abbrev Jo (X : Cx) (E : Ent) (W : WX) (e : Expr) (c : PL) : Prop := PE X e (rdo X.K E W c)
theorem f_v {c : PC} (h : Jf X E W e c) : Jv X E W e c := PE_imp h fun σ H Q ⟨ŝ, F, own, S, k⟩ => ⟨ŝ, F, own, S, k.imp fun d q v F' H' P r => q v F' H' P (r.mono P.FH)⟩
def pLst (c : PC) : PL := fun ŝ => (c ŝ).bind fun d => match d with
  | .lst xs => .ok xs
  | _ => .stuck
theorem f_o {c : PC} (h : Jf X E W e c) : Jo X E W e (pLst c) := PE_imp h fun σ H Q ⟨ŝ, F, own, S, k⟩ => ⟨ŝ, F, own, S, k.bind.imp fun d q v F' H' P r => by
  cases d with
  | lst xs =>
    simp only [Rep] at r
    obtain ⟨a, vs, rfl, h1, h2⟩ := r
    exact q a vs F' H' P (P.FH _ _ h1) h2
  | _ => exact q.elim⟩
theorem n_o {c : PL} (h : Jn X E W e c) : Jo X E W e c := PE_imp h fun σ H Q ⟨ŝ, F, own, S, k⟩ => ⟨ŝ, F, own, S, k.imp fun xs q a vs F' H' P _ _ h1 r => q a vs F' H' P h1 r⟩
def pFz (c : PL) : PC := fun ŝ => (c ŝ).bind fun xs => .ok (.lst xs)
theorem n_f {c : PL} (h : Jn X E W e (c)) : Jf X E W e (pFz c) := PE_imp h fun σ H Q ⟨ŝ, F, own, S, k⟩ => ⟨ŝ, F, own, S, k.bind.imp fun xs q a vs F' H' P ha hf h1 r => by
  have ff : Same F' (upd F' a (.lst vs)) := fun b u z => by rw [upd_ne (ne_of_none z hf)]; exact z
  refine q (.ref a) (upd F' a (.lst vs)) H' ⟨fun b u z => ?_, P.FF.trans ff, fun b u z => ?_, P.keep⟩ ?_
  · by_cases hb : b = a
    · subst hb; rw [upd_same] at z; rw [← z]; exact h1
    · rw [upd_ne hb] at z; exact P.FH b u z
  · by_cases hb : b = a
    · subst hb; exact .inr ha
    · rw [upd_ne hb] at z; exact P.new b u z
  · simp only [Rep]
    exact ⟨a, vs, rfl, upd_same, r.mono ff⟩⟩
theorem o_v {c : PL} (h : Jo X E W e (c)) : Jv X E W e (pFz c) := PE_imp h fun σ H Q ⟨ŝ, F, own, S, k⟩ => ⟨ŝ, F, own, S, k.bind.imp fun xs q a vs F' H' P h1 r => q (.ref a) F' H' P (by
  simp only [Rep]
  exact ⟨a, vs, rfl, h1, r.mono P.FH⟩)⟩
/-- a datum without objects -/
def flat : D → Bool
  | .non => true
  | .bl _ => true
  | .int _ => true
  | .str _ => true
  | _ => false
theorem flat_rep {K : Fr} {F F' : Hp} {d : D} {v : V} (h : flat d = true) (r : Rep K F d v) : Rep K F' d v := by
  cases d <;> first | (simp only [Rep] at r ⊢; exact r) | (simp [flat] at h)
def pFlat (c : PC) : PC := fun ŝ => (c ŝ).bind fun d => match flat d with
  | true => .ok d
  | false => .stuck
theorem v_f {c : PC} (h : Jv X E W e c) : Jf X E W e (pFlat c) := PE_imp h fun σ H Q ⟨ŝ, F, own, S, k⟩ => ⟨ŝ, F, own, S, k.bind.imp fun d q v F' H' P r => by
  cases hd : flat d with
  | true => rw [hd] at q; exact q v F' H' P (flat_rep hd r)
  | false => rw [hd] at q; exact q.elim⟩
theorem f_F {c : PC} (h : Jf X E W e c) : JF X E W e (fun ŝ => (c ŝ).out ŝ) := PE_imp h fun σ H Q ⟨ŝ, F, own, S, k⟩ => ⟨ŝ, F, own, S, k.res.imp fun d q v F' H' P r => q v H' F' own (S.grow P) P.FF r⟩
theorem n_N {c : PL} (h : Jn X E W e c) : JN X E W e (fun ŝ => (c ŝ).out ŝ) := PE_imp h fun σ H Q ⟨ŝ, F, own, S, k⟩ => ⟨ŝ, F, own, S, k.res.imp fun xs q a vs F' H' P ha hf h1 r => by
  have S' := S.grow P
  refine q a vs H' F' own S' P.FF ⟨hf, h1, ?_, fun i m => ?_, r⟩
  · cases z : E.H0 a with
    | none => rfl
    | some o =>
      by_cases m : a ∈ E.io.map (·.2)
      · obtain ⟨p, hp, rfl⟩ := List.mem_map.mp m
        obtain ⟨_, ⟨o2, h2⟩, _⟩ := S.sep p.1 p.2 (by rw [S.ios p hp]; simp)
        rw [ha] at h2; cases h2
      · have h2 := S.post.keep a o z m
        rw [ha] at h2; cases h2
  · obtain ⟨_, ⟨o2, h2⟩, _⟩ := S.sep i a m
    rw [ha] at h2; cases h2⟩
theorem a_A {c : PL} (h : Ja X E W es c) : JA X E W es (fun ŝ => (c ŝ).out ŝ) := PA_imp h fun σ H Q ⟨ŝ, F, own, S, k⟩ => ⟨ŝ, F, own, S, k.res.imp fun d q v F' H' P r => q v H' F' own (S.grow P) P.FF r⟩
theorem t_T {c : PB} (h : Jt X E W e c) : JT X E W e (fun ŝ => (c ŝ).out ŝ) := PT_imp h fun σ H Q ⟨ŝ, F, own, S, k⟩ => ⟨ŝ, F, own, S, k.res.imp fun d q F' H' P => q H' F' own (S.grow P) P.FF⟩
def iFz (c : IL) : IC := fun ŝ => (c ŝ).bind fun xs ŝ => .ok (.lst xs) ŝ
theorem N_F {c : IL} (h : JN X E W e c) : JF X E W e (iFz c) := PE_imp h fun σ H Q ⟨ŝ, F, own, S, k⟩ => ⟨ŝ, F, own, S, k.bind.imp fun xs ŝ1 q a vs H' F' own' S' ff M => by
  obtain ⟨S2, f2⟩ := S'.freeze M.hF M.hH M.h0 M.ho
  refine q (.ref a) H' _ own' S2 (ff.trans f2) ?_
  simp only [Rep]
  exact ⟨a, vs, rfl, upd_same, M.r.mono f2⟩⟩

/-! ### names, constants -/
def get (ŝ : AS) (i : Nat) : Option Slot := (ŝ[i]?).join
@[simp] theorem get_nil (i : Nat) : get [] i = none := rfl
@[simp] theorem get_zero (x : Option Slot) (ŝ : AS) : get (x :: ŝ) 0 = x := by simp [get]
@[simp] theorem get_succ (x : Option Slot) (ŝ : AS) (i : Nat) : get (x :: ŝ) (i + 1) = get ŝ i := by simp [get]
theorem get_some {ŝ : AS} {i : Nat} {s : Slot} (h : get ŝ i = some s) : ŝ[i]? = some (some s) := by
  unfold get at h
  cases q : ŝ[i]? with
  | none => rw [q] at h; cases h
  | some o => rw [q] at h; simp at h; rw [h]
def pVar (i : Nat) : PC := fun ŝ => match get ŝ i with
  | some (.fz d) => .ok d
  | _ => .stuck
theorem jf_var (i : Nat) {x : Str} {pos : Pos} (hN : X.N[i]? = some x := by rfl) (hv : Vis X.env.scope x := by first | exact Or.inl rfl | exact Or.inr (Or.inl rfl) | exact Or.inr (Or.inr rfl)) (hd : (x == ("__debug__" : Str)) = false := by decide)
    (hcd : (x == ("__classdict__" : Str)) = false := by decide) : Jf X E W (.Name x pos) (pVar i) := PE_imp (pe_var hN hv hd hcd) fun σ H Q ⟨ŝ, F, own, S, k⟩ => by
  unfold pVar at k
  split at k
  · rename_i d e
    obtain ⟨v, hv, r⟩ := S.sl i _ (get_some e)
    exact ⟨v, hv, k v F H (Post.refl S.fh) r.2⟩
  · exact k.elim
/-- a list of one's own, looked at -/
def pOwn (i : Nat) : PL := fun ŝ => match get ŝ i with
  | some (.ow xs) => .ok xs
  | _ => .stuck
theorem jo_own (i : Nat) {x : Str} {pos : Pos} (hN : X.N[i]? = some x := by rfl) (hv : Vis X.env.scope x := by first | exact Or.inl rfl | exact Or.inr (Or.inl rfl) | exact Or.inr (Or.inr rfl)) (hd : (x == ("__debug__" : Str)) = false := by decide)
    (hcd : (x == ("__classdict__" : Str)) = false := by decide) : Jo X E W (.Name x pos) (pOwn i) := PE_imp (pe_var hN hv hd hcd) fun σ H Q ⟨ŝ, F, own, S, k⟩ => by
  unfold pOwn at k
  split at k
  · rename_i xs e
    obtain ⟨v, hv, a, vs, rfl, _, h1, r⟩ := S.sl i _ (get_some e)
    exact ⟨.ref a, hv, k a vs F H (Post.refl S.fh) h1 r⟩
  · exact k.elim
def pC (d : D) : PC := fun _ => .ok d
theorem jf_int {i j} : Jf X E W (.Constant (.int i) j pos) (pC (.int i)) := PE_imp pe_int fun σ H Q ⟨ŝ, F, own, S, k⟩ => k (.int i) F H (Post.refl S.fh) (by simp only [Rep])
theorem jf_str {x j} : Jf X E W (.Constant (.str x) j pos) (pC (.str x)) := PE_imp pe_str fun σ H Q ⟨ŝ, F, own, S, k⟩ => k (.str x) F H (Post.refl S.fh) (by simp only [Rep])
theorem jf_bl {b j} : Jf X E W (.Constant (.bool b) j pos) (pC (.bl b)) := PE_imp pe_bl fun σ H Q ⟨ŝ, F, own, S, k⟩ => k (.bl b) F H (Post.refl S.fh) (by simp only [Rep])
theorem jf_non {j} : Jf X E W (.Constant .none j pos) (pC .non) := PE_imp pe_non fun σ H Q ⟨ŝ, F, own, S, k⟩ => k .non F H (Post.refl S.fh) (by simp only [Rep])
/-- a module's int, text -/
theorem jf_gint {x : Str} {i : Int} {pos : Pos} (hm : ∃ t, X.mg x = some (.int i t)) (hg : Gl X x := by rfl) (hd : (x == ("__debug__" : Str)) = false := by decide) : Jf X E W (.Name x pos) (pC (.int i)) := by
  obtain ⟨t, hm⟩ := hm
  exact PE_imp (pe_glob (v := .int i) hg hm ⟨t, rfl⟩ hd) fun σ H Q ⟨ŝ, F, own, S, k⟩ => k (.int i) F H (Post.refl S.fh) (by simp only [Rep])
theorem jf_gstr {x z : Str} {pos : Pos} (hm : ∃ t, X.mg x = some (.str z t)) (hg : Gl X x := by rfl) (hd : (x == ("__debug__" : Str)) = false := by decide) : Jf X E W (.Name x pos) (pC (.str z)) := by
  obtain ⟨t, hm⟩ := hm
  exact PE_imp (pe_glob (v := .str z) hg hm ⟨t, rfl⟩ hd) fun σ H Q ⟨ŝ, F, own, S, k⟩ => k (.str z) F H (Post.refl S.fh) (by simp only [Rep])
/-- a module's tuple -/
theorem jf_gtup {x : Str} {ds : List D} {vs : List V} {pos : Pos} (hm : X.mg x = some (.ref (He.ga X.K x))) (hs : ∀ H : Hp, SqT X.K H (He.ga X.K x) vs) (hr : ∀ F : Hp, Reps X.K F ds vs) (hg : Gl X x := by rfl) (hd : (x == ("__debug__" : Str)) = false := by decide) :
    Jf X E W (.Name x pos) (pC (.tup ds)) :=
  PE_imp (pe_glob (v := .ref (He.ga X.K x)) hg hm rfl hd) fun σ H Q ⟨ŝ, F, own, S, k⟩ => k _ F H (Post.refl S.fh) (by simp only [Rep]; exact ⟨_, vs, rfl, hs F, hr F⟩)

/-! ### two operands -/
/-- r does by values what f does by data -/
def ROp (K : Fr) (r : R2) (f : D → D → Option D) : Prop := ∀ {a b d : D} {F H : Hp} {v u : V} {Q : VK}, f a b = some d → Same F H → Rep K H a v → Rep K H b u → (∀ z F' H', Post F H [] F' H' → Rep K F' d z → Q z H') → r v u H Q
def pBin (f : D → D → Option D) (c1 c2 : PC) : PC := fun ŝ => (c1 ŝ).bind fun a => (c2 ŝ).bind fun b => .opt (f a b)
theorem two {K : Fr} {r : R2} {f : D → D → Option D} {c1 c2 : PC} (hr : ROp K r f) {σ : L2.St} {H : Hp} {Q : VK} (h : rdf K E W (pBin f c1 c2) σ H Q) : tOp r (rdv K E W c1) (rdv K E W c2) σ H Q := by
  obtain ⟨ŝ, F, own, S, k⟩ := h
  refine ⟨ŝ, F, own, S, k.bind.imp fun a ka v F1 H1 P1 r1 => ⟨ŝ, F1, own, S.grow P1, ka.bind.imp fun b kb u F2 H2 P2 r2 => ?_⟩⟩
  obtain ⟨d, hf, q⟩ := kb.opt
  exact hr hf P2.FH (r1.mono P2.hh) r2 fun z F3 H3 P3 rz => q z F3 H3 ((P1.trans P2).trans P3) rz
theorem jf_op {op : Operator} {r : R2} {f : D → D → Option D} {c1 c2 : PC} (ho : OpR X (binaryOp op) r) (hr : ROp X.K r f) (h1 : Jv X E W a c1) (h2 : Jv X E W b c2) : Jf X E W (.BinOp a op b pos) (pBin f c1 c2) :=
  PE_imp (pe_op ho h1 h2) fun σ H Q h => two hr h
theorem jf_cmp {op : CmpOp} {r : R2} {f : D → D → Option D} {c1 c2 : PC} (ho : OpR X (compareOp op) r) (hr : ROp X.K r f) (h1 : Jv X E W a c1) (h2 : Jv X E W b c2) (hm : behindInMarks op b = false) : Jf X E W (.Compare a [op] [b] pos) (pBin f c1 c2) :=
  PE_imp (pe_cmpR ho h1 h2 hm) fun σ H Q h => two hr h
theorem ROp.or {K : Fr} {r r' : R2} {f g : D → D → Option D} (h : ROp K r f) (h' : ROp K r' g) : ROp K (fun x y H Q => r x y H Q ∨ r' x y H Q) (fun a b => (f a b).orElse fun _ => g a b) := by
  intro a b d F H v u Q e s ra rb q
  dsimp only at e
  cases z : f a b with
  | some d' =>
    rw [z] at e
    cases e
    exact .inl (h z s ra rb q)
  | none =>
    rw [z] at e
    exact .inr (h' e s ra rb q)
/-- a flat result needs nothing new -/
theorem flat_q {K : Fr} {F H : Hp} {d : D} {v : V} {Q : VK} (q : ∀ z F' H', Post F H [] F' H' → Rep K F' d z → Q z H') (s : Same F H) (r : Rep K F d v) : Q v H := q v F H (Post.refl s) r
/-- a new tuple -/
theorem tup_q {K : Fr} {F H : Hp} {ds : List D} {vs : List V} {Q : VK} (q : ∀ z F' H', Post F H [] F' H' → Rep K F' (.tup ds) z → Q z H') (s : Same F H) (r : Reps K F ds vs) : ∀ p, H p = none → Q (.ref p) (upd H p (.tup vs)) := fun p hp =>
  q (.ref p) (upd F p (.tup vs)) _ (Post.alloc s hp) (by
    simp only [Rep]
    exact ⟨p, vs, rfl, SqT.of upd_same, r.mono (Post.alloc s hp).FF⟩)
end
section
variable {K : Fr}
def oAdd : D → D → Option D
  | .int i, .int j => some (.int (i + j))
  | .str x, .str y => if x.length + y.length ≤ 16777216 then some (.str (x ++ y)) else none
  | _, _ => none
def rAddX : R2 := fun x y H Q => rI0 (fun i j => .int (i + j)) x y H Q ∨ ∃ i j, x = .str i ∧ y = .str j ∧ i.length + j.length ≤ sizeLine ∧ Q (.str (i ++ j)) H
theorem op_addX {X : Cx} : OpR X (binaryOp .Add) rAddX := op_add.or op_add_str
theorem r_add : ROp K rAddX oAdd := by
  intro a b d F H v u Q e s ra rb q
  cases a with
  | int i =>
    cases b with
    | int j =>
      simp only [oAdd, Option.some.injEq] at e; subst e
      simp only [Rep] at ra rb; subst ra; subst rb
      exact .inl ⟨i, j, rfl, rfl, flat_q q s (by simp only [Rep])⟩
    | _ => simp [oAdd] at e
  | str x =>
    cases b with
    | str y =>
      simp only [oAdd] at e
      split at e
      · rename_i hz
        cases e
        simp only [Rep] at ra rb; subst ra; subst rb
        exact .inr ⟨x, y, rfl, rfl, by rw [sizeLine_eq]; exact hz, flat_q q s (by simp only [Rep])⟩
      · cases e
    | _ => simp [oAdd] at e
  | _ => cases b <;> simp [oAdd] at e
def oSub : D → D → Option D
  | .int i, .int j => some (.int (i - j))
  | _, _ => none
theorem r_int0 {g : Int → Int → Int} {f : D → D → Option D} (hf : ∀ a b d, f a b = some d → ∃ i j, a = .int i ∧ b = .int j ∧ d = .int (g i j)) : ROp K (rI0 fun i j => .int (g i j)) f := by
  intro a b d F H v u Q e s ra rb q
  obtain ⟨i, j, rfl, rfl, rfl⟩ := hf a b d e
  simp only [Rep] at ra rb; subst ra; subst rb
  exact ⟨i, j, rfl, rfl, flat_q q s (by simp only [Rep])⟩
theorem r_intC {C : Int → Int → Prop} {g : Int → Int → Int} {f : D → D → Option D} (hf : ∀ a b d, f a b = some d → ∃ i j, a = .int i ∧ b = .int j ∧ C i j ∧ d = .int (g i j)) : ROp K (rI C fun i j => .int (g i j)) f := by
  intro a b d F H v u Q e s ra rb q
  obtain ⟨i, j, rfl, rfl, hc, rfl⟩ := hf a b d e
  simp only [Rep] at ra rb; subst ra; subst rb
  exact ⟨i, j, rfl, rfl, hc, flat_q q s (by simp only [Rep])⟩
theorem r_sub : ROp K (rI0 fun i j => .int (i - j)) oSub := r_int0 fun a b d e => by
  cases a <;> cases b <;> simp [oSub] at e
  exact ⟨_, _, rfl, rfl, e.symm⟩
def mulOk (i j : Int) : Bool := decide ((-(2 ^ 64) < i ∧ i < 2 ^ 64) ∨ (-(2 ^ 64) < j ∧ j < 2 ^ 64) ∨ (-(2 ^ 1200) < i ∧ i < 2 ^ 1200 ∧ -(2 ^ 1200) < j ∧ j < 2 ^ 1200))
def CMulX (i j : Int) : Prop := CMul i j ∨ CMulW i j
theorem op_mulX {X : Cx} : OpR X (binaryOp .Mult) (rI CMulX fun i j => .int (i * j)) := by
  intro pins s σ H x y v u Q I rx ry h
  obtain ⟨i, j, e1, e2, hc, q⟩ := h
  rcases hc with hc | hc
  · exact op_mul pins s σ H x y v u Q I rx ry ⟨i, j, e1, e2, hc, q⟩
  · exact op_mulW pins s σ H x y v u Q I rx ry ⟨i, j, e1, e2, hc, q⟩
def oMul : D → D → Option D
  | .int i, .int j => if mulOk i j = true then some (.int (i * j)) else none
  | _, _ => none
theorem mulOk_c {i j : Int} (h : mulOk i j = true) : CMulX i j := by
  have h' := of_decide_eq_true h
  rcases h' with z | z | ⟨z1, z2, z3, z4⟩
  · exact .inl (.inl z)
  · exact .inl (.inr z)
  · exact .inr (wide_mul (a := 1200) (b := 1200) (by omega) (by omega) (by decide) (by decide) (by decide))
theorem r_mul : ROp K (rI CMulX fun i j => .int (i * j)) oMul := r_intC fun a b d e => by
  cases a <;> cases b <;> simp [oMul] at e
  exact ⟨_, _, rfl, rfl, mulOk_c e.1, e.2.symm⟩
def oDiv : D → D → Option D
  | .int i, .int j => if 0 < j ∧ j < 2 ^ 1200 then some (.int (i / j)) else none
  | _, _ => none
theorem r_div : ROp K (rI CDivW fun i j => .int (i / j)) oDiv := r_intC fun a b d e => by
  cases a <;> cases b <;> simp [oDiv] at e
  obtain ⟨⟨h1, h2⟩, h3⟩ := e
  exact ⟨_, _, rfl, rfl, wide_div (b := 1200) h1 (by omega) (by decide) (by decide), h3.symm⟩
def oMod : D → D → Option D
  | .int i, .int j => if 0 < j then some (.int (i % j)) else none
  | _, _ => none
theorem r_mod : ROp K (rI (fun _ j => 0 < j) fun i j => .int (i % j)) oMod := r_intC fun a b d e => by
  cases a <;> cases b <;> simp [oMod] at e
  exact ⟨_, _, rfl, rfl, e.1, e.2.symm⟩
def oPow : D → D → Option D
  | .int i, .int j => if 0 ≤ j ∧ j ≤ 1000000 ∧ -(2 ^ 64) < i ∧ i < 2 ^ 64 then some (.int (i ^ j.toNat)) else none
  | _, _ => none
theorem r_pow : ROp K (rI CPow fun i j => .int (i ^ j.toNat)) oPow := r_intC fun a b d e => by
  cases a <;> cases b <;> simp [oPow] at e
  obtain ⟨⟨h1, h2, h3, h4⟩, h5⟩ := e
  exact ⟨_, _, rfl, rfl, ⟨h1, h2, by omega⟩, h5.symm⟩
end
/-! ### two frozen operands; lists -/
def ROpF (K : Fr) (r : R2) (f : D → D → Option D) : Prop := ∀ {a b d : D} {F H : Hp} {v u : V} {Q : VK}, f a b = some d → Same F H → Rep K F a v → Rep K F b u → (∀ z F' H', Post F H [] F' H' → Rep K F' d z → Q z H') → r v u H Q
section
variable {X : Cx} {E : Ent} {W : WX} {e a b : Expr} {es : List Expr} {pos p p2 apos : Pos} {K : Fr}
theorem twoF {r : R2} {f : D → D → Option D} {c1 c2 : PC} (hr : ROpF K r f) {σ : L2.St} {H : Hp} {Q : VK} (h : rdf K E W (pBin f c1 c2) σ H Q) : tOp r (rdf K E W c1) (rdf K E W c2) σ H Q := by
  obtain ⟨ŝ, F, own, S, k⟩ := h
  refine ⟨ŝ, F, own, S, k.bind.imp fun a ka v F1 H1 P1 r1 => ⟨ŝ, F1, own, S.grow P1, ka.bind.imp fun b kb u F2 H2 P2 r2 => ?_⟩⟩
  obtain ⟨d, hf, q⟩ := kb.opt
  exact hr hf P2.FH (r1.mono P2.FF) r2 fun z F3 H3 P3 rz => q z F3 H3 ((P1.trans P2).trans P3) rz
theorem jf_opF {op : Operator} {r : R2} {f : D → D → Option D} {c1 c2 : PC} (ho : OpR X (binaryOp op) r) (hr : ROpF X.K r f) (h1 : Jf X E W a c1) (h2 : Jf X E W b c2) : Jf X E W (.BinOp a op b pos) (pBin f c1 c2) :=
  PE_imp (pe_op ho h1 h2) fun σ H Q h => twoF hr h
def oCatT : D → D → Option D
  | .tup xs, .tup ys => if xs.length + ys.length ≤ 16777216 then some (.tup (xs ++ ys)) else none
  | _, _ => none
theorem r_catT : ROpF K (rCatA K) oCatT := by
  intro a b d F H v u Q e s ra rb q
  cases a <;> cases b <;> simp only [oCatT, reduceCtorEq] at e
  rename_i xs ys
  split at e
  · rename_i hz
    cases e
    have ra' := ra; have rb' := rb
    simp only [Rep] at ra rb
    obtain ⟨p, vs, rfl, h1, h2⟩ := ra
    obtain ⟨p', us, rfl, h3, h4⟩ := rb
    have l1 := h2.len
    have l2 := h4.len
    refine ⟨p, p', vs, us, rfl, rfl, sqT_same s h1, sqT_same s h3, by rw [sizeLine_eq]; omega, fun z => ?_, fun _ z => ?_, fun _ _ => tup_q q s (h2.append h4)⟩
    · have e0 : xs = [] := List.eq_nil_of_length_eq_zero (by rw [← l1, z]; rfl)
      subst e0
      exact flat_q q s rb'
    · have e0 : ys = [] := List.eq_nil_of_length_eq_zero (by rw [← l2, z]; rfl)
      subst e0
      exact flat_q q s (by rw [List.append_nil]; exact ra')
  · cases e
/-- lists of frozen items -/
def ROpN (K : Fr) (r : R2) (f : List D → List D → Option (List D)) : Prop := ∀ {xs ys zs : List D} {F H : Hp} {a b : Addr} {vs us : List V} {Q : VK}, f xs ys = some zs → Same F H → H a = some (.lst vs) → H b = some (.lst us) → Reps K F xs vs → Reps K F ys us →
  (∀ p ws, H p = none → Reps K F zs ws → Q (.ref p) (upd H p (.lst ws))) → r (.ref a) (.ref b) H Q
/-- a new list -/
theorem lst_q {K : Fr} {F H : Hp} {zs : List D} {Q : VK} (q : ∀ a vs F' H', Post F H [] F' H' → H a = none → F' a = none → H' a = some (.lst vs) → Reps K F' zs vs → Q (.ref a) H') (s : Same F H) : ∀ p ws, H p = none → Reps K F zs ws → Q (.ref p) (upd H p (.lst ws)) := fun p ws hp r =>
  q p ws F _ (Post.allocO s hp) hp (by
    cases z : F p with
    | none => rfl
    | some o => have := s _ _ z; rw [hp] at this; cases this) upd_same r
def pBinN (f : List D → List D → Option (List D)) (c1 c2 : PL) : PL := fun ŝ => (c1 ŝ).bind fun a => (c2 ŝ).bind fun b => .opt (f a b)
theorem jn_op {op : Operator} {r : R2} {f : List D → List D → Option (List D)} {c1 c2 : PL} (ho : OpR X (binaryOp op) r) (hr : ROpN X.K r f) (h1 : Jo X E W a c1) (h2 : Jo X E W b c2) : Jn X E W (.BinOp a op b pos) (pBinN f c1 c2) :=
  PE_imp (pe_op ho h1 h2) fun σ H Q ⟨ŝ, F, own, S, k⟩ => by
    refine ⟨ŝ, F, own, S, k.bind.imp fun xs ka a1 vs F1 H1 P1 h1 r1 => ⟨ŝ, F1, own, S.grow P1, ka.bind.imp fun ys kb b1 us F2 H2 P2 h2 r2 => ?_⟩⟩
    obtain ⟨zs, hf, q⟩ := kb.opt
    refine hr hf P2.FH (P2.hh _ _ h1) h2 (r1.mono P2.FF) r2 (lst_q (fun p ws F3 H3 P3 hp hf3 h3 r3 => q p ws F3 H3 ((P1.trans P2).trans P3) ?_ hf3 h3 r3) P2.FH)
    cases z : H p with
    | none => rfl
    | some o => have := (P1.trans P2).hh _ _ z; rw [hp] at this; cases this
def oCat : List D → List D → Option (List D) := fun xs ys => if xs.length + ys.length ≤ 16777216 then some (xs ++ ys) else none
theorem r_cat : ROpN K rCat oCat := by
  intro xs ys zs F H a b vs us Q e s ha hb ra rb q
  unfold oCat at e
  split at e
  · rename_i hz
    cases e
    exact ⟨a, b, vs, us, rfl, rfl, ha, hb, by rw [ra.len, rb.len, sizeLine_eq]; exact hz, fun p hp => q p _ hp (ra.append rb)⟩
  · cases e
/-- [..] * n -/
def oRep : List D → D → Option (List D)
  | xs, .int k => if -(2 ^ 63) ≤ k ∧ k < 2 ^ 63 ∧ xs.length * k.toNat ≤ 16777216 then some (List.replicate k.toNat xs).flatten else none
  | _, _ => none
def pRep (c1 : PL) (c2 : PC) : PL := fun ŝ => (c1 ŝ).bind fun a => (c2 ŝ).bind fun b => .opt (oRep a b)
theorem jn_rep {c1 : PL} {c2 : PC} (h1 : Jo X E W a c1) (h2 : Jv X E W b c2) : Jn X E W (.BinOp a .Mult b pos) (pRep c1 c2) :=
  PE_imp (pe_op op_rep h1 h2) fun σ H Q ⟨ŝ, F, own, S, k⟩ => by
    refine ⟨ŝ, F, own, S, k.bind.imp fun xs ka a1 vs F1 H1 P1 h1 r1 => ⟨ŝ, F1, own, S.grow P1, ka.bind.imp fun d kb u F2 H2 P2 r2 => ?_⟩⟩
    obtain ⟨zs, hf, q⟩ := kb.opt
    cases d <;> simp only [oRep, reduceCtorEq] at hf
    rename_i i
    split at hf
    · rename_i hz
      cases hf
      simp only [Rep] at r2; subst r2
      have nl : ∀ p, H2 p = none → H p = none := fun p hp => by
        cases z : H p with
        | none => rfl
        | some o => have := (P1.trans P2).hh _ _ z; rw [hp] at this; cases this
      refine ⟨a1, i, vs, rfl, rfl, P2.hh _ _ h1, hz.1, hz.2.1, by rw [r1.len, sizeLine_eq]; exact hz.2.2, fun p hp => ?_⟩
      exact lst_q (fun p ws F3 H3 P3 hp hf3 h3 r3 => q p ws F3 H3 ((P1.trans P2).trans P3) (nl p hp) hf3 h3 r3) P2.FH p _ hp ((r1.mono P2.FF).rep _)
    · cases hf
end
end FL

set_option maxHeartbeats 4000000
/-! FL2: comparisons, tests, displays, subscripts, calls of built-ins, methods of texts. -/
namespace FL
open PySem PySem.Spec PyProof.Rows L2
/-- where one stands: nothing is handled, there is room for k calls, what is raised is taken -/
structure Ctx (X : Cx) (W : WX) (k : Nat) : Prop where
  calm : X.calm = true
  room : Room k X.A
  tk : Takes X W
  nd : X.N.Nodup
  po : PassesOwn (model X.prog X.w) X.A X.env X.xe
section
variable {X : Cx} {E : Ent} {W : WX} {e a b c : Expr} {es rest : List Expr} {pos p p2 apos : Pos} {K : Fr} {k : Nat}
/-! ### deep equality -/
mutual
def toPy : D → Option PyData
  | .non => some .none
  | .bl b => some (.bool b)
  | .int i => some (.int i)
  | .str s => if PyData.strOk s = true then some (.str s) else none
  | .lst xs => (toPys xs).map .list
  | .tup xs => (toPys xs).map .tuple
  | _ => none
def toPys : List D → Option (List PyData)
  | [] => some []
  | d :: ds => match toPy d, toPys ds with
    | some p, some ps => some (p :: ps)
    | _, _ => none
end
mutual
theorem toPy_dp {H : Hp} : ∀ (d : D) (v : V) (p : PyData), toPy d = some p → Rep K H d v → Dp K H v p
  | .non, v, p, e, r => by simp only [toPy, Option.some.injEq] at e; simp only [Rep] at r; subst e; subst r; exact Dp.non
  | .bl b, v, p, e, r => by simp only [toPy, Option.some.injEq] at e; simp only [Rep] at r; subst e; subst r; exact .bl b
  | .int i, v, p, e, r => by simp only [toPy, Option.some.injEq] at e; simp only [Rep] at r; subst e; subst r; exact .int i
  | .str s, v, p, e, r => by
    simp only [toPy] at e; simp only [Rep] at r; subst r
    split at e
    · cases e; exact .str s
    · cases e
  | .lst xs, v, p, e, r => by
    simp only [toPy] at e; simp only [Rep] at r
    obtain ⟨a, vs, rfl, h1, h2⟩ := r
    obtain ⟨ps, e1, rfl⟩ := Option.map_eq_some_iff.mp e
    exact .lst (SqL.of h1) (toPys_dp xs vs ps e1 h2)
  | .tup xs, v, p, e, r => by
    simp only [toPy] at e; simp only [Rep] at r
    obtain ⟨a, vs, rfl, h1, h2⟩ := r
    obtain ⟨ps, e1, rfl⟩ := Option.map_eq_some_iff.mp e
    exact .tup h1 (toPys_dp xs vs ps e1 h2)
  | .ins C ns ds, v, p, e, r => by simp [toPy] at e
  | .dic ks ds, v, p, e, r => by simp [toPy] at e
  | .scr xs, v, p, e, r => by simp [toPy] at e
theorem toPys_dp {H : Hp} : ∀ (ds : List D) (vs : List V) (ps : List PyData), toPys ds = some ps → Reps K H ds vs → DpAll K H vs ps
  | [], vs, ps, e, r => by simp only [toPys, Option.some.injEq] at e; simp only [Reps] at r; subst e; subst r; exact .nil
  | d :: ds, vs, ps, e, r => by
    simp only [toPys] at e
    simp only [Reps] at r
    obtain ⟨v, us, rfl, h1, h2⟩ := r
    split at e
    · rename_i q qs e1 e2
      cases e
      exact .cons (toPy_dp d v q e1 h1) (toPys_dp ds us qs e2 h2)
    · cases e
end
mutual
theorem toPy_lay : ∀ (d : D) (p : PyData), toPy d = some p → p.canLay0 = true
  | .non, p, e => by simp only [toPy, Option.some.injEq] at e; subst e; simp [PyData.canLay0]
  | .bl b, p, e => by simp only [toPy, Option.some.injEq] at e; subst e; simp [PyData.canLay0]
  | .int i, p, e => by simp only [toPy, Option.some.injEq] at e; subst e; simp [PyData.canLay0]
  | .str s, p, e => by
    simp only [toPy] at e
    split at e
    · rename_i h; cases e; simpa [PyData.canLay0] using h
    · cases e
  | .lst xs, p, e => by
    simp only [toPy] at e
    obtain ⟨ps, e1, rfl⟩ := Option.map_eq_some_iff.mp e
    simpa [PyData.canLay0] using toPys_lay xs ps e1
  | .tup xs, p, e => by
    simp only [toPy] at e
    obtain ⟨ps, e1, rfl⟩ := Option.map_eq_some_iff.mp e
    simpa [PyData.canLay0] using toPys_lay xs ps e1
  | .ins C ns ds, p, e => by simp [toPy] at e
  | .dic ks ds, p, e => by simp [toPy] at e
  | .scr xs, p, e => by simp [toPy] at e
theorem toPys_lay : ∀ (ds : List D) (ps : List PyData), toPys ds = some ps → PyData.canLayAll0 ps = true
  | [], ps, e => by simp only [toPys, Option.some.injEq] at e; subst e; simp [PyData.canLayAll0]
  | d :: ds, ps, e => by
    simp only [toPys] at e
    split at e
    · rename_i q qs e1 e2
      cases e
      simp [PyData.canLayAll0, toPy_lay d q e1, toPys_lay ds qs e2]
    · cases e
end
def oEq : D → D → Option D := fun a b => match toPy a, toPy b with
  | some x, some y => if x.depth ≤ 64 ∧ y.depth ≤ 64 then some (.bl (PyData.eqv x y)) else none
  | _, _ => none
def oNe : D → D → Option D := fun a b => match toPy a, toPy b with
  | some x, some y => if x.depth ≤ 64 ∧ y.depth ≤ 64 then some (.bl (!PyData.eqv x y)) else none
  | _, _ => none
theorem shaped_of {d : D} {x : PyData} (e : toPy d = some x) (h : x.depth ≤ 64) : SeqAt.shaped x = true := by
  unfold SeqAt.shaped
  rw [toPy_lay d x e, Bool.true_and]
  exact decide_eq_true h
theorem r_eq : ROp K (rEqD K) oEq := by
  intro a b d F H v u Q e s ra rb q
  unfold oEq at e
  split at e
  · rename_i x y e1 e2
    split at e
    · rename_i h
      cases e
      exact ⟨x, y, toPy_dp a v x e1 ra, toPy_dp b u y e2 rb, shaped_of e1 h.1, shaped_of e2 h.2, flat_q q s (by simp only [Rep])⟩
    · cases e
  · cases e
theorem r_ne : ROp K (rNeD K) oNe := by
  intro a b d F H v u Q e s ra rb q
  unfold oNe at e
  split at e
  · rename_i x y e1 e2
    split at e
    · rename_i h
      cases e
      exact ⟨x, y, toPy_dp a v x e1 ra, toPy_dp b u y e2 rb, shaped_of e1 h.1, shaped_of e2 h.2, flat_q q s (by simp only [Rep])⟩
    · cases e
  · cases e
theorem Ctx.hu (C : Ctx X W k) : X.A.units + 65 < cLine := by have := C.room.un; omega
theorem jf_eq {c1 c2 : PC} (C : Ctx X W k) (h1 : Jv X E W a c1) (h2 : Jv X E W b c2) : Jf X E W (.Compare a [.Eq] [b] pos) (pBin oEq c1 c2) := jf_cmp (op_eqD (by have := C.hu; omega)) r_eq h1 h2 (nomark _)
theorem jf_ne {c1 c2 : PC} (C : Ctx X W k) (h1 : Jv X E W a c1) (h2 : Jv X E W b c2) : Jf X E W (.Compare a [.NotEq] [b] pos) (pBin oNe c1 c2) := jf_cmp (op_neD (by have := C.hu; omega)) r_ne h1 h2 (nomark _)
theorem r_cmpI {g : Int → Int → Bool} {f : D → D → Option D} (hf : ∀ a b d, f a b = some d → ∃ i j, a = .int i ∧ b = .int j ∧ d = .bl (g i j)) : ROp K (rI0 fun i j => .bl (g i j)) f := by
  intro a b d F H v u Q e s ra rb q
  obtain ⟨i, j, rfl, rfl, rfl⟩ := hf a b d e
  simp only [Rep] at ra rb; subst ra; subst rb
  exact ⟨i, j, rfl, rfl, flat_q q s (by simp only [Rep])⟩
def oI (g : Int → Int → Bool) : D → D → Option D
  | .int i, .int j => some (.bl (g i j))
  | _, _ => none
theorem r_oI (g : Int → Int → Bool) : ROp K (rI0 fun i j => .bl (g i j)) (oI g) := r_cmpI fun a b d e => by
  cases a <;> cases b <;> simp [oI] at e
  exact ⟨_, _, rfl, rfl, e.symm⟩
abbrev oLt := oI fun i j => decide (i < j)
abbrev oLe := oI fun i j => decide (i ≤ j)
abbrev oGt := oI fun i j => decide (j < i)
abbrev oGe := oI fun i j => decide (j ≤ i)
theorem jf_lt {c1 c2 : PC} (h1 : Jv X E W a c1) (h2 : Jv X E W b c2) : Jf X E W (.Compare a [.Lt] [b] pos) (pBin oLt c1 c2) := jf_cmp op_lt (r_oI _) h1 h2 (nomark _)
theorem jf_le {c1 c2 : PC} (h1 : Jv X E W a c1) (h2 : Jv X E W b c2) : Jf X E W (.Compare a [.LtE] [b] pos) (pBin oLe c1 c2) := jf_cmp op_le (r_oI _) h1 h2 (nomark _)
theorem jf_gt {c1 c2 : PC} (h1 : Jv X E W a c1) (h2 : Jv X E W b c2) : Jf X E W (.Compare a [.Gt] [b] pos) (pBin oGt c1 c2) := jf_cmp op_gt (r_oI _) h1 h2 (nomark _)
theorem jf_ge {c1 c2 : PC} (h1 : Jv X E W a c1) (h2 : Jv X E W b c2) : Jf X E W (.Compare a [.GtE] [b] pos) (pBin oGe c1 c2) := jf_cmp op_ge (r_oI _) h1 h2 (nomark _)
/-- texts in order -/
def oS (g : List Nat → List Nat → Bool) : D → D → Option D
  | .str i, .str j => some (.bl (g i.cps.toList j.cps.toList))
  | _, _ => none
theorem jf_leS {c1 c2 : PC} (h1 : Jv X E W a c1) (h2 : Jv X E W b c2) : Jf X E W (.Compare a [.LtE] [b] pos) (pBin (oS fun x y => !decide (y < x)) c1 c2) := jf_cmp op_le_str (by
  intro a b d F H v u Q e s ra rb q
  cases a <;> cases b <;> simp [oS] at e
  subst e
  simp only [Rep] at ra rb; subst ra; subst rb
  exact ⟨_, _, rfl, rfl, flat_q q s (by simp only [Rep]; simp)⟩) h1 h2 (nomark _)
/-- is None, is not None -/
def oIsN : D → Bool
  | .non => true
  | _ => false
theorem isN_rep {H : Hp} {d : D} {v : V} (r : Rep K H d v) : decide (v = .non) = oIsN d := by
  cases d <;> simp only [Rep] at r
  · subst r; rfl
  · subst r; rfl
  · subst r; rfl
  · subst r; rfl
  all_goals (obtain ⟨a, _, r⟩ := r; first | (obtain ⟨_, rfl, _⟩ := r; rfl) | (obtain ⟨rfl, _⟩ := r; rfl))
def pUn (f : D → Option D) (c : PC) : PC := fun ŝ => (c ŝ).bind fun d => .opt (f d)
theorem jf_isN {c1 : PC} {j pos'} (h1 : Jv X E W a c1) : Jf X E W (.Compare a [.Is] [.Constant .none j pos'] pos) (pUn (fun d => some (.bl (oIsN d))) c1) :=
  PE_imp (pe_cmp (pc_isN h1)) fun σ H Q ⟨ŝ, F, own, S, k⟩ => ⟨ŝ, F, own, S, k.bind.imp fun d q v F' H' P r => by
    show Q (.bl (decide (v = .non))) H'
    rw [isN_rep r]
    exact q _ F' H' P (by simp only [Rep])⟩
theorem jf_notN {c1 : PC} {j pos'} (h1 : Jv X E W a c1) : Jf X E W (.Compare a [.IsNot] [.Constant .none j pos'] pos) (pUn (fun d => some (.bl (!oIsN d))) c1) :=
  PE_imp (pe_cmp (pc_notN h1)) fun σ H Q ⟨ŝ, F, own, S, k⟩ => ⟨ŝ, F, own, S, k.bind.imp fun d q v F' H' P r => by
    show Q (.bl (!decide (v = .non))) H'
    rw [isN_rep r]
    exact q _ F' H' P (by simp only [Rep])⟩
/-- a single sign in a text -/
def oInS (g : Bool → Bool) : D → D → Option D
  | .str x, .str y => match x.cps.toList with
    | [c] => some (.bl (g (decide (c ∈ y.cps.toList))))
    | _ => none
  | _, _ => none
theorem one_sign {x : Str} {c : Nat} (h : x.cps.toList = [c]) : x = ⟨#[c]⟩ := TL.ext_tl h
theorem jf_inS {c1 c2 : PC} (h1 : Jv X E W a c1) (h2 : Jv X E W b c2) (hm : behindInMarks .In b = false := by rfl) : Jf X E W (.Compare a [.In] [b] pos) (pBin (oInS fun z => z) c1 c2) := jf_cmp op_in_sign (by
  intro a b d F H v u Q e s ra rb q
  cases a <;> cases b <;> simp only [oInS, reduceCtorEq] at e
  split at e
  · rename_i c hc
    cases e
    simp only [Rep] at ra rb; subst ra; subst rb
    exact ⟨c, _, by rw [one_sign hc], rfl, flat_q q s (by simp only [Rep])⟩
  · cases e) h1 h2 hm
/-- a datum in a list of data -/
def oInL (g : Bool → Bool) : D → D → Option D := fun a b => match toPy a, b with
  | some x, .lst ys => (match toPys ys with
    | some ds => if x.depth ≤ 64 ∧ (PyData.list ds).depth ≤ 64 then some (.bl (g (ds.any fun z => PyData.eqv z x))) else none
    | none => none)
  | _, _ => none
theorem oInL_of {a b d : D} {g : Bool → Bool} (e : oInL g a b = some d) : ∃ x ys ds, toPy a = some x ∧ b = .lst ys ∧ toPys ys = some ds ∧ x.depth ≤ 64 ∧ (PyData.list ds).depth ≤ 64 ∧ d = .bl (g (ds.any fun z => PyData.eqv z x)) := by
  unfold oInL at e
  split at e
  · rename_i x ys e1
    split at e
    · rename_i ds e2
      split at e
      · rename_i h
        cases e
        exact ⟨x, ys, ds, e1, rfl, e2, h.1, h.2, rfl⟩
      · cases e
    · cases e
  · cases e
theorem toPy_lst {ys : List D} {ds : List PyData} (e : toPys ys = some ds) : toPy (.lst ys) = some (.list ds) := by simp only [toPy, e, Option.map_some]
theorem jf_inL {c1 c2 : PC} (C : Ctx X W k) (h1 : Jv X E W a c1) (h2 : Jv X E W b c2) (hm : behindInMarks .In b = false := by rfl) : Jf X E W (.Compare a [.In] [b] pos) (pBin (oInL fun z => z) c1 c2) := jf_cmp (op_inD C.hu) (by
  intro a b d F H v u Q e s ra rb q
  obtain ⟨x, ys, ds, e1, rfl, e2, d1, d2, rfl⟩ := oInL_of e
  exact ⟨x, ds, toPy_dp a v x e1 ra, toPy_dp _ u _ (toPy_lst e2) rb, shaped_of e1 d1, shaped_of (toPy_lst e2) d2, flat_q q s (by simp only [Rep])⟩) h1 h2 hm
theorem jf_ninL {c1 c2 : PC} (C : Ctx X W k) (h1 : Jv X E W a c1) (h2 : Jv X E W b c2) (hm : behindInMarks .NotIn b = false := by rfl) : Jf X E W (.Compare a [.NotIn] [b] pos) (pBin (oInL fun z => !z) c1 c2) := jf_cmp (op_notInD C.hu) (by
  intro a b d F H v u Q e s ra rb q
  obtain ⟨x, ys, ds, e1, rfl, e2, d1, d2, rfl⟩ := oInL_of e
  exact ⟨x, ds, toPy_dp a v x e1 ra, toPy_dp _ u _ (toPy_lst e2) rb, shaped_of e1 d1, shaped_of (toPy_lst e2) d2, flat_q q s (by simp only [Rep])⟩) h1 h2 hm
/-- a scalar in a tuple (or list) of scalars -/
def flV : D → Option V
  | .non => some .non
  | .bl b => some (.bl b)
  | .int i => some (.int i)
  | .str s => some (.str s)
  | _ => none
def flVs : List D → Option (List V)
  | [] => some []
  | d :: ds => match flV d, flVs ds with
    | some v, some vs => some (v :: vs)
    | _, _ => none
theorem flV_rep {H : Hp} {d : D} {v w : V} (e : flV d = some w) (r : Rep K H d v) : v = w ∧ flatV w = true := by
  cases d <;> simp only [flV, Option.some.injEq, reduceCtorEq] at e <;> (simp only [Rep] at r; subst e; exact ⟨r, rfl⟩)
theorem flVs_rep {H : Hp} : ∀ {ds : List D} {vs ws : List V}, flVs ds = some ws → Reps K H ds vs → vs = ws ∧ ws.all flatV = true
  | [], vs, ws, e, r => by simp only [flVs, Option.some.injEq] at e; simp only [Reps] at r; subst e; exact ⟨r, rfl⟩
  | d :: ds, vs, ws, e, r => by
    simp only [flVs] at e
    simp only [Reps] at r
    obtain ⟨v, us, rfl, h1, h2⟩ := r
    split at e
    · rename_i x xs e1 e2
      cases e
      obtain ⟨rfl, f1⟩ := flV_rep e1 h1
      obtain ⟨rfl, f2⟩ := flVs_rep e2 h2
      exact ⟨rfl, by simp [f1, f2]⟩
    · cases e
def oInT (g : Bool → Bool) : D → D → Option D := fun a b => match flV a, b with
  | some x, .tup ys => (match flVs ys with
    | some vs => some (.bl (g (inV x vs)))
    | none => none)
  | _, _ => none
theorem oInT_of {a b d : D} {g : Bool → Bool} (e : oInT g a b = some d) : ∃ x ys vs, flV a = some x ∧ b = .tup ys ∧ flVs ys = some vs ∧ d = .bl (g (inV x vs)) := by
  unfold oInT at e
  split at e
  · rename_i x ys e1
    split at e
    · rename_i vs e2
      cases e
      exact ⟨x, ys, vs, e1, rfl, e2, rfl⟩
    · cases e
  · cases e
theorem jf_inT {c1 c2 : PC} (h1 : Jv X E W a c1) (h2 : Jv X E W b c2) (hm : behindInMarks .In b = false := by rfl) : Jf X E W (.Compare a [.In] [b] pos) (pBin (oInT fun z => z) c1 c2) := jf_cmp op_in_seq (by
  intro a b d F H v u Q e s ra rb q
  obtain ⟨x, ys, vs, e1, rfl, e2, rfl⟩ := oInT_of e
  obtain ⟨rfl, f1⟩ := flV_rep e1 ra
  simp only [Rep] at rb
  obtain ⟨p, us, rfl, h1, h2⟩ := rb
  obtain ⟨rfl, f2⟩ := flVs_rep e2 h2
  exact ⟨p, us, rfl, .inr h1, f1, f2, flat_q q s (by simp only [Rep]; simp)⟩) h1 h2 hm
theorem jf_ninT {c1 c2 : PC} (h1 : Jv X E W a c1) (h2 : Jv X E W b c2) (hm : behindInMarks .NotIn b = false := by rfl) : Jf X E W (.Compare a [.NotIn] [b] pos) (pBin (oInT fun z => !z) c1 c2) := jf_cmp op_notIn_seq (by
  intro a b d F H v u Q e s ra rb q
  obtain ⟨x, ys, vs, e1, rfl, e2, rfl⟩ := oInT_of e
  obtain ⟨rfl, f1⟩ := flV_rep e1 ra
  simp only [Rep] at rb
  obtain ⟨p, us, rfl, h1, h2⟩ := rb
  obtain ⟨rfl, f2⟩ := flVs_rep e2 h2
  exact ⟨p, us, rfl, .inr h1, f1, f2, flat_q q s (by simp only [Rep]; simp)⟩) h1 h2 hm
/-- a op1 b op2 c -/
def pChain (f g : D → D → Option D) (c1 c2 c3 : PC) : PC := fun ŝ => (c1 ŝ).bind fun a => (c2 ŝ).bind fun b => match f a b with
  | some (.bl true) => (c3 ŝ).bind fun c => .opt (g b c)
  | some (.bl false) => .ok (.bl false)
  | _ => .stuck
theorem jf_chain {op op' : CmpOp} {r r' : R2} {f g : D → D → Option D} {c1 c2 c3 : PC} (ho : OpR X (compareOp op) r) (ho' : OpR X (compareOp op') r') (hr : ROp X.K r f) (hr' : ROp X.K r' g) (h1 : Jv X E W a c1) (h2 : Jv X E W b c2) (h3 : Jv X E W c c3)
    (hm : lastMarks [op, op'] [b, c] = false := by with_unfolding_all rfl) : Jf X E W (.Compare a [op, op'] [b, c] pos) (pChain f g c1 c2 c3) :=
  PE_imp (pe_chain ho ho' h1 h2 h3 hm) fun σ H Q ⟨ŝ, F, own, S, k⟩ => by
    refine ⟨ŝ, F, own, S, k.bind.imp fun a ka v F1 H1 P1 r1 => ⟨ŝ, F1, own, S.grow P1, ka.bind.imp fun b kb u F2 H2 P2 r2 => ?_⟩⟩
    have P12 := P1.trans P2
    split at kb
    · rename_i hf
      refine hr hf P2.FH (r1.mono P2.hh) r2 fun z F3 H3 P3 rz => ?_
      simp only [Rep] at rz; subst rz
      refine ⟨true, rfl, ?_⟩
      rw [if_pos rfl]
      have P13 := P12.trans P3
      refine ⟨ŝ, F3, own, S.grow P13, kb.bind.imp fun c kc t F4 H4 P4 r4 => ?_⟩
      obtain ⟨d, hg, q⟩ := kc.opt
      exact hr' hg P4.FH (r2.mono (P3.trans P4).hh) r4 fun z F5 H5 P5 rz => q z F5 H5 ((P13.trans P4).trans P5) rz
    · rename_i hf
      refine hr hf P2.FH (r1.mono P2.hh) r2 fun z F3 H3 P3 rz => ?_
      simp only [Rep] at rz; subst rz
      refine ⟨false, rfl, ?_⟩
      rw [if_neg Bool.false_ne_true]
      exact kb (.bl false) F3 H3 (P12.trans P3) (by simp only [Rep])
    · exact kb.elim

/-! ### and, or, not, if-else; tests -/
def pNot (c : PC) : PC := fun ŝ => (c ŝ).bind fun d => match d with
  | .bl b => .ok (.bl (!b))
  | _ => .stuck
theorem jf_not {c1 : PC} (h : Jv X E W a c1) : Jf X E W (.UnaryOp .Not a pos) (pNot c1) := PE_imp (pe_not h) fun σ H Q ⟨ŝ, F, own, S, k⟩ => ⟨ŝ, F, own, S, k.bind.imp fun d q v F' H' P r => by
  cases d <;> first | (exact q.elim) | skip
  simp only [Rep] at r
  exact ⟨_, r, q _ F' H' P (by simp only [Rep])⟩⟩
def pAnd (c1 c2 : PC) : PC := fun ŝ => (c1 ŝ).bind fun d => match d with
  | .bl true => c2 ŝ
  | .bl false => .ok (.bl false)
  | _ => .stuck
def pOr (c1 c2 : PC) : PC := fun ŝ => (c1 ŝ).bind fun d => match d with
  | .bl true => .ok (.bl true)
  | .bl false => c2 ŝ
  | _ => .stuck
theorem jf_and {c1 c2 : PC} (h1 : Jf X E W a c1) (h2 : Jf X E W (.BoolOp .And (b :: rest) pos) c2) : Jf X E W (.BoolOp .And (a :: b :: rest) pos) (pAnd c1 c2) := PE_imp (pe_and h1 h2) fun σ H Q ⟨ŝ, F, own, S, k⟩ => ⟨ŝ, F, own, S, k.bind.imp fun d q v F' H' P r => by
  cases d <;> first | (exact q.elim) | skip
  rename_i b
  simp only [Rep] at r
  cases b with
  | true => exact ⟨true, r, by rw [if_pos rfl]; exact ⟨ŝ, F', own, S.grow P, ResP.imp q fun d q v F2 H2 P2 r2 => q v F2 H2 (P.trans P2) r2⟩⟩
  | false => exact ⟨false, r, by rw [if_neg Bool.false_ne_true]; exact q _ F' H' P (by simp only [Rep])⟩⟩
theorem jf_or {c1 c2 : PC} (h1 : Jf X E W a c1) (h2 : Jf X E W (.BoolOp .Or (b :: rest) pos) c2) : Jf X E W (.BoolOp .Or (a :: b :: rest) pos) (pOr c1 c2) := PE_imp (pe_or h1 h2) fun σ H Q ⟨ŝ, F, own, S, k⟩ => ⟨ŝ, F, own, S, k.bind.imp fun d q v F' H' P r => by
  cases d <;> first | (exact q.elim) | skip
  rename_i b
  simp only [Rep] at r
  cases b with
  | false => exact ⟨false, r, by rw [if_neg Bool.false_ne_true]; exact ⟨ŝ, F', own, S.grow P, ResP.imp q fun d q v F2 H2 P2 r2 => q v F2 H2 (P.trans P2) r2⟩⟩
  | true => exact ⟨true, r, by rw [if_pos rfl]; exact q _ F' H' P (by simp only [Rep])⟩⟩
theorem jf_one {op} {c1 : PC} (h : Jf X E W a c1) : Jf X E W (.BoolOp op [a] pos) c1 := pe_one h
/-- a datum's truth -/
def truD : D → Option Bool
  | .non => some false
  | .bl b => some b
  | .int i => some (i != 0)
  | .str y => if y.length ≤ 16777216 then some ((y.length : Int) != 0) else none
  | .lst xs => some !xs.isEmpty
  | .tup xs => some !xs.isEmpty
  | _ => none
theorem isEmpty_rep {H : Hp} {ds : List D} {vs : List V} (r : Reps K H ds vs) : vs.isEmpty = ds.isEmpty := by
  have h := r.len
  cases ds <;> cases vs <;> simp at h ⊢
theorem truD_ok {H : Hp} {d : D} {v : V} {t : Bool} (e : truD d = some t) (r : Rep K H d v) : TruV K v H t := by
  cases d <;> simp only [truD, Option.some.injEq, reduceCtorEq] at e <;> simp only [Rep] at r
  · subst r; exact e.symm
  · subst r; exact e.symm
  · subst r; exact e.symm
  · subst r
    split at e
    · rename_i h
      refine ⟨by rw [sizeLine_eq]; exact h, ?_⟩
      simpa using e.symm
    · cases e
  · obtain ⟨a, vs, rfl, h1, h2⟩ := r
    exact .inl ⟨vs, SqL.of h1, by rw [isEmpty_rep h2]; exact e.symm⟩
  · obtain ⟨a, vs, rfl, h1, h2⟩ := r
    exact .inr (.inl ⟨vs, h1, by rw [isEmpty_rep h2]; exact e.symm⟩)
def pTru (c : PC) : PB := fun ŝ => (c ŝ).bind fun d => .opt (truD d)
theorem jt_tru {c1 : PC} (h : Jv X E W a c1) (he : ∀ whole, isTrue a X.env whole = (do let v ← whole; standAt a.pos; holding [v] (truthy v)) := by intro _; rfl) : Jt X E W a (pTru c1) :=
  PT_imp (pt_truth h he) fun σ H Q ⟨ŝ, F, own, S, k⟩ => ⟨ŝ, F, own, S, k.bind.imp fun d q v F' H' P r => by
    obtain ⟨t, e, q⟩ := q.opt
    exact ⟨t, truD_ok e r, q F' H' P⟩⟩
def pBl (c : PC) : PB := fun ŝ => (c ŝ).bind fun d => match d with
  | .bl b => .ok b
  | _ => .stuck
theorem twoT {r : R2} {f : D → D → Option D} {c1 c2 : PC} (hr : ROp K r f) {σ : L2.St} {H : Hp} {Q : Bool → Hp → Prop} (h : rdt K E W (pBl (pBin f c1 c2)) σ H Q) : tTest (tOp r (rdv K E W c1) (rdv K E W c2)) σ H Q := by
  obtain ⟨ŝ, F, own, S, k⟩ := h
  refine two hr (Q := fun x H' => ∃ k, x = .bl k ∧ Q k H') ⟨ŝ, F, own, S, k.bind.imp fun d q v F' H' P r => ?_⟩
  cases d <;> first | (exact q.elim) | skip
  simp only [Rep] at r
  exact ⟨_, r, q F' H' P⟩
theorem jt_cmp {op : CmpOp} {r : R2} {f : D → D → Option D} {c1 c2 : PC} (ho : OpR X (compareOp op) r) (hr : ROp X.K r f) (h1 : Jv X E W a c1) (h2 : Jv X E W b c2) (hm : behindInMarks op b = false) : Jt X E W (.Compare a [op] [b] pos) (pBl (pBin f c1 c2)) :=
  PT_imp (pt_cmpR ho h1 h2 hm) fun σ H Q h => twoT hr h
theorem jt_eq {c1 c2 : PC} (C : Ctx X W k) (h1 : Jv X E W a c1) (h2 : Jv X E W b c2) : Jt X E W (.Compare a [.Eq] [b] pos) (pBl (pBin oEq c1 c2)) := jt_cmp (op_eqD (by have := C.hu; omega)) r_eq h1 h2 (nomark _)
theorem jt_ne {c1 c2 : PC} (C : Ctx X W k) (h1 : Jv X E W a c1) (h2 : Jv X E W b c2) : Jt X E W (.Compare a [.NotEq] [b] pos) (pBl (pBin oNe c1 c2)) := jt_cmp (op_neD (by have := C.hu; omega)) r_ne h1 h2 (nomark _)
theorem jt_lt {c1 c2 : PC} (h1 : Jv X E W a c1) (h2 : Jv X E W b c2) : Jt X E W (.Compare a [.Lt] [b] pos) (pBl (pBin oLt c1 c2)) := jt_cmp op_lt (r_oI _) h1 h2 (nomark _)
theorem jt_le {c1 c2 : PC} (h1 : Jv X E W a c1) (h2 : Jv X E W b c2) : Jt X E W (.Compare a [.LtE] [b] pos) (pBl (pBin oLe c1 c2)) := jt_cmp op_le (r_oI _) h1 h2 (nomark _)
theorem jt_gt {c1 c2 : PC} (h1 : Jv X E W a c1) (h2 : Jv X E W b c2) : Jt X E W (.Compare a [.Gt] [b] pos) (pBl (pBin oGt c1 c2)) := jt_cmp op_gt (r_oI _) h1 h2 (nomark _)
theorem jt_ge {c1 c2 : PC} (h1 : Jv X E W a c1) (h2 : Jv X E W b c2) : Jt X E W (.Compare a [.GtE] [b] pos) (pBl (pBin oGe c1 c2)) := jt_cmp op_ge (r_oI _) h1 h2 (nomark _)
/-- a comparison (or a chain) as a test: by its value -/
theorem jt_val {c1 : PC} (h : Jf X E W a c1) (he : ∀ {Q : Bool → Shared → Prop} {s : Shared}, wpAny (model X.prog X.w) X.A (eval a X.env) (fun v s' => ∃ d, v = .bool d ∧ Q d s') X.xe s → wpAny (model X.prog X.w) X.A (isTrue a X.env (eval a X.env)) Q X.xe s) : Jt X E W a (pBl c1) :=
  ⟨fun pins s σ H Q I ⟨ŝ, F, own, S, k⟩ => he (thn (h.run pins s σ H (fun v H' => ∃ d, v = .bl d ∧ Q d H') I ⟨ŝ, F, own, S, k.bind.imp fun d q v F' H' P r => by
    cases d <;> first | (exact q.elim) | skip
    simp only [Rep] at r
    exact ⟨_, r, q F' H' P⟩⟩) fun v s1 ⟨x, H1, I1, r1, d, e, q⟩ => by
      subst e
      exact ⟨d, r1, H1, I1, q⟩)⟩
def tbNot (c : PB) : PB := fun ŝ => (c ŝ).bind fun b => .ok (!b)
theorem jt_not {c1 : PB} (h : Jt X E W a c1) : Jt X E W (.UnaryOp .Not a pos) (tbNot c1) := PT_imp (pt_not h) fun σ H Q ⟨ŝ, F, own, S, k⟩ => ⟨ŝ, F, own, S, k.bind.imp fun b q F' H' P => q F' H' P⟩
def tbAnd (c1 c2 : PB) : PB := fun ŝ => (c1 ŝ).bind fun b => match b with
  | true => c2 ŝ
  | false => .ok false
def tbOr (c1 c2 : PB) : PB := fun ŝ => (c1 ŝ).bind fun b => match b with
  | true => .ok true
  | false => c2 ŝ
abbrev Jw_ (X : Cx) (E : Ent) (W : WX) (e : Expr) (c : PB) : Prop := PW X e (rdt X.K E W c)
theorem jw_and1 {c1 : PB} (h : Jt X E W a c1) : Jw_ X E W (.BoolOp .And [a] pos) c1 := pw_and1 h
theorem jw_or1 {c1 : PB} (h : Jt X E W a c1) : Jw_ X E W (.BoolOp .Or [a] pos) c1 := pw_or1 h
theorem jw_and {c1 c2 : PB} (h1 : Jt X E W a c1) (h2 : Jw_ X E W (.BoolOp .And (b :: rest) pos) c2) : Jw_ X E W (.BoolOp .And (a :: b :: rest) pos) (tbAnd c1 c2) := PW_imp (pw_and h1 h2) fun σ H Q ⟨ŝ, F, own, S, k⟩ => ⟨ŝ, F, own, S, k.bind.imp fun b q F' H' P => by
  cases b with
  | true => rw [if_pos rfl]; exact ⟨ŝ, F', own, S.grow P, ResP.imp q fun d q F2 H2 P2 => q F2 H2 (P.trans P2)⟩
  | false => rw [if_neg Bool.false_ne_true]; exact q F' H' P⟩
theorem jw_or {c1 c2 : PB} (h1 : Jt X E W a c1) (h2 : Jw_ X E W (.BoolOp .Or (b :: rest) pos) c2) : Jw_ X E W (.BoolOp .Or (a :: b :: rest) pos) (tbOr c1 c2) := PW_imp (pw_or h1 h2) fun σ H Q ⟨ŝ, F, own, S, k⟩ => ⟨ŝ, F, own, S, k.bind.imp fun b q F' H' P => by
  cases b with
  | false => rw [if_neg Bool.false_ne_true]; exact ⟨ŝ, F', own, S.grow P, ResP.imp q fun d q F2 H2 P2 => q F2 H2 (P.trans P2)⟩
  | true => rw [if_pos rfl]; exact q F' H' P⟩
def pIf (t : PB) (c1 c2 : PC) : PC := fun ŝ => (t ŝ).bind fun b => match b with
  | true => c1 ŝ
  | false => c2 ŝ
theorem jf_if {t : PB} {c1 c2 : PC} (h : Jt X E W c t) (h1 : Jf X E W a c1) (h2 : Jf X E W b c2) : Jf X E W (.IfExp c a b pos) (pIf t c1 c2) := PE_imp (pe_ifExp h h1 h2) fun σ H Q ⟨ŝ, F, own, S, k⟩ => ⟨ŝ, F, own, S, k.bind.imp fun b q F' H' P => by
  cases b with
  | true => rw [if_pos rfl]; exact ⟨ŝ, F', own, S.grow P, ResP.imp q fun d q v F2 H2 P2 r => q v F2 H2 (P.trans P2) r⟩
  | false => rw [if_neg Bool.false_ne_true]; exact ⟨ŝ, F', own, S.grow P, ResP.imp q fun d q v F2 H2 P2 r => q v F2 H2 (P.trans P2) r⟩⟩

/-! ### arguments, displays -/
def pNil : PL := fun _ => .ok []
def pCons (c : PC) (cs : PL) : PL := fun ŝ => (c ŝ).bind fun d => (cs ŝ).bind fun ds => .ok (d :: ds)
theorem ja_nil : Ja X E W [] pNil := PA_imp pa_nil fun σ H Q ⟨ŝ, F, own, S, k⟩ => k [] F H (Post.refl S.fh) Reps.nil
theorem jw_nil : Jw X E W [] pNil := PA_imp pa_nil fun σ H Q ⟨ŝ, F, own, S, k⟩ => k [] F H (Post.refl S.fh) Reps.nil
theorem ja_cons {c1 : PC} {cs : PL} (h1 : Jf X E W e c1) (h2 : Ja X E W es cs) (hs : starEach (e :: es) X.env = (false, eval e X.env) :: starEach es X.env := by rfl) : Ja X E W (e :: es) (pCons c1 cs) :=
  PA_imp (pa_cons h1 h2 hs) fun σ H Q ⟨ŝ, F, own, S, k⟩ => ⟨ŝ, F, own, S, k.bind.imp fun d q v F1 H1 P1 r1 => ⟨ŝ, F1, own, S.grow P1, q.bind.imp fun ds q vs F2 H2 P2 r2 => q _ F2 H2 (P1.trans P2) (Reps.cons (r1.mono P2.FF) r2)⟩⟩
theorem jw_cons {c1 : PC} {cs : PL} (h1 : Jv X E W e c1) (h2 : Jw X E W es cs) (hs : starEach (e :: es) X.env = (false, eval e X.env) :: starEach es X.env := by rfl) : Jw X E W (e :: es) (pCons c1 cs) :=
  PA_imp (pa_cons h1 h2 hs) fun σ H Q ⟨ŝ, F, own, S, k⟩ => ⟨ŝ, F, own, S, k.bind.imp fun d q v F1 H1 P1 r1 => ⟨ŝ, F1, own, S.grow P1, q.bind.imp fun ds q vs F2 H2 P2 r2 => q _ F2 H2 (P1.trans P2) (Reps.cons (r1.mono P2.hh) r2)⟩⟩
def pTup (c : PL) : PC := fun ŝ => (c ŝ).bind fun ds => if ds.length ≤ 16777216 then .ok (.tup ds) else .stuck
theorem jf_tup {c : PL} {x1} (h : Ja X E W es c) : Jf X E W (.Tuple es x1 pos) (pTup c) := PE_imp (pe_tup h) fun σ H Q ⟨ŝ, F, own, S, k⟩ => ⟨ŝ, F, own, S, k.bind.imp fun ds q vs F' H' P r => by
  split at q
  · rename_i hz
    exact ⟨by rw [r.len, sizeLine_eq]; exact hz, tup_q (fun z F2 H2 P2 r2 => q z F2 H2 (P.trans P2) r2) P.FH r⟩
  · exact q.elim⟩
theorem none_of {F H F' H' : Hp} (P : Post F H [] F' H') {p : Addr} (hp : H' p = none) : H p = none := by
  cases z : H p with
  | none => rfl
  | some o => have := P.hh _ _ z; rw [hp] at this; cases this
theorem lst_q2 {F H F1 H1 : Hp} {zs : List D} {Q : VK} (q : ∀ a vs F' H', Post F H [] F' H' → H a = none → F' a = none → H' a = some (.lst vs) → Reps K F' zs vs → Q (.ref a) H') (P : Post F H [] F1 H1) : ∀ p ws, H1 p = none → Reps K F1 zs ws → Q (.ref p) (upd H1 p (.lst ws)) :=
  lst_q (fun a vs F' H' P' ha hf h r => q a vs F' H' (P.trans P') (none_of P ha) hf h r) P.FH
def pLs (c : PL) : PL := fun ŝ => (c ŝ).bind fun ds => if ds.length ≤ 16777216 then .ok ds else .stuck
theorem jn_lst {c : PL} (h : Ja X E W es c) : Jn X E W (.List es pos) (pLs c) := PE_imp (pe_lst h) fun σ H Q ⟨ŝ, F, own, S, k⟩ => ⟨ŝ, F, own, S, k.bind.imp fun ds q vs F' H' P r => by
  split at q
  · rename_i hz
    exact ⟨by rw [r.len, sizeLine_eq]; exact hz, fun p hp => lst_q2 q P p vs hp r⟩
  · exact q.elim⟩

/-! ### subscripts -/
def oIx : D → D → Option D
  | .lst xs, .int i => atI xs i
  | .scr xs, .int i => atI xs i
  | .tup xs, .int i => atI xs i
  | .str z, .int i => if z.length ≤ 16777216 then (atI z.cps.toList i).map fun c => .str ⟨#[c]⟩ else none
  | _, _ => none
theorem atI_rep {F : Hp} {ds : List D} {vs : List V} {i : Int} {d : D} (r : Reps K F ds vs) (e : atI ds i = some d) : ∃ v, atI vs i = some v ∧ Rep K F d v := by
  unfold atI at e ⊢
  rw [r.len]
  cases h : ixN ds.length i with
  | none => rw [h] at e; cases e
  | some j =>
    rw [h] at e
    exact r.get e
theorem rIx_by {F H : Hp} {a b d : D} {v u : V} {Q : VK} (e : oIx a b = some d) (s : Same F H) (ra : Rep K F a v) (rb : Rep K H b u) (q : ∀ z, Rep K F d z → Q z H) : rIx K v u H Q := by
  cases b <;> first | (cases a <;> simp [oIx] at e; done) | skip
  rename_i i
  simp only [Rep] at rb; subst rb
  cases a <;> simp only [oIx, reduceCtorEq] at e <;> simp only [Rep] at ra
  · subst ra
    split at e
    · rename_i hz
      obtain ⟨c, e1, rfl⟩ := Option.map_eq_some_iff.mp e
      exact .inr (.inr ⟨_, i, c, rfl, rfl, by rw [sizeLine_eq]; exact hz, e1, q _ (by simp only [Rep])⟩)
    · cases e
  · obtain ⟨p, vs, rfl, h1, h2⟩ := ra
    obtain ⟨w, e1, r1⟩ := atI_rep h2 e
    exact .inl ⟨p, vs, i, w, rfl, rfl, SqL.of (s _ _ h1), e1, q w r1⟩
  · obtain ⟨p, vs, rfl, h1, h2⟩ := ra
    obtain ⟨w, e1, r1⟩ := atI_rep h2 e
    exact .inr (.inl ⟨p, vs, i, w, rfl, rfl, sqT_same s h1, e1, q w r1⟩)
  · obtain ⟨p, vs, rfl, h1, h2⟩ := ra
    obtain ⟨w, e1, r1⟩ := atI_rep h2 e
    exact .inl ⟨p, vs, i, w, rfl, rfl, s.seq h1, e1, q w r1⟩
theorem jf_ix {c1 c2 : PC} (h1 : Jf X E W a c1) (h2 : Jv X E W b c2) (hs : PlainIx b := by intro _ _; rfl) : Jf X E W (.Subscript a b pos) (pBin oIx c1 c2) := PE_imp (pe_ix ix_seq h1 h2 hs) fun σ H Q ⟨ŝ, F, own, S, k⟩ => by
  refine ⟨ŝ, F, own, S, k.bind.imp fun a ka v F1 H1 P1 r1 => ⟨ŝ, F1, own, S.grow P1, ka.bind.imp fun b kb u F2 H2 P2 r2 => ?_⟩⟩
  obtain ⟨d, hf, q⟩ := kb.opt
  exact rIx_by hf P2.FH (r1.mono P2.FF) r2 fun z rz => q z F2 H2 (P1.trans P2) rz
theorem jv_ix {c1 c2 : PC} (h1 : Jv X E W a c1) (h2 : Jv X E W b c2) (hs : PlainIx b := by intro _ _; rfl) : Jv X E W (.Subscript a b pos) (pBin oIx c1 c2) := PE_imp (pe_ix ix_seq h1 h2 hs) fun σ H Q ⟨ŝ, F, own, S, k⟩ => by
  refine ⟨ŝ, F, own, S, k.bind.imp fun a ka v F1 H1 P1 r1 => ⟨ŝ, F1, own, S.grow P1, ka.bind.imp fun b kb u F2 H2 P2 r2 => ?_⟩⟩
  obtain ⟨d, hf, q⟩ := kb.opt
  exact rIx_by (F := H2) hf (Same.refl _) (r1.mono P2.hh) r2 fun z rz => q z F2 H2 (P1.trans P2) rz
def pIxO (c1 : PL) (c2 : PC) : PC := fun ŝ => (c1 ŝ).bind fun xs => (c2 ŝ).bind fun b => .opt (oIx (.lst xs) b)
theorem jf_ixO {c1 : PL} {c2 : PC} (h1 : Jo X E W a c1) (h2 : Jv X E W b c2) (hs : PlainIx b := by intro _ _; rfl) : Jf X E W (.Subscript a b pos) (pIxO c1 c2) := PE_imp (pe_ix ix_seq h1 h2 hs) fun σ H Q ⟨ŝ, F, own, S, k⟩ => by
  refine ⟨ŝ, F, own, S, k.bind.imp fun xs ka a1 vs F1 H1 P1 hl r1 => ⟨ŝ, F1, own, S.grow P1, ka.bind.imp fun b kb u F2 H2 P2 r2 => ?_⟩⟩
  obtain ⟨d, hf, q⟩ := kb.opt
  cases b <;> simp only [oIx, reduceCtorEq] at hf
  rename_i i
  simp only [Rep] at r2; subst r2
  obtain ⟨w, e1, r3⟩ := atI_rep (r1.mono P2.FF) hf
  exact .inl ⟨a1, vs, i, w, rfl, rfl, SqL.of (P2.hh _ _ hl), e1, q w F2 H2 (P1.trans P2) r3⟩
/-! slices -/
abbrev PQ := AS → Res (Option Int)
def rdq (K : Fr) (E : Ent) (W : WX) (c : PQ) : TO := fun σ H Q => ∃ ŝ F own, StR K E F ŝ σ H own ∧ ResP K E W σ ŝ (c ŝ) fun o => ∀ F' H', Post F H [] F' H' → Q o H'
abbrev Jq (X : Cx) (E : Ent) (W : WX) (e : Option Expr) (c : PQ) : Prop := L2.PO X e (rdq X.K E W c)
def qNone : PQ := fun _ => .ok none
def qSome (c : PC) : PQ := fun ŝ => (c ŝ).bind fun d => match d with
  | .int i => .ok (some i)
  | _ => .stuck
theorem jq_none : Jq X E W none qNone := ⟨fun pins s σ H Q I ⟨ŝ, F, own, S, k⟩ => po_none.run pins s σ H Q I (k F H (Post.refl S.fh))⟩
theorem jq_some {c : PC} (h : Jv X E W e c) : Jq X E W (some e) (qSome c) := ⟨fun pins s σ H Q I ⟨ŝ, F, own, S, k⟩ => (po_some h).run pins s σ H Q I ⟨ŝ, F, own, S, k.bind.imp fun d q v F' H' P r => by
  cases d <;> first | (exact q.elim) | skip
  simp only [Rep] at r
  exact ⟨_, r, q F' H' P⟩⟩⟩
def cutD {α : Type} (xs : List α) (lo hi : Option Int) : List α := (xs.drop (HT.sIx xs.length 0 lo)).take (HT.sIx xs.length xs.length hi - HT.sIx xs.length 0 lo)
theorem cut_rep {F : Hp} {ds : List D} {vs : List V} (r : Reps K F ds vs) (lo hi : Option Int) : Reps K F (cutD ds lo hi) (cutV vs lo hi) := by
  unfold cutD cutV
  rw [r.len]
  exact (r.drop _).take _
def pSlL (c : PL) (l h : PQ) : PL := fun ŝ => (c ŝ).bind fun xs => (l ŝ).bind fun lo => (h ŝ).bind fun hi => .ok (cutD xs lo hi)
variable {lo hi : Option Expr}
theorem jn_slice {c : PL} {l h : PQ} (h1 : Jo X E W a c) (h2 : Jq X E W lo l) (h3 : Jq X E W hi h) : Jn X E W (.Subscript a (.Slice lo hi none p2) pos) (pSlL c l h) := PE_imp (pe_slice sl_list h1 h2 h3) fun σ H Q ⟨ŝ, F, own, S, k⟩ =>
  ⟨ŝ, F, own, S, k.bind.imp fun xs q a1 vs F1 H1 P1 hl r1 => ⟨ŝ, F1, own, S.grow P1, q.bind.imp fun lo q F2 H2 P2 => ⟨ŝ, F2, own, S.grow (P1.trans P2), q.bind.imp fun hi q F3 H3 P3 =>
    ⟨a1, vs, rfl, SqL.of ((P2.trans P3).hh _ _ hl), fun p hp => lst_q2 q ((P1.trans P2).trans P3) p _ hp (cut_rep (r1.mono (P2.trans P3).FF) lo hi)⟩⟩⟩⟩
/-- a slice of the script (or of a written list) -/
def pScr (c : PC) : PL := fun ŝ => (c ŝ).bind fun d => match d with
  | .scr xs => .ok xs
  | _ => .stuck
theorem jn_sliceS {c : PC} {l h : PQ} (h1 : Jf X E W a c) (h2 : Jq X E W lo l) (h3 : Jq X E W hi h) : Jn X E W (.Subscript a (.Slice lo hi none p2) pos) (pSlL (pScr c) l h) := PE_imp (pe_slice sl_list h1 h2 h3) fun σ H Q ⟨ŝ, F, own, S, k⟩ =>
  ⟨ŝ, F, own, S, k.bind.bind.imp fun d q v F1 H1 P1 r1 => by
    cases d <;> first | (exact q.elim) | skip
    rename_i xs
    simp only [Rep] at r1
    obtain ⟨a1, vs, rfl, hl, r1⟩ := r1
    exact ⟨ŝ, F1, own, S.grow P1, ResP.bind q |>.imp fun lo q F2 H2 P2 => ⟨ŝ, F2, own, S.grow (P1.trans P2), q.bind.imp fun hi q F3 H3 P3 =>
      ⟨a1, vs, rfl, Same.seq ((P1.FH.trans P2.hh).trans P3.hh) hl, fun p hp => lst_q2 q ((P1.trans P2).trans P3) p _ hp (cut_rep (r1.mono (P2.trans P3).FF) lo hi)⟩⟩⟩⟩
def pSlT (c : PC) (l h : PQ) : PC := fun ŝ => (c ŝ).bind fun d => (l ŝ).bind fun lo => (h ŝ).bind fun hi => match d with
  | .tup xs => .ok (.tup (cutD xs lo hi))
  | .str z => if z.length ≤ 16777216 then .ok (.str (cutS z lo hi)) else .stuck
  | _ => .stuck
def rSlX (K : Fr) : V → Option Int → Option Int → Hp → VK → Prop := fun x lo hi H Q => rSlA K x lo hi H Q ∨ rSlS x lo hi H Q
theorem sl_X : SlR X (rSlX X.K) := sl_tupA.or sl_str
theorem jf_slice {c : PC} {l h : PQ} (h1 : Jf X E W a c) (h2 : Jq X E W lo l) (h3 : Jq X E W hi h) : Jf X E W (.Subscript a (.Slice lo hi none p2) pos) (pSlT c l h) := PE_imp (pe_slice sl_X h1 h2 h3) fun σ H Q ⟨ŝ, F, own, S, k⟩ =>
  ⟨ŝ, F, own, S, k.bind.imp fun d q v F1 H1 P1 r1 => ⟨ŝ, F1, own, S.grow P1, q.bind.imp fun lo q F2 H2 P2 => ⟨ŝ, F2, own, S.grow (P1.trans P2), q.bind.imp fun hi q F3 H3 P3 => by
    have P := (P1.trans P2).trans P3
    have r := r1.mono (P2.trans P3).FF
    cases d with
    | str z =>
      simp only [Rep] at r; subst r
      simp only at q
      split at q
      · rename_i hz
        exact .inr ⟨z, rfl, by rw [sizeLine_eq]; exact hz, q _ F3 H3 P (by simp only [Rep])⟩
      · exact q.elim
    | tup xs =>
      have r' := r
      simp only [Rep] at r
      obtain ⟨p, vs, rfl, e1, e2⟩ := r
      have l := e2.len
      refine .inl ⟨p, vs, rfl, sqT_same P3.FH e1, fun hw => ?_, fun _ => tup_q (fun z F4 H4 P4 r4 => q z F4 H4 (P.trans P4) r4) P3.FH (cut_rep e2 lo hi)⟩
      refine q _ F3 H3 P ?_
      have e3 : cutD xs lo hi = xs := by
        unfold cutD
        rw [← l, hw.1, hw.2]
        simp [l]
      rw [e3]
      exact r'
    | _ => exact q.elim⟩⟩⟩
end
end FL

set_option maxHeartbeats 4000000
/-! FL3: what is walked; targets; statements. -/
namespace FL
open PySem PySem.Spec PyProof.Rows L2
/-! ### what is walked -/
/-- the iterator J gives the data ds, whatever else happens, as long as what is frozen stands -/
def ItR (K : Fr) (F : Hp) (J : It) (ds : List D) : Prop := ∃ (G : Hp → Prop) (Y : Nat → Hp → V → Hp → Prop), Walk J ds.length G Y ∧ (∀ H, Same F H → G H) ∧
  ∀ i Ha v Hb F2, i < ds.length → Y i Ha v Hb → Same F F2 → Same F2 Ha → ∃ F3 d, Post F2 Ha [] F3 Hb ∧ ds[i]? = some d ∧ Rep K F3 d v
theorem ItR.mono {K : Fr} {F F' : Hp} {J : It} {ds : List D} (e : Same F F') (h : ItR K F J ds) : ItR K F' J ds := by
  obtain ⟨G, Y, w, g, y⟩ := h
  exact ⟨G, Y, w, fun H s => g H (e.trans s), fun i Ha v Hb F2 hi hy s s2 => y i Ha v Hb F2 hi hy (e.trans s) s2⟩
theorem itr_at {K : Fr} {F : Hp} {J : It} {ds : List D} {vs : List V} {G : Hp → Prop} (hg : ∀ H, Same F H → G H) (r : Reps K F ds vs) (w : Walk J vs.length G (YAt vs)) : ItR K F J ds := by
  refine ⟨G, YAt vs, by rw [← r.len]; exact w, hg, fun i Ha v Hb F2 hi hy s s2 => ?_⟩
  obtain ⟨e, hv⟩ := hy
  subst e
  have hi : i < ds.length := by rw [← r.len]; exact (List.getElem?_eq_some_iff.mp hv).1
  obtain ⟨u, hu, ru⟩ := r.get (List.getElem?_eq_getElem hi)
  rw [hv] at hu
  cases hu
  exact ⟨F2, ds[i], Post.refl s2, List.getElem?_eq_getElem hi, ru.mono s⟩
def rdi (K : Fr) (E : Ent) (W : WX) (c : IL) : TI := fun σ H R => ∃ ŝ F own, StR K E F ŝ σ H own ∧ OutP K E W σ (c ŝ) fun ds ŝ' => ∀ J H' F' own', StR K E F' ŝ' σ H' own' → Same F F' → ItR K F' J ds → R J H'
abbrev Ji (X : Cx) (E : Ent) (W : WX) (tg iter : Expr) (c : IL) : Prop := PI X tg iter (rdi X.K E W c)
theorem PI_imp {X : Cx} {tg e : Expr} {t t' : TI} (h : PI X tg e t) (i : ∀ σ H R, t' σ H R → t σ H R) : PI X tg e t' := ⟨fun pins s σ H R I q => h.run pins s σ H R I (i σ H R q)⟩
section
variable {X : Cx} {E : Ent} {W : WX} {tg e e2 a b : Expr} {es rest : List Expr} {pos p p2 apos : Pos} {K : Fr} {k : Nat}
def iLst (c : IC) : IL := fun ŝ => (c ŝ).bind fun d ŝ => match d with
  | .lst xs => .ok xs ŝ
  | .scr xs => .ok xs ŝ
  | _ => .stuck
theorem ji_list {c : IC} (h : JF X E W e c) : Ji X E W tg e (iLst c) := PI_imp (pi_list h) fun σ H R ⟨ŝ, F, own, S, k⟩ => ⟨ŝ, F, own, S, k.bind.imp fun d ŝ' q v H' F' own' S' ff r => by
  cases d <;> first | (exact q.elim) | skip
  · simp only [Rep] at r
    obtain ⟨a, vs, rfl, h1, h2⟩ := r
    exact ⟨a, rfl, ⟨vs, SqL.of (S'.fh _ _ h1)⟩, q _ H' F' own' S' ff (itr_at (fun H s => SqL.of (s _ _ h1)) h2 walk_list)⟩
  · simp only [Rep] at r
    obtain ⟨a, vs, rfl, h1, h2⟩ := r
    exact ⟨a, rfl, ⟨vs, S'.fh.seq h1⟩, q _ H' F' own' S' ff (itr_at (fun H s => s.seq h1) h2 walk_list)⟩⟩
def iTup (c : IC) : IL := fun ŝ => (c ŝ).bind fun d ŝ => match d with
  | .tup xs => .ok xs ŝ
  | _ => .stuck
theorem ji_tup {c : IC} (h : JF X E W e c) : Ji X E W tg e (iTup c) := PI_imp (pi_tup h) fun σ H R ⟨ŝ, F, own, S, k⟩ => ⟨ŝ, F, own, S, k.bind.imp fun d ŝ' q v H' F' own' S' ff r => by
  cases d <;> first | (exact q.elim) | skip
  simp only [Rep] at r
  obtain ⟨a, vs, rfl, h1, h2⟩ := r
  exact ⟨a, rfl, ⟨vs, sqT_same S'.fh h1⟩, q _ H' F' own' S' ff (itr_at (fun H s => sqT_same s h1) h2 walk_tup)⟩⟩
def signs (z : Str) : List D := z.cps.toList.map fun c => .str ⟨#[c]⟩
def iStrD (c : IC) : IL := fun ŝ => (c ŝ).bind fun d ŝ => match d with
  | .str z => .ok (signs z) ŝ
  | _ => .stuck
theorem ji_str {c : IC} (h : JF X E W e c) : Ji X E W tg e (iStrD c) := PI_imp (pi_str h) fun σ H R ⟨ŝ, F, own, S, k⟩ => ⟨ŝ, F, own, S, k.bind.imp fun d ŝ' q v H' F' own' S' ff r => by
  cases d <;> first | (exact q.elim) | skip
  rename_i z
  simp only [Rep] at r
  subst r
  refine ⟨z, rfl, q _ H' F' own' S' ff ⟨fun _ => True, _, by rw [show (signs z).length = z.cps.size by simp [signs]]; exact walk_str, fun _ _ => trivial, fun i Ha v Hb F2 hi hy s s2 => ?_⟩⟩
  obtain ⟨e, c, hc, rfl⟩ := hy
  subst e
  refine ⟨F2, .str ⟨#[c]⟩, Post.refl s2, ?_, by simp only [Rep]⟩
  simp only [signs, List.getElem?_map, Array.getElem?_toList, hc, Option.map_some]⟩
def rng (lo : Int) (n : Nat) : List D := (List.range n).map fun i : Nat => .int (lo + i)
theorem rng_len (lo : Int) (n : Nat) : (rng lo n).length = n := by simp [rng]
theorem itr_range {F : Hp} {lo : Int} {n : Nat} : ItR K F (Itr lo n) (rng lo n) := by
  refine ⟨fun _ => True, _, by rw [rng_len]; exact walk_range, fun _ _ => trivial, fun i Ha v Hb F2 hi hy s s2 => ?_⟩
  obtain ⟨e, rfl⟩ := hy
  subst e
  rw [rng_len] at hi
  exact ⟨F2, .int (lo + i), Post.refl s2, by simp [rng, List.getElem?_range hi], by simp only [Rep]⟩
def iRng1 (c : IC) : IL := fun ŝ => (c ŝ).bind fun d ŝ => match d with
  | .int j => if -(2 ^ 62) ≤ j ∧ j < 2 ^ 62 then .ok (rng 0 j.toNat) ŝ else .stuck
  | _ => .stuck
def iRng2 (c1 c2 : IC) : IL := fun ŝ => (c1 ŝ).bind fun x ŝ => (c2 ŝ).bind fun y ŝ => match x, y with
  | .int i, .int j => if -(2 ^ 62) ≤ i ∧ i < 2 ^ 62 ∧ -(2 ^ 62) ≤ j ∧ j < 2 ^ 62 then .ok (rng i (j - i).toNat) ŝ else .stuck
  | _, _ => .stuck
theorem ji_range1 {c : IC} (h : JF X E W a c) (hm : X.mg "range" = none) (hg : Gl X "range" := by rfl) (hs : starEach [a] X.env = [(false, eval a X.env)] := by rfl) : Ji X E W tg (.Call (.Name "range" p) [a] [] pos) (iRng1 c) :=
  PI_imp (pi_range1 hg hm (pa_cons h pa_nil hs) hs) fun σ H R ⟨ŝ, F, own, S, k⟩ => ⟨ŝ, F, own, S, k.bind.imp fun d ŝ' q v H' F' own' S' ff r => by
    cases d <;> first | (exact q.elim) | skip
    rename_i j
    simp only at q
    split at q
    · rename_i hj
      simp only [Rep] at r
      subst r
      exact ⟨j, rfl, hj.1, hj.2, q _ H' F' own' S' ff itr_range⟩
    · exact q.elim⟩
theorem ji_range2 {c1 c2 : IC} (h1 : JF X E W a c1) (h2 : JF X E W b c2) (hm : X.mg "range" = none) (hg : Gl X "range" := by rfl) (hs : starEach [a, b] X.env = [(false, eval a X.env), (false, eval b X.env)] := by rfl) (hs2 : starEach [b] X.env = [(false, eval b X.env)] := by rfl)
    (hs3 : starEach (a :: [b]) X.env = (false, eval a X.env) :: starEach [b] X.env := by rfl) : Ji X E W tg (.Call (.Name "range" p) [a, b] [] pos) (iRng2 c1 c2) :=
  PI_imp (pi_range2 hg hm (pa_cons h1 (pa_cons h2 pa_nil hs2) hs3) hs hs2) fun σ H R ⟨ŝ, F, own, S, k⟩ => ⟨ŝ, F, own, S, k.bind.imp fun x ŝ1 q v H1 F1 own1 S1 ff r => ⟨ŝ1, F1, own1, S1, q.bind.imp fun y ŝ2 q u H2 F2 own2 S2 ff2 r2 => by
    cases x with
    | int i =>
      cases y with
      | int j =>
        simp only at q
        split at q
        · rename_i hj
          simp only [Rep] at r r2
          subst r
          subst r2
          exact ⟨i, j, rfl, hj, q _ H2 F2 own2 S2 (ff.trans ff2) itr_range⟩
        · exact q.elim
      | _ => exact q.elim
    | _ => cases y <;> exact q.elim⟩⟩
/-- a pair that is made for each turn -/
theorem itr_pair {F : Hp} {J : It} {ds : List D} {xs ys : Nat → Option V} {ex ey : Nat → D} {n : Nat} {G : Hp → Prop} (hn : ds.length = n) (hg : ∀ H, Same F H → G H) (w : Walk J n G (YPair xs ys)) (hd : ∀ i, i < n → ds[i]? = some (.tup [ex i, ey i]))
    (hx : ∀ i v, i < n → xs i = some v → Rep K F (ex i) v) (hy : ∀ i v, i < n → ys i = some v → Rep K F (ey i) v) : ItR K F J ds := by
  refine ⟨G, YPair xs ys, by rw [hn]; exact w, hg, fun i Ha v Hb F2 hi hY s s2 => ?_⟩
  rw [hn] at hi
  obtain ⟨T, x, y, rfl, hT, rfl, h1, h2⟩ := hY
  refine ⟨upd F2 T (.tup [x, y]), .tup [ex i, ey i], Post.alloc s2 hT, hd i hi, ?_⟩
  simp only [Rep]
  have P := Post.alloc (o := HO.tup [x, y]) s2 hT
  exact ⟨T, [x, y], rfl, SqT.of upd_same, Reps.cons (((hx i x hi h1).mono s).mono P.FF) (Reps.cons (((hy i y hi h2).mono s).mono P.FF) Reps.nil)⟩
def enumD (xs : List D) : List D := (List.range xs.length).map fun i => .tup [.int (i : Nat), xs.getD i .non]
def iEnumD (c : IC) : IL := fun ŝ => (c ŝ).bind fun d ŝ => match d with
  | .lst xs => .ok (enumD xs) ŝ
  | _ => .stuck
theorem getD_rep {F : Hp} {xs : List D} {vs : List V} (r : Reps K F xs vs) {i : Nat} {v : V} (hi : i < xs.length) (h : vs[i]? = some v) : Rep K F (xs.getD i .non) v := by
  obtain ⟨u, hu, ru⟩ := r.get (List.getElem?_eq_getElem hi)
  rw [h] at hu
  cases hu
  rw [List.getD_eq_getElem?_getD, List.getElem?_eq_getElem hi]
  exact ru
theorem ji_enum {elts : List Expr} {kk : Nat} {tpos : Pos} {c : IC} (h : JF X E W a c) (hm : X.mg "enumerate" = none) (hg : Gl X "enumerate" := by rfl) (hs : starEach [a] X.env = [(false, eval a X.env)] := by rfl) : Ji X E W (.Tuple elts kk tpos) (.Call (.Name "enumerate" p) [a] [] pos) (iEnumD c) :=
  PI_imp (pi_enum hg hm (pa_cons h pa_nil hs) hs) fun σ H R ⟨ŝ, F, own, S, k⟩ => ⟨ŝ, F, own, S, k.bind.imp fun d ŝ' q v H' F' own' S' ff r => by
    cases d <;> first | (exact q.elim) | skip
    rename_i xs
    simp only [Rep] at r
    obtain ⟨a1, vs, rfl, h1, h2⟩ := r
    refine ⟨a1, vs, rfl, SqL.of (S'.fh _ _ h1), q _ H' F' own' S' ff (itr_pair (n := vs.length) (ex := fun i => .int (i : Nat)) (ey := fun i => xs.getD i .non) (by simp [enumD, h2.len]) (fun H s => SqL.of (s _ _ h1)) walk_enum (fun i hi => ?_) (fun i v hi e => ?_) fun i v hi e => ?_)⟩
    · rw [h2.len] at hi
      simp [enumD, List.getElem?_range hi]
    · cases e
      simp only [Rep]
    · rw [h2.len] at hi
      exact getD_rep h2 hi e⟩
def zipD (xs ys : List D) : List D := (xs.zip ys).map fun p => .tup [p.1, p.2]
def iZipD (c1 c2 : IC) : IL := fun ŝ => (c1 ŝ).bind fun x ŝ => (c2 ŝ).bind fun y ŝ => match x, y with
  | .lst xs, .lst ys => .ok (zipD xs ys) ŝ
  | _, _ => .stuck
theorem ji_zip {elts : List Expr} {kk : Nat} {tpos : Pos} {c1 c2 : IC} (h1 : JF X E W a c1) (h2 : JF X E W b c2) (hm : X.mg "zip" = none) (hg : Gl X "zip" := by rfl) (hs : starEach (a :: [b]) X.env = (false, eval a X.env) :: starEach [b] X.env := by rfl) (hpl : (backTo pos (starEach [b] X.env)).any (·.1) = false := by rfl)
    (hs2 : starEach [b] X.env = [(false, eval b X.env)] := by rfl) : Ji X E W (.Tuple elts kk tpos) (.Call (.Name "zip" p) [a, b] [] pos) (iZipD c1 c2) :=
  PI_imp (pi_zip hg hm (pa_cons h1 (pa_cons h2 pa_nil hs2) hs) hs hpl) fun σ H R ⟨ŝ, F, own, S, k⟩ => ⟨ŝ, F, own, S, k.bind.imp fun x ŝ1 q v H1 F1 own1 S1 ff r => ⟨ŝ1, F1, own1, S1, q.bind.imp fun y ŝ2 q u H2 F2 own2 S2 ff2 r2 => by
    obtain ⟨xs, rfl⟩ : ∃ xs, x = .lst xs := by
      cases x <;> first | exact ⟨_, rfl⟩ | (cases y <;> exact q.elim)
    obtain ⟨ys, rfl⟩ : ∃ ys, y = .lst ys := by
      cases y <;> first | exact ⟨_, rfl⟩ | exact q.elim
    have r := r.mono ff2
    simp only [Rep] at r r2
    obtain ⟨a1, vs, rfl, e1, e2⟩ := r
    obtain ⟨b1, us, rfl, e3, e4⟩ := r2
    have l1 := e2.len
    have l2 := e4.len
    refine ⟨a1, b1, vs, us, rfl, SqL.of (S2.fh _ _ e1), SqL.of (S2.fh _ _ e3), q _ H2 F2 own2 S2 (ff.trans ff2) (itr_pair (n := min vs.length us.length) (ex := fun i => xs.getD i .non) (ey := fun i => ys.getD i .non) (by simp [zipD, l1, l2]) (fun H s => ⟨SqL.of (s _ _ e1), SqL.of (s _ _ e3)⟩) (walk_zip rfl) (fun i hi => ?_) (fun i v hi e => ?_) fun i v hi e => ?_)⟩
    · have hx : i < xs.length := by omega
      have hy : i < ys.length := by omega
      simp [zipD, List.getElem?_zip_eq_some, hx, hy]
    · exact getD_rep e2 (by omega) e
    · exact getD_rep e4 (by omega) e⟩⟩

/-! ### targets -/
abbrev GC := D → AS → Option AS
/-- nothing but the slots vs is set -/
def Keeps (vs : List Nat) (σ σ' : L2.St) : Prop := σ'.length = σ.length ∧ ∀ j, j ∉ vs → σ'[j]? = σ[j]?
theorem Keeps.refl {vs : List Nat} {σ : L2.St} : Keeps vs σ σ := ⟨rfl, fun _ _ => rfl⟩
theorem Keeps.trans {vs : List Nat} {σ σ1 σ2 : L2.St} (h : Keeps vs σ σ1) (h2 : Keeps vs σ1 σ2) : Keeps vs σ σ2 := ⟨h2.1.trans h.1, fun j m => (h2.2 j m).trans (h.2 j m)⟩
theorem Keeps.set {vs : List Nat} {σ : L2.St} {i : Nat} {v : Option V} (m : i ∈ vs) : Keeps vs σ (σ.set i v) := ⟨by simp, fun j hj => by
  have ne : i ≠ j := fun e => hj (by rw [← e]; exact m)
  rw [List.getElem?_set_ne ne]⟩
def rdg (K : Fr) (E : Ent) (vs : List Nat) (c : GC) : TG := fun v σ H Q => ∃ ŝ F own d ŝ', StR K E F ŝ σ H own ∧ Rep K F d v ∧ c d ŝ = some ŝ' ∧ ∀ σ' own', StR K E F ŝ' σ' H own' → Keeps vs σ σ' → Q σ' H
abbrev Jg (X : Cx) (E : Ent) (vs : List Nat) (tg : Expr) (c : GC) : Prop := PG X tg (rdg X.K E vs c)
theorem PG_imp {X : Cx} {e : Expr} {t t' : TG} (h : PG X e t) (i : ∀ v σ H Q, t' v σ H Q → t v σ H Q) : PG X e t' := ⟨fun pins s σ H v u Q I r q => h.run pins s σ H v u Q I r (i v σ H Q q)⟩
/-- which parameters are changed -/
structure Ios (E : Ent) (ios : Nat → Bool) : Prop where
  io : ∀ p ∈ E.io, ios p.1 = true
  P : ∀ i σ F v, ios i = false → E.P σ F → E.P (σ.set i v) F
def inL (l : List Nat) : Nat → Bool := fun i => l.contains i
def outL (l : List Nat) : Nat → Bool := fun i => !l.contains i
theorem Ios.ne {E : Ent} {ios : Nat → Bool} (h : Ios E ios) {i : Nat} (hi : ios i = false) : Free E i := by
  refine ⟨fun p hp e => ?_, fun σ F v => h.P i σ F v hi⟩
  have := h.io p hp
  rw [e, hi] at this
  cases this
def gSlot (i : Nat) : GC := fun d ŝ => some (ŝ.set i (some (.fz d)))
theorem jg_name {ios : Nat → Bool} {vs : List Nat} (i : Nat) {x : Str} (hN : X.N.Nodup) (hE : Ios E ios) (hio : ios i = false := by rfl) (hvs : i ∈ vs := by decide) (hi : X.N[i]? = some x := by rfl) (hx : Loc X.env.scope x := by first | exact .inl rfl | exact .inr rfl)
    (hf : X.fn x = true ∨ X.env.scope.names.lookup x = some .local := by first | exact .inl rfl | exact .inr rfl | assumption) : Jg X E vs (.Name x pos) (gSlot i) := PG_imp (pg_name hN hi hx hf) fun v σ H Q ⟨ŝ, F, own, d, ŝ', S, r, e, q⟩ => by
  cases e
  exact q _ _ (S.put r (hE.ne hio)) (Keeps.set hvs)
/-- several targets -/
abbrev GCs := List D → AS → Option AS
def rdgs (K : Fr) (E : Ent) (vs : List Nat) (c : GCs) : TGs := fun us σ H Q => ∃ ŝ F own ds ŝ', StR K E F ŝ σ H own ∧ Reps K F ds us ∧ c ds ŝ = some ŝ' ∧ ∀ σ' own', StR K E F ŝ' σ' H own' → Keeps vs σ σ' → Q σ' H
abbrev Jgs (X : Cx) (E : Ent) (vs : List Nat) (tgs : List Expr) (c : GCs) : Prop := PGs X tgs (rdgs X.K E vs c)
theorem PGs_imp {X : Cx} {e : List Expr} {t t' : TGs} (h : PGs X e t) (i : ∀ v σ H Q, t' v σ H Q → t v σ H Q) : PGs X e t' := ⟨fun pins s σ H v u Q I r q => h.run pins s σ H v u Q I r (i v σ H Q q)⟩
def gsNil : GCs := fun ds ŝ => match ds with
  | [] => some ŝ
  | _ => none
def gsCons (g : GC) (gs : GCs) : GCs := fun ds ŝ => match ds with
  | d :: ds => (g d ŝ).bind fun ŝ => gs ds ŝ
  | [] => none
theorem jgs_nil {vs : List Nat} : Jgs X E vs [] gsNil := PGs_imp pgs_nil fun us σ H Q ⟨ŝ, F, own, ds, ŝ', S, r, e, q⟩ => by
  cases ds with
  | nil =>
    cases e
    simp only [Reps] at r
    exact ⟨r, q _ _ S .refl⟩
  | cons d ds => cases e
theorem jgs_cons {vs : List Nat} {g : GC} {gs : GCs} (h1 : Jg X E vs e g) (h2 : Jgs X E vs es gs) (hs : (assignEach (e :: es) X.env).map (·.2) = assign e X.env :: (assignEach es X.env).map (·.2) := by rfl) : Jgs X E vs (e :: es) (gsCons g gs) :=
  PGs_imp (pgs_cons h1 h2 hs) fun us σ H Q ⟨ŝ, F, own, ds, ŝ', S, r, e, q⟩ => by
    cases ds with
    | nil => cases e
    | cons d ds =>
      simp only [Reps] at r
      obtain ⟨v, us, rfl, r1, r2⟩ := r
      obtain ⟨ŝ1, e1, e2⟩ := Option.bind_eq_some_iff.mp (show (g d ŝ).bind (fun ŝ => gs ds ŝ) = some ŝ' from e)
      exact ⟨v, us, rfl, ŝ, F, own, d, ŝ1, S, r1, e1, fun σ' own' S' k' => ⟨ŝ1, F, own', ds, ŝ', S', r2, e2, fun σ2 own2 S2 k2 => q σ2 own2 S2 (k'.trans k2)⟩⟩
def gTupD (n : Nat) (gs : GCs) : GC := fun d ŝ => match d with
  | .tup ds => if ds.length = n then gs ds ŝ else none
  | _ => none
theorem jg_tup {vs : List Nat} {n kk : Nat} {gs : GCs} (hc : X.calm = true) (h : Jgs X E vs es gs) (hn : (assignEach es X.env).length = n := by rfl) (hst : (assignEach es X.env).findIdx? (·.1) = none := by rfl) : Jg X E vs (.Tuple es kk pos) (gTupD n gs) :=
  PG_imp (pg_tup hc h hn hst) fun v σ H Q ⟨ŝ, F, own, d, ŝ', S, r, e, q⟩ => by
    cases d <;> simp only [gTupD, reduceCtorEq] at e
    rename_i ds
    split at e
    · rename_i hl
      simp only [Rep] at r
      obtain ⟨a, us, rfl, h1, h2⟩ := r
      exact ⟨a, us, rfl, sqT_same S.fh h1, by rw [h2.len]; exact hl, ŝ, F, own, ds, ŝ', S, h2, e, q⟩
    · cases e

/-! ### statements -/
def sSkip : SC := fun ŝ => .nx ŝ
def sSeq (c1 c2 : SC) : SC := fun ŝ => match c1 ŝ with
  | .nx ŝ => c2 ŝ
  | r => r
theorem jss_nil : JSs X E W [] sSkip := PSs_imp pss_nil fun D σ H ⟨ŝ, F, own, S, k⟩ => k σ H F own S (Same.refl _)
theorem jss_cons {st : Stmt} {sts : List Stmt} {c1 c2 : SC} (h1 : JS X E W st c1) (h2 : JSs X E W sts c2) : JSs X E W (st :: sts) (sSeq c1 c2) := PSs_imp (pss_cons h1 h2) fun D σ H ⟨ŝ, F, own, S, k⟩ => by
  refine ⟨ŝ, F, own, S, ?_⟩
  unfold sSeq at k
  cases h : c1 ŝ with
  | nx ŝ' => rw [h] at k; exact fun σ H F' own S s => ⟨ŝ', F', own, S, k.mono s⟩
  | rt r ŝ' => rw [h] at k; exact k
  | bk ŝ' => rw [h] at k; exact k
  | ct ŝ' => rw [h] at k; exact k
  | exn x ŝ' => rw [h] at k; exact k
  | stuck => rw [h] at k; exact k
theorem jss_one {st : Stmt} {c : SC} (h : JS X E W st c) : JSs X E W [st] c := pss_one h
theorem js_pass : JS X E W (.Pass pos) sSkip := PS_imp ps_pass fun D σ H ⟨ŝ, F, own, S, k⟩ => k σ H F own S (Same.refl _)
def sBreak : SC := fun ŝ => .bk ŝ
def sCont : SC := fun ŝ => .ct ŝ
theorem js_break : JS X E W (.Break pos) sBreak := PS_imp ps_break fun D σ H ⟨ŝ, F, own, S, k⟩ => k σ H F own S (Same.refl _)
theorem js_cont : JS X E W (.Continue pos) sCont := PS_imp ps_continue fun D σ H ⟨ŝ, F, own, S, k⟩ => k σ H F own S (Same.refl _)
def Out.st {α : Type} (o : Out α) (f : α → AS → SOut) : SOut := match o with
  | .ok a ŝ => f a ŝ
  | .exn x ŝ => .exn x ŝ
  | .stuck => .stuck
@[simp] theorem Out.st_ok {α : Type} (a : α) (s : AS) (f : α → AS → SOut) : (Out.ok a s).st f = f a s := rfl
@[simp] theorem Out.st_exn {α : Type} (x : Exn) (s : AS) (f : α → AS → SOut) : (Out.exn x s).st f = .exn x s := rfl
@[simp] theorem Out.st_stuck {α : Type} (f : α → AS → SOut) : (Out.stuck : Out α).st f = .stuck := rfl
theorem SOutP.st {α : Type} {o : Out α} {f : α → AS → SOut} {D : Ends} {F : Hp} {σ : L2.St} (h : SOutP K E W D F (o.st f)) : OutP K E W σ o fun a ŝ => SOutP K E W D F (f a ŝ) := by
  cases o with
  | ok a ŝ => exact h
  | exn x ŝ => exact h σ
  | stuck => exact h
def sDrop (c : IC) : SC := fun ŝ => (c ŝ).st fun _ ŝ => .nx ŝ
theorem js_expr {c : IC} (h : JF X E W e c) (hs : swapsWith e none pos.line X.env = pure false := by rfl) : JS X E W (.Expr e pos) (sDrop c) := PS_imp (ps_expr h hs) fun D σ H ⟨ŝ, F, own, S, k⟩ => ⟨ŝ, F, own, S, k.st.imp fun d ŝ' q v H' F' own' S' ff _ => q σ H' F' own' S' ff⟩
def sRet (c : IC) : SC := fun ŝ => (c ŝ).st fun d ŝ => .rt (.fz d) ŝ
theorem js_ret {c : IC} (h : JF X E W e c) : JS X E W (.Return (some e) pos) (sRet c) := PS_imp (ps_ret h) fun D σ H ⟨ŝ, F, own, S, k⟩ => ⟨ŝ, F, own, S, k.st.imp fun d ŝ' q v H' F' own' S' _ r => q v σ H' F' own' S' r⟩
def sRetO (c : IL) : SC := fun ŝ => (c ŝ).st fun d ŝ => .rt (.ow d) ŝ
theorem js_retO {c : IL} (h : JN X E W e c) : JS X E W (.Return (some e) pos) (sRetO c) := PS_imp (ps_ret h) fun D σ H ⟨ŝ, F, own, S, k⟩ => ⟨ŝ, F, own, S, k.st.imp fun d ŝ' q a vs H' F' own' S' _ M => q _ σ H' F' own' S' ⟨a, vs, rfl, M⟩⟩
def sRetN : SC := fun ŝ => .rt (.fz .non) ŝ
theorem js_retN : JS X E W (.Return none pos) sRetN := PS_imp ps_retN fun D σ H ⟨ŝ, F, own, S, k⟩ => k .non σ H F own S (by simp only [RetR, Rep])
/-- a list of one's own leaves its slot -/
def iMove (i : Nat) : IL := fun ŝ => match get ŝ i with
  | some (.ow xs) => .ok xs (ŝ.set i none)
  | _ => .stuck
theorem StR.drop {F H : Hp} {ŝ : AS} {σ : L2.St} {own : Own} (S : StR K E F ŝ σ H own) {i : Nat} (hi : Free E i) : StR K E F (ŝ.set i none) σ H (fun j => if j = i then [] else own j) := by
  refine ⟨S.post, by simp [S.len], fun j s e => ?_, fun j a ha => ?_, fun j k a h1 h2 => ?_, fun p hp => ?_, S.inv⟩
  · by_cases hj : j = i
    · subst hj
      obtain ⟨_, e2⟩ := get_set_eq e
      cases e2
    · rw [List.getElem?_set_ne (Ne.symm hj)] at e
      obtain ⟨u, hu, q⟩ := S.sl j s e
      refine ⟨u, hu, ?_⟩
      show SlotR K F H (if j = i then [] else own j) s u
      rw [if_neg hj]
      exact q
  · by_cases hj : j = i
    · simp [hj] at ha
    · simp only [if_neg hj] at ha
      exact S.sep j a ha
  · by_cases hj : j = i
    · simp [hj] at h1
    · by_cases hk : k = i
      · simp [hk] at h2
      · simp only [if_neg hj] at h1
        simp only [if_neg hk] at h2
        exact S.dis j k a h1 h2
  · show (if p.1 = i then [] else own p.1) = _
    rw [if_neg (hi.io p hp)]
    exact S.ios p hp
/-- an own slot's list, told by its owner -/
theorem StR.ow {F H : Hp} {ŝ : AS} {σ : L2.St} {own : Own} (S : StR K E F ŝ σ H own) {i : Nat} {xs : List D} (h : get ŝ i = some (.ow xs)) : ∃ a vs, σ[i]? = some (some (.ref a)) ∧ own i = [a] ∧ H a = some (.lst vs) ∧ Reps K F xs vs ∧ F a = none := by
  obtain ⟨v, hv, a, vs, rfl, ho, h1, r⟩ := S.sl i _ (get_some h)
  exact ⟨a, vs, hv, ho, h1, r, (S.sep i a (by rw [ho]; simp)).1⟩
theorem jN_move {ios : Nat → Bool} (i : Nat) {x : Str} {pos : Pos} (hE : Ios E ios) (hio : ios i = false := by rfl) (hN : X.N[i]? = some x := by rfl) (hv : Vis X.env.scope x := by first | exact Or.inl rfl | exact Or.inr (Or.inl rfl) | exact Or.inr (Or.inr rfl)) (hd : (x == ("__debug__" : Str)) = false := by decide)
    (hcd : (x == ("__classdict__" : Str)) = false := by decide) : JN X E W (.Name x pos) (iMove i) := PE_imp (pe_var hN hv hd hcd) fun σ H Q ⟨ŝ, F, own, S, k⟩ => by
  unfold iMove at k
  split at k
  · rename_i xs e
    obtain ⟨a, vs, hv, ho, h1, r, hf⟩ := S.ow e
    refine ⟨.ref a, hv, k a vs H F _ (S.drop (hE.ne hio)) (Same.refl _) ⟨hf, h1, ?_, fun j m => ?_, r⟩⟩
    · rcases (S.sep i a (by rw [ho]; simp)).2.2 with z | z
      · exact z
      · obtain ⟨p, hp, rfl⟩ := List.mem_map.mp z
        have := S.dis i p.1 p.2 (by rw [ho]; simp) (by rw [S.ios p hp]; simp)
        exact absurd this.symm ((hE.ne hio).io p hp)
    · by_cases hj : j = i
      · simp [hj] at m
      · simp only [if_neg hj] at m
        exact hj (S.dis j i a m (by rw [ho]; simp))
  · exact k.elim
/-- name = value -/
def sSet (i : Nat) (c : IC) : SC := fun ŝ => (c ŝ).st fun d ŝ => .nx (ŝ.set i (some (.fz d)))
theorem js_set {ios : Nat → Bool} {c : IC} {x : Str} {pos' : Pos} (i : Nat) (h : JF X E W e c) (hN : X.N.Nodup) (hE : Ios E ios) (hio : ios i = false := by rfl) (hi : X.N[i]? = some x := by rfl) (hx : Loc X.env.scope x := by first | exact .inl rfl | exact .inr rfl) (hs : swapsWith e (some (.Name x pos')) pos.line X.env = pure false := by rfl)
    (hf : X.fn x = true ∨ X.env.scope.names.lookup x = some .local := by first | exact .inl rfl | exact .inr rfl | assumption) : JS X E W (.Assign [.Name x pos'] e pos) (sSet i c) := PS_imp (ps_set hN hi hx h hs hf) fun D σ H ⟨ŝ, F, own, S, k⟩ =>
  ⟨ŝ, F, own, S, k.st.imp fun d ŝ' q v H' F' own' S' ff r => q _ H' F' _ (S'.put r (hE.ne hio)) ff⟩
def sSetO (i : Nat) (c : IL) : SC := fun ŝ => (c ŝ).st fun xs ŝ => .nx (ŝ.set i (some (.ow xs)))
theorem js_setO {ios : Nat → Bool} {c : IL} {x : Str} {pos' : Pos} (i : Nat) (h : JN X E W e c) (hN : X.N.Nodup) (hE : Ios E ios) (hio : ios i = false := by rfl) (hi : X.N[i]? = some x := by rfl) (hx : Loc X.env.scope x := by first | exact .inl rfl | exact .inr rfl) (hs : swapsWith e (some (.Name x pos')) pos.line X.env = pure false := by rfl)
    (hf : X.fn x = true ∨ X.env.scope.names.lookup x = some .local := by first | exact .inl rfl | exact .inr rfl | assumption) : JS X E W (.Assign [.Name x pos'] e pos) (sSetO i c) := PS_imp (ps_set hN hi hx h hs hf) fun D σ H ⟨ŝ, F, own, S, k⟩ =>
  ⟨ŝ, F, own, S, k.st.imp fun d ŝ' q a vs H' F' own' S' ff M => q _ H' F' _ (S'.putO M.hF M.hH M.h0 M.ho M.r (hE.ne hio)) ff⟩
/-- a target of any form -/
def sAsg (g : GC) (c : IC) : SC := fun ŝ => (c ŝ).st fun d ŝ => match g d ŝ with
  | some ŝ => .nx ŝ
  | none => .stuck
theorem js_asg {vs : List Nat} {c : IC} {g : GC} (h : JF X E W e c) (hg : Jg X E vs tg g) (hs : swapsWithSole [tg] e pos.line X.env = pure false := by rfl) (hw : swappedStores [tg] e X.env = pure none := by rfl) (h1 : (assignEach [tg] X.env).map (·.2) = [assign tg X.env] := by rfl) :
    JS X E W (.Assign [tg] e pos) (sAsg g c) := PS_imp (ps_asg h hg hs hw h1) fun D σ H ⟨ŝ, F, own, S, k⟩ => ⟨ŝ, F, own, S, k.st.imp fun d ŝ' q v H' F' own' S' ff r => by
  split at q
  · rename_i ŝ2 e
    exact ⟨ŝ', F', own', d, ŝ2, S', r, e, fun σ' own2 S2 _ => q σ' H' F' own2 S2 ff⟩
  · exact q.elim⟩
def sIf (t : IB) (c1 c2 : SC) : SC := fun ŝ => (t ŝ).st fun b ŝ => match b with
  | true => c1 ŝ
  | false => c2 ŝ
theorem js_if {c : Expr} {s1 s2 : List Stmt} {t : IB} {c1 c2 : SC} (h : JT X E W c t) (h1 : JSs X E W s1 c1) (h2 : JSs X E W s2 c2) : JS X E W (.If c s1 s2 pos) (sIf t c1 c2) := PS_imp (ps_if h h1 h2) fun D σ H ⟨ŝ, F, own, S, k⟩ => ⟨ŝ, F, own, S, k.st.imp fun b ŝ' q H' F' own' S' ff => by
  cases b with
  | true => rw [if_pos rfl]; exact ⟨ŝ', F', own', S', q.mono ff⟩
  | false => rw [if_neg Bool.false_ne_true]; exact ⟨ŝ', F', own', S', q.mono ff⟩⟩
/-- a for over what is given -/
def forL (g : GC) (b : SC) : List D → SC
  | [], ŝ => .nx ŝ
  | d :: ds, ŝ => match g d ŝ with
    | some ŝ => (match b ŝ with
      | .nx ŝ => forL g b ds ŝ
      | .ct ŝ => forL g b ds ŝ
      | .bk ŝ => .nx ŝ
      | r => r)
    | none => .stuck
def sFor (c : IL) (g : GC) (b : SC) : SC := fun ŝ => (c ŝ).st fun ds ŝ => forL g b ds ŝ
theorem js_for {vs : List Nat} {iter : Expr} {body : List Stmt} {c : IL} {g : GC} {b : SC} (C : Ctx X W k) (hi : Ji X E W tg iter c) (hg : Jg X E vs tg g) (hb : JSs X E W body b) (hs : ∀ x, foldedSetIterable iter X.env x = pure x := by intro _; rfl) : JS X E W (.For tg iter body [] pos) (sFor c g b) :=
  PS_imp (ps_for C.po C.calm hi hg hb hs) fun D σ H ⟨ŝ, F, own, S, k⟩ => ⟨ŝ, F, own, S, k.st.imp fun ds ŝ' q J H1 F1 own1 S1 ff it => by
    obtain ⟨G, Y, w, hG, hY⟩ := it
    refine for_it w (fun i σ H => ∃ ŝ F own, StR X.K E F ŝ σ H own ∧ Same F1 F ∧ SOutP X.K E W D F (forL g b (ds.drop i) ŝ)) ⟨ŝ', F1, own1, S1, Same.refl _, q.mono ff⟩ (fun i σ H hi ⟨ŝ, F, own, S, s, _⟩ => hG H (s.trans S.fh)) (fun i v σ H H' hi ⟨ŝ, F, own, S, s, q⟩ y => ?_) fun σ H ⟨ŝ, F, own, S, s, q⟩ => ?_
    · obtain ⟨F2, d, P, hd, r⟩ := hY i H v H' F hi y s S.fh
      rw [List.drop_eq_getElem_cons hi] at q
      have ed : ds[i] = d := Option.some.inj ((List.getElem?_eq_getElem hi).symm.trans hd)
      rw [ed] at q
      have S2 := S.grow P
      simp only [forL] at q
      cases hgd : g d ŝ with
      | none => rw [hgd] at q; exact q.elim
      | some ŝ2 =>
        rw [hgd] at q
        have q : SOutP X.K E W D F2 (match b ŝ2 with
          | .nx ŝ => forL g b (ds.drop (i + 1)) ŝ
          | .ct ŝ => forL g b (ds.drop (i + 1)) ŝ
          | .bk ŝ => .nx ŝ
          | r => r) := SOutP.mono P.FF q
        refine ⟨ŝ, F2, own, d, ŝ2, S2, r, hgd, fun σ' own' S3 _ => ⟨ŝ2, F2, own', S3, ?_⟩⟩
        have s12 : Same F1 F2 := s.trans P.FF
        cases hbd : b ŝ2 with
        | nx ŝ4 => rw [hbd] at q; exact fun σ H F' own S s' => ⟨ŝ4, F', own, S, s12.trans s', q.mono s'⟩
        | ct ŝ4 => rw [hbd] at q; exact fun σ H F' own S s' => ⟨ŝ4, F', own, S, s12.trans s', q.mono s'⟩
        | bk ŝ4 => rw [hbd] at q; exact q
        | rt r ŝ4 => rw [hbd] at q; exact q
        | exn x ŝ4 => rw [hbd] at q; exact q
        | stuck => rw [hbd] at q; exact q
    · have e : ds.drop ds.length = [] := List.drop_length
      rw [e] at q
      exact q σ H F own S (Same.refl _)⟩
end
end FL

set_option maxHeartbeats 4000000
/-! FL4: what a def does; its calls. -/
namespace FL
open PySem PySem.Spec PyProof.Rows L2
inductive FOut where
  | rt (r : Ret) (outs : List Slot)
  | exn (x : Exn) (outs : List Slot)
  | stuck
abbrev FM := List Slot → FOut
/-- the arguments as a call hands them: io, the parameters that are changed, with their addresses -/
structure ArgR (K : Fr) (F H : Hp) (io : List (Nat × Addr)) (ss : List Slot) (vs : List V) : Prop where
  FH : Same F H
  len : ss.length = vs.length
  nd : (io.map (·.2)).Nodup
  nd1 : (io.map (·.1)).Nodup
  fz : ∀ (i : Nat) s, ss[i]? = some s → i ∉ io.map (·.1) → ∃ v, vs[i]? = some v ∧ SlotR K F H [] s v
  ow : ∀ p ∈ io, ∃ s v, ss[p.1]? = some s ∧ vs[p.1]? = some v ∧ SlotR K F H [p.2] s v ∧ F p.2 = none ∧ ∃ o, H p.2 = some o
/-- what stands behind the call at the changed ones -/
def OutsR (K : Fr) (F H : Hp) : List (Nat × Addr) → List Slot → Prop
  | [], outs => outs = []
  | p :: io, outs => ∃ s r, outs = s :: r ∧ SlotR K F H [p.2] s (.ref p.2) ∧ F p.2 = none ∧ OutsR K F H io r
def RetV (K : Fr) (H0 F H : Hp) : Ret → V → Prop
  | .fz d, v => Rep K F d v
  | .ow xs, v => ∃ a vs, v = .ref a ∧ H0 a = none ∧ F a = none ∧ H a = some (.lst vs) ∧ Reps K F xs vs
def FOutP (K : Fr) (F H : Hp) (io : List (Nat × Addr)) (Q : VK) (E : XK) : FOut → Prop
  | .rt r outs => ∀ v F' H', Post F H (io.map (·.2)) F' H' → OutsR K F' H' io outs → RetV K H F' H' r v → Q v H'
  | .exn x outs => ∀ cls dd F' H', Post F H (io.map (·.2)) F' H' → OutsR K F' H' io outs → ExnR K F' x cls dd → E cls dd H'
  | .stuck => False
/-- the promise of a def with n parameters that does what m says, the parameters ios changed -/
def spF (K : Fr) (n : Nat) (ios : List Nat) (m : FM) : Sp := fun vs H Q E => ∃ F ss io, vs.length = n ∧ io.map (·.1) = ios ∧ ArgR K F H io ss vs ∧ FOutP K F H io Q E (m ss)

/-! ### a def by its body -/
def isOwn : Slot → Bool
  | .fz _ => false
  | _ => true
def outsOf (ŝ : AS) : List Nat → Option (List Slot)
  | [] => some []
  | i :: is => match get ŝ i, outsOf ŝ is with
    | some s, some r => if isOwn s = true then some (s :: r) else none
    | _, _ => none
def runB (n : Nat) (ios : List Nat) (b : SC) : FM := fun ss => match b (ss.map some ++ List.replicate (n - ss.length) none) with
  | .nx ŝ => (match outsOf ŝ ios with
    | some o => .rt (.fz .non) o
    | none => .stuck)
  | .rt r ŝ => (match outsOf ŝ ios with
    | some o => .rt r o
    | none => .stuck)
  | .exn x ŝ => (match outsOf ŝ ios with
    | some o => .exn x o
    | none => .stuck)
  | _ => .stuck
def ownOf (io : List (Nat × Addr)) : Own := fun i => (io.filter fun p => decide (p.1 = i)).map (·.2)
theorem mem_ownOf {io : List (Nat × Addr)} {i : Nat} {a : Addr} : a ∈ ownOf io i ↔ (i, a) ∈ io := by
  unfold ownOf
  simp only [List.mem_map, List.mem_filter, decide_eq_true_eq]
  constructor
  · rintro ⟨p, ⟨h1, h2⟩, rfl⟩
    rw [← h2]
    exact h1
  · intro h
    exact ⟨(i, a), ⟨h, rfl⟩, rfl⟩
theorem ownOf_io {io : List (Nat × Addr)} (nd : (io.map (·.1)).Nodup) {p : Nat × Addr} (hp : p ∈ io) : ownOf io p.1 = [p.2] := by
  induction io with
  | nil => cases hp
  | cons q io ih =>
    rw [List.map_cons, List.nodup_cons] at nd
    unfold ownOf
    rcases List.mem_cons.mp hp with e | hp
    · subst e
      have : io.filter (fun r => decide (r.1 = p.1)) = [] := by
        rw [List.filter_eq_nil_iff]
        intro r hr
        simp only [decide_eq_true_eq]
        intro e
        exact nd.1 (by rw [← e]; exact List.mem_map_of_mem hr)
      rw [List.filter_cons_of_pos (by simp), this]
      rfl
    · have h2 := ih nd.2 hp
      have ne : ¬ q.1 = p.1 := fun e => nd.1 (by rw [e]; exact List.mem_map_of_mem hp)
      rw [List.filter_cons_of_neg (by simpa using ne)]
      exact h2
theorem inj_snd {io : List (Nat × Addr)} (nd : (io.map (·.2)).Nodup) {i j : Nat} {a : Addr} (h1 : (i, a) ∈ io) (h2 : (j, a) ∈ io) : i = j := by
  induction io with
  | nil => cases h1
  | cons q io ih =>
    rw [List.map_cons, List.nodup_cons] at nd
    rcases List.mem_cons.mp h1 with e | h1
    · rcases List.mem_cons.mp h2 with e2 | h2
      · rw [← e] at e2; exact (Prod.mk.inj e2).1.symm
      · exact absurd (by rw [← e]; exact List.mem_map_of_mem (f := (·.2)) h2) nd.1
    · rcases List.mem_cons.mp h2 with e2 | h2
      · exact absurd (by rw [← e2]; exact List.mem_map_of_mem (f := (·.2)) h1) nd.1
      · exact ih nd.2 h1 h2
section
variable {K : Fr} {F H : Hp} {io : List (Nat × Addr)} {ss : List Slot} {vs : List V}
theorem start_get {N : List Str} {vs : List V} {i : Nat} {v : V} (h : vs[i]? = some v) : (L2.start N vs)[i]? = some (some v) := by
  have hi := (List.getElem?_eq_some_iff.mp h).1
  unfold L2.start
  rw [List.getElem?_append_left (by simpa using hi), List.getElem?_map, h]
  rfl
/-- the state at a def's entry -/
abbrev entD (F H : Hp) (io : List (Nat × Addr)) (n : Nat) : Ent := ⟨F, H, io, n, fun σ _ => σ.length = n, fun _ _ _ _ h => h, fun _ _ h => h⟩
theorem ArgR.st {N : List Str} (A : ArgR K F H io ss vs) (hN : vs.length ≤ N.length) : StR K (entD F H io N.length) F (ss.map some ++ List.replicate (N.length - ss.length) none) (L2.start N vs) H (ownOf io) := by
  refine ⟨Post.refl A.FH, by simp [L2.start, A.len], fun i s e => ?_, fun i a ha => ?_, fun i j a h1 h2 => ?_, fun p hp => ownOf_io A.nd1 hp, by show (L2.start N vs).length = N.length; simp [L2.start]; omega⟩
  · have hi : ss[i]? = some s := by
      by_cases hl : i < ss.length
      · rw [List.getElem?_append_left (by simpa using hl), List.getElem?_map] at e
        cases q : ss[i]? with
        | none => rw [q] at e; cases e
        | some t => rw [q] at e; simpa using e
      · rw [List.getElem?_append_right (by simpa using Nat.le_of_not_lt hl)] at e
        obtain ⟨_, z⟩ := List.getElem?_eq_some_iff.mp e
        rw [List.getElem_replicate] at z
        cases z
    by_cases m : i ∈ io.map (·.1)
    · obtain ⟨p, hp, rfl⟩ := List.mem_map.mp m
      obtain ⟨s', v, h1, h2, h3, _⟩ := A.ow p hp
      rw [hi] at h1
      cases h1
      refine ⟨v, start_get h2, ?_⟩
      rw [show ownOf io p.1 = [p.2] from ownOf_io A.nd1 hp]
      exact h3
    · obtain ⟨v, h2, h3⟩ := A.fz i s hi m
      refine ⟨v, start_get h2, ?_⟩
      have e0 : ownOf io i = [] := by
        unfold ownOf
        rw [List.map_eq_nil_iff, List.filter_eq_nil_iff]
        intro p hp
        simp only [decide_eq_true_eq]
        intro e
        exact m (by rw [← e]; exact List.mem_map_of_mem hp)
      rw [e0]
      exact h3
  · have hm := mem_ownOf.mp ha
    obtain ⟨_, _, _, _, _, h4, h5⟩ := A.ow (i, a) hm
    exact ⟨h4, h5, .inr (List.mem_map_of_mem (f := (·.2)) hm)⟩
  · exact inj_snd A.nd (mem_ownOf.mp h1) (mem_ownOf.mp h2)
theorem SlotR.one {a : Addr} {s : Slot} {v : V} (hs : isOwn s = true) (h : SlotR K F H [a] s v) : v = .ref a := by
  cases s with
  | fz d => cases hs
  | ow xs =>
    obtain ⟨b, _, rfl, e, _⟩ := h
    cases e
    rfl
  | oi C ns ds =>
    obtain ⟨b, _, _, rfl, e, _⟩ := h
    cases e
    rfl
theorem outs_ok {E : Ent} {F' H' : Hp} {ŝ : AS} {σ : L2.St} {own : Own} (S : StR K E F' ŝ σ H' own) : ∀ (io : List (Nat × Addr)) {outs : List Slot}, (∀ p ∈ io, p ∈ E.io) → outsOf ŝ (io.map (·.1)) = some outs → OutsR K F' H' io outs
  | [], outs, _, e => by
    simp only [List.map_nil, outsOf, Option.some.injEq] at e
    exact e.symm
  | p :: io, outs, hs, e => by
    simp only [List.map_cons, outsOf] at e
    split at e
    · rename_i s r e1 e2
      split at e
      · rename_i ho
        cases e
        obtain ⟨v, hv, q⟩ := S.sl p.1 s (get_some e1)
        have eo := S.ios p (hs p List.mem_cons_self)
        rw [eo] at q
        have ev := SlotR.one ho q
        subst ev
        exact ⟨s, r, rfl, q, (S.sep p.1 p.2 (by rw [eo]; simp)).1, outs_ok S io (fun q hq => hs q (List.mem_cons_of_mem _ hq)) e2⟩
      · cases e
    · cases e
theorem retV_of {E : Ent} {F' H' : Hp} {own : Own} {r : Ret} {v : V} (h : RetR K E F' H' own r v) : RetV K E.H0 F' H' r v := by
  cases r with
  | fz d => exact h
  | ow xs =>
    obtain ⟨a, vs, rfl, M⟩ := h
    exact ⟨a, vs, rfl, M.h0, M.hF, M.hH, M.r⟩
end
section
variable {P : Program} {w : World} {K : Fr} {mg : Str → Option Value} {base : Heap}
/-- a def of the text: its body does what b says -/
theorem fn_ok {x qual : Str} {params : Arguments} {body : List Stmt} {scope : Scope} {f : Addr} {fd : FuncData} {N ps : List Str} {k : Nat} {ios : List Nat} {b : SC} (Fn : FunD K x qual params body scope [] [] f fd) (S : FnScope N ps scope) (hp : ps.length ≤ N.length)
    (hb : ∀ (cdv : Value) (A : Around) (outer : List Env) (s : Shared) (H : Hp) (Ex : XK) (E : Ent) (W : WX), Ctx (cxOf (L2.CX P w) P w K mg base N qual scope f cdv A outer s H Ex) W k → Ios E (inL ios) → E.n = N.length → JSs (cxOf (L2.CX P w) P w K mg base N qual scope f cdv A outer s H Ex) E W body b) :
    FnOk P w K mg base (L2.CX P w) (k + 1) f fd ps (spF K ps.length ios (runB N.length ios b)) := by
  refine Fn.ok S (fun vs H Q E ⟨_, _, _, h, _⟩ => h) fun cdv A outer s H vs Q Ex hr ⟨F, ss, io, hl, hio, AR, ho⟩ => ?_
  have tk := takes_of (X := cxOf (L2.CX P w) P w K mg base N qual scope f cdv A outer s H Ex) (E := Ex) rfl rfl rfl rfl
  have po : PassesOwn (model P w) (A.deeper (envOfC qual scope s.heap.objs.size f cdv)) (envOfC qual scope s.heap.objs.size f cdv) _ := passes_of (X := cxOf (L2.CX P w) P w K mg base N qual scope f cdv A outer s H Ex) rfl
  refine ⟨_, hb cdv A outer s H Ex (entD F H io N.length) (fun cls d _ H => Ex cls d H) ⟨rfl, hr, tk, S.nd, po⟩ ⟨fun p hp => by
    have m : p.1 ∈ ios := by rw [← hio]; exact List.mem_map_of_mem hp
    simpa [inL] using m, fun i σ F v _ h => by show (σ.set i v).length = N.length; rw [List.length_set]; exact h⟩ rfl, ?_⟩
  refine ⟨_, F, _, AR.st (N := N) (by rw [hl]; exact hp), ?_⟩
  unfold runB at ho
  subst hio
  cases hb : b (ss.map some ++ List.replicate (N.length - ss.length) none) with
  | nx ŝ =>
    rw [hb] at ho
    simp only at ho
    split at ho
    · rename_i o e
      exact fun σ' H' F' own' S' _ => ho .non F' H' S'.post (outs_ok S' io (fun _ h => h) e) (by simp only [RetV, Rep])
    · exact ho.elim
  | rt r ŝ =>
    rw [hb] at ho
    simp only at ho
    split at ho
    · rename_i o e
      exact fun v σ' H' F' own' S' hr' => ho v F' H' S'.post (outs_ok S' io (fun _ h => h) e) (retV_of hr')
    · exact ho.elim
  | exn x ŝ =>
    rw [hb] at ho
    simp only at ho
    split at ho
    · rename_i o e
      exact fun σ' F' H' own' cls dd S' hx => ho cls dd F' H' S'.post (outs_ok S' io (fun _ h => h) e) hx
    · exact ho.elim
  | bk ŝ => rw [hb] at ho; exact ho.elim
  | ct ŝ => rw [hb] at ho; exact ho.elim
  | stuck => rw [hb] at ho; exact ho.elim
/-- a def that may be called under the name x -/
structure Cal (P : Program) (w : World) (K : Fr) (mg : Str → Option Value) (base : Heap) (k : Nat) (x : Str) (n : Nat) (ios : List Nat) (m : FM) : Prop where
  ex : ∃ (f : Addr) (fd : FuncData) (ps : List Str), ps.length = n ∧ FnOk P w K mg base (L2.CX P w) k f fd ps (spF K n ios m) ∧ mg x = some (.ref f) ∧ PySem.W.keepIn K (.ref f) = true ∧ Binds K fd ps []
end
/-! ### calls -/
section
variable {X : Cx} {E : Ent} {W : WX} {e a b : Expr} {es : List Expr} {pos p apos : Pos} {K : Fr} {j k n : Nat} {x : Str} {m : FM}
theorem argR_fz {F H : Hp} {ds : List D} {vs : List V} (s : Same F H) (r : Reps K F ds vs) : ArgR K F H [] (ds.map Slot.fz) vs := by
  refine ⟨s, by simp [r.len], List.nodup_nil, List.nodup_nil, fun i t e _ => ?_, fun _ h => nomatch h⟩
  rw [List.getElem?_map] at e
  cases q : ds[i]? with
  | none => rw [q] at e; cases e
  | some d =>
    rw [q] at e
    cases e
    obtain ⟨v, hv, rv⟩ := r.get q
    exact ⟨v, hv, rfl, rv⟩
def pCallR (n : Nat) (m : FM) (ds : List D) : Res D := if ds.length = n then (match m (ds.map .fz) with
  | .rt (.fz d) _ => .ok d
  | .rt (.ow xs) _ => .ok (.lst xs)
  | .exn x _ => .exn x
  | _ => .stuck) else .stuck
/-- a new list becomes a frozen one -/
theorem retV_fz {H0 F H : Hp} {xs : List D} {v : V} {F0 : Hp} (P : Post F0 H0 [] F H) (r : RetV K H0 F H (.ow xs) v) : ∃ F', Post F0 H0 [] F' H ∧ Rep K F' (.lst xs) v := by
  obtain ⟨a, vs, rfl, h0, hf, hh, rr⟩ := r
  have ff : Same F (upd F a (.lst vs)) := fun b u z => by rw [upd_ne (ne_of_none z hf)]; exact z
  refine ⟨upd F a (.lst vs), ⟨fun b u z => ?_, P.FF.trans ff, fun b u z => ?_, P.keep⟩, ?_⟩
  · by_cases hb : b = a
    · subst hb; rw [upd_same] at z; rw [← z]; exact hh
    · rw [upd_ne hb] at z; exact P.FH b u z
  · by_cases hb : b = a
    · subst hb; exact .inr h0
    · rw [upd_ne hb] at z; exact P.new b u z
  · simp only [Rep]
    exact ⟨a, vs, rfl, upd_same, rr.mono ff⟩
def pCallRN (n : Nat) (m : FM) (ds : List D) : Res (List D) := if ds.length = n then (match m (ds.map .fz) with
  | .rt (.ow xs) _ => .ok xs
  | .exn x _ => .exn x
  | _ => .stuck) else .stuck
def pCall (n : Nat) (m : FM) (cs : PL) : PC := fun ŝ => (cs ŝ).bind fun ds => pCallR n m ds
def pCallN (n : Nat) (m : FM) (cs : PL) : PL := fun ŝ => (cs ŝ).bind fun ds => pCallRN n m ds
/-- what a call of plain data asks -/
theorem call_fz {σ : L2.St} {ŝ : AS} {F H F1 H1 : Hp} {own : Own} {ds : List D} {vs : List V} {Q : VK} (S : StR K E F ŝ σ H own) (P1 : Post F H [] F1 H1) (r : Reps K F1 ds vs)
    (q : ResP K E W σ ŝ (pCallR n m ds) fun d => ∀ v F' H', Post F H [] F' H' → Rep K F' d v → Q v H') : spF K n [] m vs H1 Q (WE W σ) := by
  unfold pCallR at q
  split at q
  · rename_i hn
    refine ⟨F1, ds.map .fz, [], by rw [r.len]; exact hn, rfl, argR_fz P1.FH r, ?_⟩
    split at q
    · rename_i d o e
      rw [e]
      exact fun v F' H' P _ rv => q v F' H' (P1.trans P) rv
    · rename_i xs o e
      rw [e]
      exact fun v F' H' P _ rv => by
        obtain ⟨F2, P2, r2⟩ := retV_fz P rv
        exact q v F2 H' (P1.trans P2) r2
    · rename_i x o e
      rw [e]
      exact fun cls dd F' H' P _ rx => q F' H' own cls dd (S.grow (P1.trans P)) rx
    · exact q.elim
  · exact q.elim
theorem call_ow {σ : L2.St} {ŝ : AS} {F H F1 H1 : Hp} {own : Own} {ds : List D} {vs : List V} {Q : VK} (S : StR K E F ŝ σ H own) (P1 : Post F H [] F1 H1) (r : Reps K F1 ds vs)
    (q : ResP K E W σ ŝ (pCallRN n m ds) fun xs => ∀ a vs F' H', Post F H [] F' H' → H a = none → F' a = none → H' a = some (.lst vs) → Reps K F' xs vs → Q (.ref a) H') : spF K n [] m vs H1 Q (WE W σ) := by
  unfold pCallRN at q
  split at q
  · rename_i hn
    refine ⟨F1, ds.map .fz, [], by rw [r.len]; exact hn, rfl, argR_fz P1.FH r, ?_⟩
    split at q
    · rename_i d o e
      rw [e]
      exact fun v F' H' P _ ⟨a, vs, ev, h0, hf, hh, rr⟩ => by
        subst ev
        exact q a vs F' H' (P1.trans P) (none_of P1 h0) hf hh rr
    · rename_i x o e
      rw [e]
      exact fun cls dd F' H' P _ rx => q F' H' own cls dd (S.grow (P1.trans P)) rx
    · exact q.elim
  · exact q.elim
theorem jf_call {cs : PL} (f : Cal X.prog X.w X.K X.mg X.base j x n [] m) (C : Ctx X W k) (ha : Ja X E W (e :: es) cs) (hj : j ≤ k := by decide) (hg : Gl X x := by rfl) (hdb : (x == ("__debug__" : Str)) = false := by decide)
    (he : starEach (e :: es) X.env = (false, eval e X.env) :: starEach es X.env := by rfl) (hpl : (backTo pos (starEach es X.env)).any (·.1) = false := by rfl) : Jf X E W (.Call (.Name x p) (e :: es) [] pos) (pCall n m cs) := by
  obtain ⟨f, fd, ps, hps, hf, hm, hk, hb⟩ := f.ex
  exact PE_imp (pe_callS hf (C.room.mono hj) hg hm hk hb (fun σ => passAt C.tk σ) ha hdb he hpl) fun σ H Q ⟨ŝ, F, own, S, k⟩ => ⟨ŝ, F, own, S, k.bind.imp fun ds q vs F1 H1 P1 r1 => call_fz S P1 r1 q⟩
theorem jn_call {cs : PL} (f : Cal X.prog X.w X.K X.mg X.base j x n [] m) (C : Ctx X W k) (ha : Ja X E W (e :: es) cs) (hj : j ≤ k := by decide) (hg : Gl X x := by rfl) (hdb : (x == ("__debug__" : Str)) = false := by decide)
    (he : starEach (e :: es) X.env = (false, eval e X.env) :: starEach es X.env := by rfl) (hpl : (backTo pos (starEach es X.env)).any (·.1) = false := by rfl) : Jn X E W (.Call (.Name x p) (e :: es) [] pos) (pCallN n m cs) := by
  obtain ⟨f, fd, ps, hps, hf, hm, hk, hb⟩ := f.ex
  exact PE_imp (pe_callS hf (C.room.mono hj) hg hm hk hb (fun σ => passAt C.tk σ) ha hdb he hpl) fun σ H Q ⟨ŝ, F, own, S, k⟩ => ⟨ŝ, F, own, S, k.bind.imp fun ds q vs F1 H1 P1 r1 => call_ow S P1 r1 q⟩
/-- no arguments -/
theorem pe_call0S {CX : CXT} {f : Addr} {fd : FuncData} {ps : List Str} {sp : Sp} {Ex : L2.St → XK} (F : FnOk X.prog X.w X.K X.mg X.base CX k f fd ps sp) (hr : Room k X.A) (hg : Gl X x) (hm : X.mg x = some (.ref f)) (hk : PySem.W.keepIn X.K (.ref f) = true) (hb : Binds X.K fd ps []) (hx : ∀ σ, PassesAt CX X σ (Ex σ))
    (hdb : (x == ("__debug__" : Str)) = false := by decide) : PE X (.Call (.Name x p) [] [] pos) (tCallS sp Ex tNil) :=
  ⟨fun pins s σ H Q I h => wpAny_Call_Name_kw (ld_glob I hg hm (PySem.W.callWith_K0 I.kIn hk (run_fnS (us := []) F hr hb (hx σ) I .nil h)) hdb)⟩
theorem jf_call0 (f : Cal X.prog X.w X.K X.mg X.base j x 0 [] m) (C : Ctx X W k) (hj : j ≤ k := by decide) (hg : Gl X x := by rfl) (hdb : (x == ("__debug__" : Str)) = false := by decide) : Jf X E W (.Call (.Name x p) [] [] pos) (pCall 0 m pNil) := by
  obtain ⟨f, fd, ps, hps, hf, hm, hk, hb⟩ := f.ex
  exact PE_imp (pe_call0S hf (C.room.mono hj) hg hm hk hb (fun σ => passAt C.tk σ) hdb) fun σ H Q ⟨ŝ, F, own, S, k⟩ => call_fz S (Post.refl S.fh) Reps.nil (ResP.bind k)
theorem jn_call0 (f : Cal X.prog X.w X.K X.mg X.base j x 0 [] m) (C : Ctx X W k) (hj : j ≤ k := by decide) (hg : Gl X x := by rfl) (hdb : (x == ("__debug__" : Str)) = false := by decide) : Jn X E W (.Call (.Name x p) [] [] pos) (pCallN 0 m pNil) := by
  obtain ⟨f, fd, ps, hps, hf, hm, hk, hb⟩ := f.ex
  exact PE_imp (pe_call0S hf (C.room.mono hj) hg hm hk hb (fun σ => passAt C.tk σ) hdb) fun σ H Q ⟨ŝ, F, own, S, k⟩ => call_ow S (Post.refl S.fh) Reps.nil (ResP.bind k)
/-- arguments as they stand, a flat result -/
def flatR : Res D → Res D
  | .ok d => (match flat d with
    | true => .ok d
    | false => .stuck)
  | .exn x => (match x.ns with
    | [] => .exn x
    | _ => .stuck)
  | .stuck => .stuck
def pCallV (n : Nat) (m : FM) (cs : PL) : PC := fun ŝ => (cs ŝ).bind fun ds => flatR (pCallR n m ds)
theorem jf_callV {cs : PL} (f : Cal X.prog X.w X.K X.mg X.base j x n [] m) (C : Ctx X W k) (ha : Jw X E W (e :: es) cs) (hj : j ≤ k := by decide) (hg : Gl X x := by rfl) (hdb : (x == ("__debug__" : Str)) = false := by decide)
    (he : starEach (e :: es) X.env = (false, eval e X.env) :: starEach es X.env := by rfl) (hpl : (backTo pos (starEach es X.env)).any (·.1) = false := by rfl) : Jf X E W (.Call (.Name x p) (e :: es) [] pos) (pCallV n m cs) := by
  obtain ⟨f, fd, ps, hps, hf, hm, hk, hb⟩ := f.ex
  refine PE_imp (pe_callS hf (C.room.mono hj) hg hm hk hb (fun σ => passAt C.tk σ) ha hdb he hpl) fun σ H Q ⟨ŝ, F, own, S, k⟩ => ⟨ŝ, F, own, S, k.bind.imp fun ds q vs F1 H1 P1 r1 => ?_⟩
  unfold pCallR at q
  have back : ∀ {F' H' : Hp}, Post H1 H1 [] F' H' → Post F H [] F1 H' := fun {F' H'} P => ⟨P1.FH.trans P.hh, P1.FF, P1.new, fun a o e m => P.hh _ _ (P1.keep a o e m)⟩
  split at q
  · rename_i hn
    refine ⟨H1, ds.map .fz, [], by rw [r1.len]; exact hn, rfl, argR_fz (Same.refl _) r1, ?_⟩
    have fin : ∀ {d : D} {v : V} {F' H' : Hp}, ResP X.K E W σ ŝ (flatR (.ok d)) (fun d => ∀ v F' H', Post F H [] F' H' → Rep X.K F' d v → Q v H') → Post H1 H1 [] F' H' → Rep X.K F' d v → Q v H' := fun {d v F' H'} q P rv => by
      simp only [flatR] at q
      cases hd : flat d with
      | true => rw [hd] at q; exact q v F1 H' (back P) (flat_rep hd rv)
      | false => rw [hd] at q; exact q.elim
    split at q
    · rename_i d o e
      rw [e]
      exact fun v F' H' P _ rv => fin q P rv
    · rename_i xs o e
      rw [e]
      exact fun v F' H' P _ rv => by
        obtain ⟨F2, P2, r2⟩ := retV_fz P rv
        exact fin q P2 r2
    · rename_i x o e
      rw [e]
      refine fun cls dd F' H' P _ rx => ?_
      simp only [flatR] at q
      split at q
      · rename_i hn
        obtain ⟨e1, rx | ⟨d, us, e2, ne, e3, e4, e5⟩⟩ := rx
        · exact q F1 H' own cls dd (S.grow (back P)) ⟨e1, .inl rx⟩
        · exact absurd hn ne
      · exact q.elim
    · exact q.elim
  · exact q.elim
/-- f(x, ..), the first argument a list of one's own that f changes -/
def iCallR (n : Nat) (m : FM) (i : Nat) (ds : List D) (ŝ : AS) : Out D := match get ŝ i with
  | some (.ow xs) => if ds.length + 1 = n then (match m (.ow xs :: ds.map .fz) with
    | .rt (.fz d) [.ow ys] => .ok d (ŝ.set i (some (.ow ys)))
    | .rt (.ow xs) [.ow ys] => .ok (.lst xs) (ŝ.set i (some (.ow ys)))
    | .exn x [.ow ys] => .exn x (ŝ.set i (some (.ow ys)))
    | _ => .stuck) else .stuck
  | _ => .stuck
def iCall (n : Nat) (m : FM) (i : Nat) (cs : IL) : IC := fun ŝ => match get ŝ i with
  | some (.ow _) => (cs ŝ).bind fun ds ŝ => iCallR n m i ds ŝ
  | _ => .stuck
/-- behind such a call -/
theorem StR.io {F H F' H' : Hp} {ŝ : AS} {σ : L2.St} {own : Own} (S : StR K E F ŝ σ H own) {i : Nat} {a : Addr} {ys : List D} (ho : own i = [a]) (hi : i < ŝ.length) (hσ : σ[i]? = some (some (.ref a))) (P : Post F H [a] F' H') (q : SlotR K F' H' [a] (.ow ys) (.ref a)) (hf : F' a = none) :
    StR K E F' (ŝ.set i (some (.ow ys))) σ H' own := by
  refine S.step P (fun b m => ⟨i, by rw [ho]; exact m⟩) (fun b m => ?_) (fun b m => ?_) (by simp) fun j s e => ?_
  · obtain rfl : b = a := by simpa using m
    obtain ⟨c, vs, e1, _, e2, _⟩ := q
    cases e1
    exact ⟨_, e2⟩
  · obtain rfl : b = a := by simpa using m
    exact hf
  · by_cases hj : j = i
    · subst hj
      obtain ⟨_, e2⟩ := get_set_eq e
      cases e2
      exact .inr ⟨.ref a, hσ, by rw [ho]; exact q⟩
    · rw [List.getElem?_set_ne (Ne.symm hj)] at e
      refine .inl ⟨e, fun b hb m => hj ?_⟩
      obtain rfl : b = a := by simpa using m
      exact S.dis j i b hb (by rw [ho]; simp)
theorem lt_of_get {ŝ : AS} {i : Nat} {s : Slot} (h : get ŝ i = some s) : i < ŝ.length := (List.getElem?_eq_some_iff.mp (get_some h)).1
/-- a new list that a call gave, told by the caller's state -/
theorem retV_mine {F H F' H' : Hp} {io : List Addr} {ŝ ŝ2 : AS} {σ σ2 : L2.St} {own : Own} {xs : List D} {v : V} (S : StR K E F ŝ σ H own) (S2 : StR K E F' ŝ2 σ2 H' own) (P : Post F H io F' H') (r : RetV K H F' H' (.ow xs) v) : ∃ a vs, v = .ref a ∧ Mine K E F' H' own a xs vs := by
  obtain ⟨a, vs, rfl, h0, hf, hh, rr⟩ := r
  refine ⟨a, vs, rfl, hf, hh, ?_, fun i m => ?_, rr⟩
  · cases z : E.H0 a with
    | none => rfl
    | some o =>
      by_cases m : a ∈ E.io.map (·.2)
      · obtain ⟨p, hp, rfl⟩ := List.mem_map.mp m
        obtain ⟨_, ⟨o2, h2⟩, _⟩ := S.sep p.1 p.2 (by rw [S.ios p hp]; simp)
        rw [h0] at h2; cases h2
      · have h2 := S.post.keep a o z m
        rw [h0] at h2; cases h2
  · obtain ⟨_, ⟨o2, h2⟩, _⟩ := S.sep i a m
    rw [h0] at h2; cases h2
theorem jF_call {cs : IL} {y : Str} {py : Pos} (f : Cal X.prog X.w X.K X.mg X.base j x n [0] m) (C : Ctx X W k) (i : Nat) (ha : JA X E W es cs) (hN : X.N[i]? = some y := by rfl) (hv : Vis X.env.scope y := by first | exact Or.inl rfl | exact Or.inr (Or.inl rfl) | exact Or.inr (Or.inr rfl)) (hd : (y == ("__debug__" : Str)) = false := by decide)
    (hcd : (y == ("__classdict__" : Str)) = false := by decide) (hj : j ≤ k := by decide) (hg : Gl X x := by rfl) (hdb : (x == ("__debug__" : Str)) = false := by decide)
    (he : starEach (.Name y py :: es) X.env = (false, eval (.Name y py) X.env) :: starEach es X.env := by rfl) (hpl : (backTo pos (starEach es X.env)).any (·.1) = false := by rfl) : JF X E W (.Call (.Name x p) (.Name y py :: es) [] pos) (iCall n m i cs) := by
  obtain ⟨f, fd, ps, hps, hf, hm, hk, hb⟩ := f.ex
  refine PE_imp (pe_callS hf (C.room.mono hj) hg hm hk hb (fun σ => passAt C.tk σ) (pa_cons (pe_var hN hv hd hcd) ha he) hdb he hpl) fun σ H Q ⟨ŝ, F, own, S, k⟩ => ?_
  unfold iCall at k
  split at k
  · rename_i xs0 e0
    obtain ⟨a, vs0, hσ, ho0, hh0, _, _⟩ := S.ow e0
    refine ⟨.ref a, hσ, ŝ, F, own, S, k.bind.imp fun ds ŝ1 q vs H1 F1 own1 S1 ff r1 => ?_⟩
    unfold iCallR at q
    split at q
    · rename_i xs e
      obtain ⟨a1, us, hσ1, ho, hh, rr, hF⟩ := S1.ow e
      rw [hσ] at hσ1
      cases hσ1
      split at q
      · rename_i hn
        refine ⟨F1, .ow xs :: ds.map .fz, [(0, a)], by simp [r1.len, hn], rfl, ⟨S1.fh, by simp [r1.len], by simp, by simp, fun t s es ht => ?_, fun p hp => ?_⟩, ?_⟩
        · cases t with
          | zero => exact absurd (by simp) ht
          | succ t =>
            rw [List.getElem?_cons_succ, List.getElem?_map] at es
            cases q2 : ds[t]? with
            | none => rw [q2] at es; cases es
            | some d =>
              rw [q2] at es
              cases es
              obtain ⟨v, hv, rv⟩ := r1.get q2
              exact ⟨v, by simpa using hv, rfl, rv⟩
        · obtain rfl : p = (0, a) := by simpa using hp
          exact ⟨.ow xs, .ref a, rfl, rfl, ⟨a, us, rfl, rfl, hh, rr⟩, hF, _, hh⟩
        · split at q
          · rename_i d ys e2
            rw [e2]
            refine fun v F' H' P o rv => ?_
            obtain ⟨s, r, e3, q3, hf3, e4⟩ := o
            cases e3
            exact q v H' F' own1 (S1.io ho (lt_of_get e) hσ P q3 hf3) (ff.trans P.FF) rv
          · rename_i xs' ys e2
            rw [e2]
            refine fun v F' H' P o rv => ?_
            obtain ⟨s, r, e3, q3, hf3, e4⟩ := o
            cases e3
            have S2 := S1.io ho (lt_of_get e) hσ P q3 hf3
            have M := retV_mine S1 S2 P rv
            obtain ⟨b, ws, rfl, M⟩ := M
            obtain ⟨S3, f3⟩ := S2.freeze M.hF M.hH M.h0 M.ho
            refine q (.ref b) H' _ own1 S3 ((ff.trans P.FF).trans f3) ?_
            simp only [Rep]
            exact ⟨b, ws, rfl, upd_same, M.r.mono f3⟩
          · rename_i x ys e2
            rw [e2]
            refine fun cls dd F' H' P o rx => ?_
            obtain ⟨s, r, e3, q3, hf3, e4⟩ := o
            cases e3
            exact q F' H' own1 cls dd (S1.io ho (lt_of_get e) hσ P q3 hf3) rx
          · exact q.elim
      · exact q.elim
    · exact q.elim
  · exact k.elim
end
end FL

set_option maxHeartbeats 4000000
/-! FL5: lists of one's own that are changed; built-in calls; methods; comprehensions. -/
namespace FL
open PySem PySem.Spec PyProof.Rows L2
section
variable {X : Cx} {E : Ent} {W : WX} {e a b : Expr} {es : List Expr} {pos p apos cpos py : Pos} {K : Fr} {j k n : Nat} {x y name : Str} {id : String}
/-! ### methods of a list of one's own -/
abbrev LG := List D → List D → Option (D × List D)
def ROpW (K : Fr) (r : V → List V → Hp → VK → Prop) (g : LG) : Prop := ∀ {xs ys ds : List D} {d : D} {a : Addr} {F H : Hp} {vs us : List V} {Q : VK}, g xs ds = some (d, ys) → Same F H → F a = none → H a = some (.lst vs) → Reps K F xs vs → Reps K F ds us →
  (∀ z ws, Rep K F d z → Reps K F ys ws → Q z (upd H a (.lst ws))) → r (.ref a) us H Q
def iOwn (i : Nat) (g : LG) (cs : IL) : IC := fun ŝ => match get ŝ i with
  | some (.ow _) => (cs ŝ).bind fun ds ŝ => (match get ŝ i with
    | some (.ow xs) => (match g xs ds with
      | some (d, ys) => .ok d (ŝ.set i (some (.ow ys)))
      | none => .stuck)
    | _ => .stuck)
  | _ => .stuck
theorem ow_write {F H : Hp} {ŝ : AS} {σ : L2.St} {own : Own} (S : StR K E F ŝ σ H own) {i : Nat} {xs ys : List D} {a : Addr} {ws : List V} (e : get ŝ i = some (.ow xs)) (hσ : σ[i]? = some (some (.ref a))) (ho : own i = [a]) (hF : F a = none) (r : Reps K F ys ws) :
    StR K E F (ŝ.set i (some (.ow ys))) σ (upd H a (.lst ws)) own :=
  S.io ho (lt_of_get e) hσ (Post.write S.fh hF) ⟨a, ws, rfl, rfl, upd_same, r⟩ hF
theorem jF_mt {r : V → List V → Hp → VK → Prop} {g : LG} {cs : IL} (hr : ROpW X.K r g) (i : Nat) (slot : PySem.Slot "list" name id) (hty : typeOf (.builtin id) = pure (.type "method_descriptor")) (hm : MtR X id r) (ha : JA X E W (e :: es) cs)
    (hN : X.N[i]? = some y := by rfl) (hv : Vis X.env.scope y := by first | exact Or.inl rfl | exact Or.inr (Or.inl rfl) | exact Or.inr (Or.inr rfl)) (hd : (y == ("__debug__" : Str)) = false := by decide)
    (hcd : (y == ("__classdict__" : Str)) = false := by decide)
    (hbase : attributeBase (.Name y py) name X.env (eval (.Name y py) X.env) = eval (.Name y py) X.env := by rfl)
    (hfew : ((backTo cpos (starEach (e :: es) X.env)).all (fun x => !x.1) && (backToKw cpos (keywordEach [] X.env)).all (fun x => x.1.isSome)
      && decide ((e :: es).length + ([] : List Keyword).length + (if ([] : List Keyword).isEmpty then 0 else 1) < 30)) = true := by rfl)
    (hline : (apos.endLine == cpos.line) = true := by rfl) (hs : starEach (e :: es) X.env = (false, eval e X.env) :: starEach es X.env := by rfl) (hplain : (backTo cpos (starEach es X.env)).any (·.1) = false := by rfl) :
    JF X E W (.Call (.Attribute (.Name y py) name apos) (e :: es) [] cpos) (iOwn i g cs) :=
  PE_imp (pe_bm PySem.F.plainAttrs_list slot hty hm (pe_var hN hv hd hcd) ha hbase hfew hline hs hplain) fun σ H Q ⟨ŝ, F, own, S, k⟩ => by
    unfold iOwn at k
    split at k
    · rename_i xs0 e0
      obtain ⟨a, vs0, hσ, ho0, hh0, _, _⟩ := S.ow e0
      refine ⟨.ref a, hσ, .inl ⟨rfl, vs0, SqL.of hh0⟩, ŝ, F, own, S, k.bind.imp fun ds ŝ1 q vs H1 F1 own1 S1 ff r1 => ?_⟩
      split at q
      · rename_i xs e1
        obtain ⟨a1, us, hσ1, ho, hh, rr, hF⟩ := S1.ow e1
        rw [hσ] at hσ1
        cases hσ1
        split at q
        · rename_i d ys e2
          exact hr e2 S1.fh hF hh rr r1 fun z ws rz rw' => q z _ F1 own1 (ow_write S1 e1 hσ ho hF rw') ff rz
        · exact q.elim
      · exact q.elim
    · exact k.elim
theorem jF_mt0 {r : V → List V → Hp → VK → Prop} {g : LG} (hr : ROpW X.K r g) (i : Nat) (slot : PySem.Slot "list" name id) (hty : typeOf (.builtin id) = pure (.type "method_descriptor")) (hm : MtR X id r)
    (hN : X.N[i]? = some y := by rfl) (hv : Vis X.env.scope y := by first | exact Or.inl rfl | exact Or.inr (Or.inl rfl) | exact Or.inr (Or.inr rfl)) (hd : (y == ("__debug__" : Str)) = false := by decide)
    (hcd : (y == ("__classdict__" : Str)) = false := by decide)
    (hbase : attributeBase (.Name y py) name X.env (eval (.Name y py) X.env) = eval (.Name y py) X.env := by rfl)
    (hline : (apos.endLine == cpos.line) = true := by rfl) :
    JF X E W (.Call (.Attribute (.Name y py) name apos) [] [] cpos) (iOwn i g fun ŝ => .ok [] ŝ) :=
  PE_imp (pe_bm0 PySem.F.plainAttrs_list slot hty hm (pe_var hN hv hd hcd) hbase hline) fun σ H Q ⟨ŝ, F, own, S, k⟩ => by
    unfold iOwn at k
    split at k
    · rename_i xs e0
      obtain ⟨a, us, hσ, ho, hh, rr, hF⟩ := S.ow e0
      refine ⟨.ref a, hσ, .inl ⟨rfl, us, SqL.of hh⟩, ?_⟩
      simp only [Out.bind_ok, e0] at k
      cases e2 : g xs [] with
      | some q =>
        obtain ⟨d, ys⟩ := q
        rw [e2] at k
        exact hr e2 S.fh hF hh rr Reps.nil fun z ws rz rw' => k z _ F own (ow_write S e0 hσ ho hF rw') (Same.refl _) rz
      | none => rw [e2] at k; exact k.elim
    · exact k.elim
def gAppend : LG := fun xs ds => match ds with
  | [d] => if xs.length < 16777216 then some (.non, xs ++ [d]) else none
  | _ => none
theorem r_append : ROpW K rAppend gAppend := by
  intro xs ys ds d a F H vs us Q e s hF hH rx rd q
  unfold gAppend at e
  split at e
  · rename_i d'
    split at e
    · rename_i hz
      cases e
      simp only [Reps] at rd
      obtain ⟨v, u, rfl, r1, rfl⟩ := rd
      exact ⟨a, vs, v, rfl, rfl, hH, by rw [rx.len, sizeLine_eq]; exact hz, q _ _ (by simp only [Rep]) (rx.append (Reps.cons r1 Reps.nil))⟩
    · cases e
  · cases e
def gExtend : LG := fun xs ds => match ds with
  | [.lst zs] => if xs.length + zs.length ≤ 16777216 then some (.non, xs ++ zs) else none
  | _ => none
theorem r_extend : ROpW K rExtend gExtend := by
  intro xs ys ds d a F H vs us Q e s hF hH rx rd q
  unfold gExtend at e
  split at e
  · rename_i zs
    split at e
    · rename_i hz
      cases e
      simp only [Reps, Rep] at rd
      obtain ⟨v, u, rfl, ⟨b, ws, rfl, h1, h2⟩, rfl⟩ := rd
      exact ⟨a, b, vs, ws, rfl, rfl, hH, s _ _ h1, by rw [rx.len, h2.len, sizeLine_eq]; exact hz, q _ _ (by simp only [Rep]) (rx.append h2)⟩
    · cases e
  · cases e
def gPop : LG := fun xs ds => match ds with
  | [] => (xs[xs.length - 1]?).map fun d => (d, xs.dropLast)
  | _ => none
theorem Reps.dropLast {F : Hp} {ds : List D} {vs : List V} (h : Reps K F ds vs) : Reps K F ds.dropLast vs.dropLast := by
  rw [List.dropLast_eq_take, List.dropLast_eq_take, h.len]
  exact h.take _
theorem r_pop : ROpW K rPop gPop := by
  intro xs ys ds d a F H vs us Q e s hF hH rx rd q
  unfold gPop at e
  split at e
  · obtain ⟨d', e1, e2⟩ := Option.map_eq_some_iff.mp e
    cases e2
    simp only [Reps] at rd
    subst rd
    obtain ⟨v, hv, rv⟩ := rx.get e1
    exact ⟨a, vs, v, rfl, rfl, hH, by rw [rx.len]; exact hv, q _ _ rv rx.dropLast⟩
  · cases e
def gReverse : LG := fun xs ds => match ds with
  | [] => some (.non, xs.reverse)
  | _ => none
theorem r_reverse : ROpW K rReverse gReverse := by
  intro xs ys ds d a F H vs us Q e s hF hH rx rd q
  unfold gReverse at e
  split at e
  · cases e
    simp only [Reps] at rd
    subst rd
    exact ⟨a, vs, rfl, rfl, hH, q _ _ (by simp only [Rep]) rx.rev⟩
  · cases e
def gClear : LG := fun xs ds => match ds with
  | [] => some (.non, [])
  | _ => none
theorem r_clear : ROpW K rClear gClear := by
  intro xs ys ds d a F H vs us Q e s hF hH rx rd q
  unfold gClear at e
  split at e
  · cases e
    simp only [Reps] at rd
    subst rd
    exact ⟨a, vs, rfl, rfl, hH, q _ _ (by simp only [Rep]) Reps.nil⟩
  · cases e
def rInsert : V → List V → Hp → VK → Prop := fun x vs H Q => ∃ (l : Addr) (xs : List V) (i : Int) (y : V), x = .ref l ∧ vs = [.int i, y] ∧ H l = some (.lst xs) ∧ xs.length < sizeLine ∧ 0 ≤ i ∧ i < 2 ^ 63 ∧
    Q .non (upd H l (.lst (xs.take i.toNat ++ [y] ++ xs.drop i.toNat)))
def gInsert : LG := fun xs ds => match ds with
  | [.int i, d] => if xs.length < 16777216 ∧ 0 ≤ i ∧ i < 2 ^ 63 then some (.non, xs.take i.toNat ++ [d] ++ xs.drop i.toNat) else none
  | _ => none
theorem r_insert : ROpW K rInsert gInsert := by
  intro xs ys ds d a F H vs us Q e s hF hH rx rd q
  unfold gInsert at e
  split at e
  · rename_i i d'
    split at e
    · rename_i hz
      cases e
      simp only [Reps, Rep] at rd
      obtain ⟨v, u, rfl, rfl, v2, u2, rfl, r2, rfl⟩ := rd
      exact ⟨a, vs, i, v2, rfl, rfl, hH, by rw [rx.len, sizeLine_eq]; exact hz.1, hz.2.1, hz.2.2, q _ _ (by simp only [Rep]) (((rx.take _).append (Reps.cons r2 Reps.nil)).append (rx.drop _))⟩
    · cases e
  · cases e
/-! xs[i] = v -/
def gSetAt : LG := fun xs ds => match ds with
  | [.int i, d] => (ixN xs.length i).map fun j => (.non, xs.set j d)
  | _ => none
/-- o[c] = value, the value first -/
def sSetAt (i : Nat) (cv cx : IC) : SC := fun ŝ => (cv ŝ).st fun d ŝ => (match get ŝ i with
  | some (.ow _) => (cx ŝ).st fun ix ŝ => (match get ŝ i with
    | some (.ow xs) => (match gSetAt xs [ix, d] with
      | some (_, ys) => .nx (ŝ.set i (some (.ow ys)))
      | none => .stuck)
    | _ => .stuck)
  | _ => .stuck)
theorem js_setAt {cv cx : IC} (i : Nat) (h : JF X E W e cv) (hx : JF X E W b cx)
    (hN : X.N[i]? = some y := by rfl) (hv : Vis X.env.scope y := by first | exact Or.inl rfl | exact Or.inr (Or.inl rfl) | exact Or.inr (Or.inr rfl)) (hd : (y == ("__debug__" : Str)) = false := by decide)
    (hcd : (y == ("__classdict__" : Str)) = false := by decide)
    (ha : ∀ v, assign (.Subscript (.Name y py) b p) X.env v = (do
      let ov ← holding [v] (eval (.Name y py) X.env)
      let iv ← holding [v, ov] (eval b X.env)
      standAt p
      holding [v, ov, iv] (setItem ov iv v)
      release [v, ov, iv] []) := by intro _; rfl)
    (hs : swapsWithSole [.Subscript (.Name y py) b p] e pos.line X.env = pure false := by rfl) (hw : swappedStores [.Subscript (.Name y py) b p] e X.env = pure none := by rfl)
    (h1 : (assignEach [.Subscript (.Name y py) b p] X.env).map (·.2) = [assign (.Subscript (.Name y py) b p) X.env] := by rfl) :
    JS X E W (.Assign [.Subscript (.Name y py) b p] e pos) (sSetAt i cv cx) :=
  PS_imp (ps_asg h (pg_sub (pe_var hN hv hd hcd) hx set_list ha) hs hw h1) fun D σ H ⟨ŝ, F, own, S, k⟩ => ⟨ŝ, F, own, S, k.st.imp fun d ŝ1 q v H1 F1 own1 S1 ff rv => by
    split at q
    · rename_i xs0 e0
      obtain ⟨a, vs0, hσ, _, _, _, _⟩ := S1.ow e0
      refine ⟨.ref a, hσ, ŝ1, F1, own1, S1, q.st.imp fun ix ŝ2 q u H2 F2 own2 S2 ff2 ru => ?_⟩
      split at q
      · rename_i xs e1
        obtain ⟨a1, us, hσ1, ho, hh, rr, hF⟩ := S2.ow e1
        rw [hσ] at hσ1
        cases hσ1
        split at q
        · rename_i ys e2
          unfold gSetAt at e2
          split at e2
          · rename_i i' d' e3
            simp only [List.cons.injEq, and_true] at e3
            obtain ⟨rfl, rfl⟩ := e3
            obtain ⟨jj, e4, e5⟩ := Option.map_eq_some_iff.mp e2
            cases e5
            simp only [Rep] at ru
            subst ru
            refine ⟨a, us, i', jj, rfl, rfl, hh, by rw [rr.len]; exact e4, ?_⟩
            exact q σ _ F2 own2 (ow_write S2 e1 hσ ho hF (rr.set jj (rv.mono ff2))) (ff.trans ff2)
          · cases e2
        · exact q.elim
      · exact q.elim
    · exact q.elim⟩
/-! name op= e, scalars -/
def sAug (i : Nat) (f : D → D → Option D) (c : IC) : SC := fun ŝ => match get ŝ i with
  | some (.fz d0) => (c ŝ).st fun d ŝ => (match f d0 d with
    | some z => .nx (ŝ.set i (some (.fz z)))
    | none => .stuck)
  | _ => .stuck
theorem js_aug {op : Operator} {ti : TIp} {f : D → D → Option D} {c : IC} {ios : Nat → Bool} {pos' : Pos} (i : Nat) (h : JF X E W e c) (ho : PIp X op ti)
    (hr : ∀ {a b d : D} {F H : Hp} {v u : V} {Q : VK}, f a b = some d → Same F H → Rep X.K F a v → Rep X.K F b u → (∀ z, Rep X.K F d z → Q z H) → ti v u H Q)
    (hn : X.N.Nodup) (hE : Ios E ios) (hio : ios i = false := by rfl) (hN : X.N[i]? = some y := by rfl) (hx : Loc X.env.scope y := by first | exact .inl rfl | exact .inr rfl)
    (hf : X.fn y = true ∨ X.env.scope.names.lookup y = some .local := by first | exact .inl rfl | exact .inr rfl | assumption) :
    JS X E W (.AugAssign (.Name y pos') op e pos) (sAug i f c) := PS_imp (ps_aug hn hN hx h ho hf) fun D σ H ⟨ŝ, F, own, S, k⟩ => by
  unfold sAug at k
  split at k
  · rename_i d0 e0
    obtain ⟨v, hv, r⟩ := S.sl i _ (get_some e0)
    refine ⟨v, hv, ŝ, F, own, S, k.st.imp fun d ŝ1 q u H1 F1 own1 S1 ff ru => ?_⟩
    split at q
    · rename_i z e2
      exact hr e2 S1.fh (r.2.mono ff) ru fun z rz => q _ H1 F1 _ (S1.put rz (hE.ne hio)) ff
    · exact q.elim
  · exact k.elim
/-! ### what stands in a name, of one's own or not, frozen -/
def iVarF (i : Nat) : IC := fun ŝ => match get ŝ i with
  | some (.fz d) => .ok d ŝ
  | some (.ow xs) => .ok (.lst xs) (ŝ.set i (some (.fz (.lst xs))))
  | _ => .stuck
theorem jF_varF {ios : Nat → Bool} (i : Nat) (hE : Ios E ios) (hio : ios i = false := by rfl) (hN : X.N[i]? = some x := by rfl) (hv : Vis X.env.scope x := by first | exact Or.inl rfl | exact Or.inr (Or.inl rfl) | exact Or.inr (Or.inr rfl)) (hd : (x == ("__debug__" : Str)) = false := by decide)
    (hcd : (x == ("__classdict__" : Str)) = false := by decide) : JF X E W (.Name x pos) (iVarF i) := PE_imp (pe_var hN hv hd hcd) fun σ H Q ⟨ŝ, F, own, S, k⟩ => by
  unfold iVarF at k
  split at k
  · rename_i d e
    obtain ⟨v, hv, r⟩ := S.sl i _ (get_some e)
    exact ⟨v, hv, k v H F own S (Same.refl _) r.2⟩
  · rename_i xs e
    obtain ⟨a, vs, hσ, ho, hh, rr, hF⟩ := S.ow e
    have S1 := S.drop (hE.ne hio)
    have na : ∀ jj, a ∉ (fun jj => if jj = i then [] else own jj) jj := fun jj m => by
      by_cases hj : jj = i
      · simp [hj] at m
      · simp only [if_neg hj] at m
        exact hj (S.dis jj i a m (by rw [ho]; simp))
    have h0 : E.H0 a = none := by
      rcases (S.sep i a (by rw [ho]; simp)).2.2 with z | z
      · exact z
      · obtain ⟨p, hp, rfl⟩ := List.mem_map.mp z
        have := S.dis i p.1 p.2 (by rw [ho]; simp) (by rw [S.ios p hp]; simp)
        exact absurd this.symm ((hE.ne hio).io p hp)
    obtain ⟨S2, f2⟩ := S1.freeze hF hh h0 na
    have rl : Rep X.K (upd F a (.lst vs)) (.lst xs) (.ref a) := by
      simp only [Rep]
      exact ⟨a, vs, rfl, upd_same, rr.mono f2⟩
    have S3 := S2.put rl (hE.ne hio)
    have es : σ.set i (some (.ref a)) = σ := by
      refine List.ext_getElem? fun m => ?_
      by_cases hm : m = i
      · subst hm
        have hl := (List.getElem?_eq_some_iff.mp hσ).1
        rw [List.getElem?_set_self hl, hσ]
      · rw [List.getElem?_set_ne (Ne.symm hm)]
    rw [es, List.set_set] at S3
    exact ⟨.ref a, hσ, k _ H _ _ S3 f2 rl⟩
  · exact k.elim
end
end FL

set_option maxHeartbeats 4000000
/-! FL6: comprehensions. -/
namespace FL
open PySem PySem.Spec PyProof.Rows L2
def WNo : WX := fun _ _ _ _ => False
section
variable {X : Cx} {E : Ent} {W : WX} {e a b : Expr} {es : List Expr} {pos p apos cpos py : Pos} {K : Fr} {j k n : Nat} {x y name : Str}
theorem Ctx.blk (C : Ctx X W k) {s : Shared} {H : Hp} {scope : Scope} {cenv : Env} {fp : List Addr} : Ctx (X.blk s H scope cenv fp) WNo k :=
  ⟨C.calm, C.room, fun u s' ⟨_, _, _, _, _, _, _, _, _, _, _, _, _, _, _, _, w⟩ => w.elim, C.nd, PassesOwn.never⟩
def liveO (o : Option Slot) : Bool := match o with
  | some (.ow _) => true
  | some (.oi _ _ _) => true
  | _ => false
theorem liveO_one {F H : Hp} {o : List Addr} {s : Slot} {v : V} (h : liveO (some s) = true) (r : SlotR K F H o s v) : ∃ a, o = [a] := by
  cases s with
  | fz d => cases h
  | ow xs => obtain ⟨a, _, _, e, _⟩ := r; exact ⟨a, e⟩
  | oi C ns ds => obtain ⟨a, _, _, _, e, _⟩ := r; exact ⟨a, e⟩
/-- the state seen from here -/
theorem StR.sub {F H : Hp} {ŝ : AS} {σ : L2.St} {own : Own} (S : StR K E F ŝ σ H own) : ∃ (io : List (Nat × Addr)) (own' : Own), StR K (entD F H io σ.length) F ŝ σ H own' ∧
    (∀ p ∈ io, p ∈ E.io ∨ liveO (get ŝ p.1) = true) ∧ (∀ p ∈ io, p.2 ∈ own p.1) ∧
    ∀ F2 ŝ2 σ2 H2 own2, StR K (entD F H io σ.length) F2 ŝ2 σ2 H2 own2 → E.P σ2 F2 → StR K E F2 ŝ2 σ2 H2 own2 := by
  have hl0 : ∀ i, liveO (get ŝ i) = true → i < ŝ.length ∧ ∃ a, own i = [a] := fun i h => by
    cases q : get ŝ i with
    | none => rw [q] at h; cases h
    | some s =>
      rw [q] at h
      obtain ⟨v, _, r⟩ := S.sl i s (get_some q)
      exact ⟨lt_of_get q, liveO_one h r⟩
  generalize hown : (fun i => if liveO (get ŝ i) = true ∨ i ∈ E.io.map (·.1) then own i else [] : Own) = own'
  generalize hio : E.io ++ ((List.range ŝ.length).filter fun i => liveO (get ŝ i)).flatMap (fun i => (own i).map fun a => (i, a)) = io
  have ow : ∀ i a, a ∈ own' i → a ∈ own i ∧ (i, a) ∈ io := fun i a h => by
    rw [← hown] at h
    simp only at h
    split at h
    · rename_i hc
      refine ⟨h, ?_⟩
      rw [← hio, List.mem_append]
      rcases hc with hc | hc
      · right
        simp only [List.mem_flatMap, List.mem_filter, List.mem_range, List.mem_map]
        exact ⟨i, ⟨(hl0 i hc).1, hc⟩, a, h, rfl⟩
      · left
        obtain ⟨p, hp, rfl⟩ := List.mem_map.mp hc
        rw [S.ios p hp] at h
        obtain rfl : a = p.2 := by simpa using h
        exact hp
    · cases h
  have mem : ∀ p ∈ io, (p ∈ E.io ∨ liveO (get ŝ p.1) = true) ∧ p.2 ∈ own p.1 ∧ own' p.1 = [p.2] := fun p hp => by
    rw [← hio, List.mem_append] at hp
    rcases hp with hp | hp
    · refine ⟨.inl hp, by rw [S.ios p hp]; simp, ?_⟩
      rw [← hown]
      simp only
      rw [if_pos (.inr (List.mem_map_of_mem hp))]
      exact S.ios p hp
    · simp only [List.mem_flatMap, List.mem_filter, List.mem_range, List.mem_map] at hp
      obtain ⟨i, ⟨_, hc⟩, a, ha, rfl⟩ := hp
      refine ⟨.inr hc, ha, ?_⟩
      rw [← hown]
      simp only
      rw [if_pos (.inl hc)]
      obtain ⟨b, hb⟩ := (hl0 i hc).2
      rw [hb] at ha ⊢
      obtain rfl : a = b := by simpa using ha
      rfl
  have ex : ∀ p ∈ E.io, ∃ o, H p.2 = some o := fun p hp => (S.sep p.1 p.2 (by rw [S.ios p hp]; simp)).2.1
  have h0 : ∀ a, H a = none → E.H0 a = none ∨ a ∈ E.io.map (·.2) := fun a h => by
    cases q : E.H0 a with
    | none => exact .inl rfl
    | some o =>
      right
      by_cases m : a ∈ E.io.map (·.2)
      · exact m
      · have := S.post.keep a o q m
        rw [h] at this; cases this
  refine ⟨io, own', ⟨Post.refl S.fh, S.len, fun i s e => ?_, fun i a ha => ?_, fun i j a h1 h2 => S.dis i j a (ow i a h1).1 (ow j a h2).1, fun p hp => (mem p hp).2.2, rfl⟩, fun p hp => (mem p hp).1, fun p hp => (mem p hp).2.1, fun F2 ŝ2 σ2 H2 own2 S2 hP => ?_⟩
  · obtain ⟨v, hv, r⟩ := S.sl i s e
    refine ⟨v, hv, ?_⟩
    have eo : own' i = own i := by
      rw [← hown]
      simp only
      by_cases hc : liveO (get ŝ i) = true ∨ i ∈ E.io.map (·.1)
      · rw [if_pos hc]
      · rw [if_neg hc]
        cases s with
        | fz d => exact r.1.symm
        | ow xs => exact absurd (.inl (by simp [get, e, liveO])) hc
        | oi C ns ds => exact absurd (.inl (by simp [get, e, liveO])) hc
    rw [eo]
    exact r
  · obtain ⟨h1, h2⟩ := ow i a ha
    obtain ⟨z1, z2, z3⟩ := S.sep i a h1
    exact ⟨z1, z2, .inr (List.mem_map_of_mem (f := (·.2)) h2)⟩
  · refine ⟨?_, S2.len, S2.sl, fun i a ha => ?_, S2.dis, fun p hp => S2.ios p (by rw [← hio]; exact List.mem_append_left _ hp), hP⟩
    · refine S.post.trans_new S2.post (fun a m => ?_) fun a m => ?_
      · obtain ⟨p, hp, rfl⟩ := List.mem_map.mp m
        exact ex p hp
      · obtain ⟨p, hp, rfl⟩ := List.mem_map.mp m
        exact (S.sep p.1 p.2 (mem p hp).2.1).2.2
    · obtain ⟨z1, z2, z3⟩ := S2.sep i a ha
      refine ⟨z1, z2, ?_⟩
      rcases z3 with z3 | z3
      · exact h0 a z3
      · obtain ⟨p, hp, rfl⟩ := List.mem_map.mp z3
        exact (S.sep p.1 p.2 (mem p hp).2.1).2.2
/-! ### the slots of a block -/
def wipeA (ŝ : AS) : List Nat → AS
  | [] => ŝ
  | v :: vs => (wipeA ŝ vs).set v none
theorem wipeA_length (ŝ : AS) : ∀ vs : List Nat, (wipeA ŝ vs).length = ŝ.length
  | [] => rfl
  | v :: vs => by unfold wipeA; rw [List.length_set, wipeA_length ŝ vs]
theorem wipeA_some {ŝ : AS} {i : Nat} {s : Slot} : ∀ {vs : List Nat}, (wipeA ŝ vs)[i]? = some (some s) → ŝ[i]? = some (some s) ∧ i ∉ vs
  | [], h => ⟨h, by simp⟩
  | v :: vs, h => by
    unfold wipeA at h
    by_cases hi : v = i
    · subst hi
      obtain ⟨_, z⟩ := get_set_eq h
      cases z
    · rw [List.getElem?_set_ne hi] at h
      obtain ⟨h1, h2⟩ := wipeA_some h
      exact ⟨h1, by simp only [List.mem_cons, not_or]; exact ⟨fun e => hi e.symm, h2⟩⟩
theorem wipe_out {σ : L2.St} {i : Nat} : ∀ {vs : List Nat}, i ∉ vs → (L2.wipe σ vs)[i]? = σ[i]?
  | [], _ => rfl
  | v :: vs, h => by
    simp only [List.mem_cons, not_or] at h
    unfold L2.wipe
    rw [List.getElem?_set_ne (fun e => h.1 e.symm)]
    exact wipe_out h.2
theorem wipe_in {σ : L2.St} {i : Nat} : ∀ {vs : List Nat}, i ∈ vs → i < σ.length → (L2.wipe σ vs)[i]? = some none
  | v :: vs, h, hl => by
    unfold L2.wipe
    by_cases hi : v = i
    · subst hi
      rw [List.getElem?_set_self (by rw [L2.wipe_length]; exact hl)]
    · rw [List.getElem?_set_ne hi]
      exact wipe_in (by rcases List.mem_cons.mp h with h | h; exact absurd h.symm hi; exact h) hl
theorem wipe_eq {σ σ2 : L2.St} {vs : List Nat} (h : Keeps vs (L2.wipe σ vs) σ2) : L2.wipe σ2 vs = L2.wipe σ vs := by
  have hl : σ2.length = σ.length := by rw [h.1, L2.wipe_length]
  refine List.ext_getElem? fun i => ?_
  by_cases hi : i ∈ vs
  · by_cases hlt : i < σ.length
    · rw [wipe_in hi hlt, wipe_in hi (by rw [hl]; exact hlt)]
    · rw [List.getElem?_eq_none (by rw [L2.wipe_length, hl]; omega), List.getElem?_eq_none (by rw [L2.wipe_length]; omega)]
  · rw [wipe_out hi, h.2 i hi]
theorem StR.wipe {F H : Hp} {ŝ : AS} {σ : L2.St} {own : Own} (S : StR K E F ŝ σ H own) (vs ws : List Nat) (hs : ∀ v ∈ vs, v ∈ ws) (hP : E.P (L2.wipe σ vs) F) : StR K E F (wipeA ŝ ws) (L2.wipe σ vs) H own :=
  S.weak (by rw [wipeA_length, L2.wipe_length]; exact S.len) (fun i s e => by
    obtain ⟨h1, h2⟩ := wipeA_some e
    exact ⟨h1, wipe_out fun m => h2 (hs i m)⟩) hP
theorem wipe_P {σ : L2.St} {F : Hp} : ∀ {vs : List Nat}, (∀ v ∈ vs, Free E v) → E.P σ F → E.P (L2.wipe σ vs) F
  | [], _, h => h
  | v :: vs, hf, h => (hf v List.mem_cons_self).P _ _ _ (wipe_P (fun u hu => hf u (List.mem_cons_of_mem _ hu)) h)
/-- what stood in the slots vs comes back, as far as it is frozen -/
def fzO (o : Option Slot) : Option Slot := match o with
  | some (.fz d) => some (.fz d)
  | _ => none
def restoreA (ŝ0 ŝ1 : AS) : List Nat → AS
  | [] => ŝ1
  | v :: vs => (restoreA ŝ0 ŝ1 vs).set v (fzO (get ŝ0 v))
theorem restoreA_length (ŝ0 ŝ1 : AS) : ∀ vs : List Nat, (restoreA ŝ0 ŝ1 vs).length = ŝ1.length
  | [] => rfl
  | v :: vs => by unfold restoreA; rw [List.length_set, restoreA_length ŝ0 ŝ1 vs]
theorem restoreA_some {ŝ0 ŝ1 : AS} {i : Nat} {s : Slot} : ∀ {vs : List Nat}, (restoreA ŝ0 ŝ1 vs)[i]? = some (some s) → (ŝ1[i]? = some (some s) ∧ i ∉ vs) ∨ (i ∈ vs ∧ ∃ d, s = .fz d ∧ ŝ0[i]? = some (some (.fz d)))
  | [], h => .inl ⟨h, by simp⟩
  | v :: vs, h => by
    unfold restoreA at h
    by_cases hi : v = i
    · subst hi
      obtain ⟨_, z⟩ := get_set_eq h
      right
      refine ⟨List.mem_cons_self, ?_⟩
      cases q : get ŝ0 v with
      | none => rw [q] at z; cases z
      | some t =>
        rw [q] at z
        cases t with
        | fz d => cases z; exact ⟨d, rfl, get_some q⟩
        | ow xs => cases z
        | oi C ns ds => cases z
    · rw [List.getElem?_set_ne hi] at h
      rcases restoreA_some h with ⟨h1, h2⟩ | ⟨h1, h2⟩
      · exact .inl ⟨h1, by simp only [List.mem_cons, not_or]; exact ⟨fun e => hi e.symm, h2⟩⟩
      · exact .inr ⟨List.mem_cons_of_mem _ h1, h2⟩
theorem StR.restore {F H F2 H2 : Hp} {ŝ ŝ2 : AS} {σ : L2.St} {own own2 : Own} {vs ws : List Nat} (hs : ∀ v ∈ vs, v ∈ ws) (S : StR K E F ŝ σ H own) (S2 : StR K E F2 ŝ2 (L2.wipe σ vs) H2 own2) (ff : Same F F2) (hio : ∀ p ∈ E.io, p.1 ∉ ws) :
    StR K E F2 (restoreA ŝ ŝ2 ws) σ H2 (fun i => if i ∈ ws then [] else own2 i) := by
  refine ⟨S2.post, by rw [restoreA_length, S2.len, L2.wipe_length], fun i s e => ?_, fun i a ha => ?_, fun i j a h1 h2 => ?_, fun p hp => ?_, E.mono _ _ _ ff S.inv⟩
  · rcases restoreA_some e with ⟨h1, h2⟩ | ⟨h1, d, rfl, h2⟩
    · obtain ⟨v, hv, r⟩ := S2.sl i s h1
      refine ⟨v, by rw [wipe_out fun m => h2 (hs i m)] at hv; exact hv, ?_⟩
      show SlotR K F2 H2 (if i ∈ ws then [] else own2 i) s v
      rw [if_neg h2]
      exact r
    · obtain ⟨v, hv, r⟩ := S.sl i _ h2
      refine ⟨v, hv, ?_⟩
      show SlotR K F2 H2 (if i ∈ ws then [] else own2 i) _ v
      rw [if_pos h1]
      exact ⟨rfl, r.2.mono ff⟩
  · by_cases hi : i ∈ ws
    · simp [hi] at ha
    · simp only [if_neg hi] at ha
      exact S2.sep i a ha
  · by_cases hi : i ∈ ws
    · simp [hi] at h1
    · by_cases hj : j ∈ ws
      · simp [hj] at h2
      · simp only [if_neg hi] at h1
        simp only [if_neg hj] at h2
        exact S2.dis i j a h1 h2
  · show (if p.1 ∈ ws then [] else own2 p.1) = _
    rw [if_neg (hio p hp)]
    exact S2.ios p hp
/-! ### the new list beside the state -/
structure Aside (F H : Hp) (E : Ent) (own : Own) (D : Addr) (ws : List V) : Prop where
  hF : F D = none
  hH : H D = some (.lst ws)
  h0 : E.H0 D = none
  ho : ∀ i, D ∉ own i
/-- the state with the new list's content changed -/
theorem StR.laid {F H : Hp} {ŝ : AS} {σ : L2.St} {own : Own} {D : Addr} {ws ws' : List V} (S : StR K E F ŝ σ H own) (M : Aside F H E own D ws) : StR K E F ŝ σ (L2.upd H D (.lst ws')) own := by
  have ne : ∀ i a, a ∈ own i → a ≠ D := fun i a ha z => M.ho i (by rw [← z]; exact ha)
  refine ⟨⟨fun b u q => by rw [upd_ne (ne_of_none q M.hF)]; exact S.post.FH b u q, S.post.FF, S.post.new, fun a o e m => by rw [upd_ne (ne_of_none e M.h0)]; exact S.post.keep a o e m⟩, S.len, fun i s e => ?_, fun i a ha => ?_, S.dis, S.ios, S.inv⟩
  · obtain ⟨v, hv, r⟩ := S.sl i s e
    exact ⟨v, hv, r.mono (Same.refl _) fun a ha => upd_ne (ne i a ha)⟩
  · obtain ⟨h1, h2, h3⟩ := S.sep i a ha
    exact ⟨h1, by rw [upd_ne (ne i a ha)]; exact h2, h3⟩
/-- a list comprehension on data -/
def compGo (vs : List Nat) (g : GC) (tt : IB) (te : IC) : List D → List D → AS → Out (List D)
  | [], acc, ŝ => .ok acc ŝ
  | d :: ds, acc, ŝ => match g d ŝ with
    | none => .stuck
    | some ŝ1 => (match tt ŝ1 with
      | .ok true ŝ2 => (match te ŝ2 with
        | .ok x ŝ3 => if acc.length < 16777216 then compGo vs g tt te ds (acc ++ [x]) (wipeA ŝ3 vs) else .stuck
        | _ => .stuck)
      | .ok false ŝ2 => compGo vs g tt te ds acc (wipeA ŝ2 vs)
      | _ => .stuck)
def iLc (vs : List Nat) (c : IL) (g : GC) (tt : IB) (te : IC) : IL := fun ŝ => (c ŝ).bind fun ds ŝ1 => (compGo vs g tt te ds [] (wipeA ŝ1 vs)).bind fun acc ŝ2 => .ok acc (restoreA ŝ1 ŝ2 vs)
/-- a clause's tests in a block -/
abbrev JTs (X : Cx) (E : Ent) (W : WX) (es : List Expr) (c : IB) : Prop := PTs X es (rdT X.K E W c)
theorem PTs_imp {X : Cx} {e : List Expr} {t t' : TT} (h : PTs X e t) (i : ∀ σ H Q, t' σ H Q → t σ H Q) : PTs X e t' := ⟨fun pins s σ H Q I q => h.run pins s σ H Q I (i σ H Q q)⟩
theorem jts_nil : JTs X E W [] (fun ŝ => .ok true ŝ) := PTs_imp pts_nil fun σ H Q ⟨ŝ, F, own, S, k⟩ => k H F own S (Same.refl _)
theorem jts_one {c : IB} (h : JT X E W e c) : JTs X E W [e] c := pts_one h
theorem Aside.grow {F H F2 H2 : Hp} {own : Own} {D : Addr} {ws : List V} (M : Aside F H E own D ws) (P : Post F H [] F2 H2) : Aside F2 H2 E own D ws :=
by
  refine ⟨?_, P.hh _ _ M.hH, M.h0, M.ho⟩
  cases q : F2 D with
  | none => rfl
  | some o =>
    rcases P.new D o q with z | z
    · rw [M.hF] at z; cases z
    · rw [M.hH] at z; cases z
/-- a turn of one's own: what is nobody's stays -/
theorem Aside.sub {F H F2 H2 : Hp} {own own2 : Own} {D : Addr} {ws : List V} {io : List (Nat × Addr)} {ŝ2 : AS} {σ σ2 : L2.St} (M : Aside F H E own D ws) (hin : ∀ p ∈ io, p.2 ∈ own p.1) (S2 : StR K (entD F H io σ.length) F2 ŝ2 σ2 H2 own2) : Aside F2 H2 E own2 D ws := by
  have nD : D ∉ io.map (·.2) := fun m => by
    obtain ⟨p, hp, e⟩ := List.mem_map.mp m
    exact M.ho p.1 (by rw [← e]; exact hin p hp)
  refine ⟨?_, S2.post.keep D _ M.hH nD, M.h0, fun i m => ?_⟩
  · cases q : F2 D with
    | none => rfl
    | some o =>
      rcases S2.post.new D o q with z | z
      · have z : F D = some o := z
        rw [M.hF] at z; cases z
      · have z : H D = none := z
        rw [M.hH] at z; cases z
  · rcases (S2.sep i D m).2.2 with z | z
    · have z : H D = none := z
      rw [M.hH] at z; cases z
    · exact nD z
def exG (K : Fr) (ios : Nat → Bool) (vs : List Nat) (g : GC) : TG := fun v σ H Q => ∃ E', Ios E' ios ∧ rdg K E' vs g v σ H Q
def exT (K : Fr) (ios : Nat → Bool) (tt : IB) : TT := fun σ H Q => ∃ E', Ios E' ios ∧ rdT K E' WNo tt σ H Q
def exE (K : Fr) (ios : Nat → Bool) (te : IC) : TE := fun σ H Q => ∃ E', Ios E' ios ∧ rdF K E' WNo te σ H Q
/-- the loop of a comprehension -/
theorem lc_loop {ios : Nat → Bool} {vs wt : List Nat} (hs : ∀ v ∈ vs, v ∈ wt) {g : GC} {tt : IB} {te : IC} {J : It} {ds : List D} {σ : L2.St} {F1 H1 : Hp} {ŝ1 : AS} {own1 : Own} {Q : VK} (hE : Ios E ios) (hvs : wt.all (fun v => !ios v) = true) (S1 : StR K E F1 ŝ1 σ H1 own1) (it : ItR K F1 J ds)
    (q : OutP K E W σ ((compGo wt g tt te ds [] (wipeA ŝ1 wt)).bind fun acc ŝ2 => .ok acc (restoreA ŝ1 ŝ2 wt)) fun xs ŝ' => ∀ a us H' F' own', StR K E F' ŝ' σ H' own' → Same F1 F' → Mine K E F' H' own' a xs us → Q (.ref a) H') :
    ∀ D, H1 D = none → ∃ W : Nat → Nat → Hp → Prop, (∃ m, W 0 m (upd H1 D (.lst []))) ∧ ∀ i m H, W i m H →
      (J.stop i H ∧ Q (.ref D) H) ∨ (J.go i H ∧ ∃ Nx : Hp → Prop, (∀ H', Nx H' → ∃ m', m' < m ∧ W (i + 1) m' H') ∧ ∀ x H', J.yld i H x H' → exG K (outL wt) vs g x (L2.wipe σ vs) H' fun σ2 H2 => L2.wipe σ2 vs = L2.wipe σ vs ∧ exT K (outL wt) tt σ2 H2 fun b H3 =>
        if b = true then exE K (outL wt) te σ2 H3 fun y H4 => ∃ acc, H4 D = some (.lst acc) ∧ acc.length < sizeLine ∧ Nx (upd H4 D (.lst (acc ++ [y]))) else Nx H3) := by
  intro D hD
  obtain ⟨G, Y, w, hG, hY⟩ := it
  have hfr : ∀ v ∈ wt, Free E v := fun v m => hE.ne (by simpa using List.all_eq_true.mp hvs v m)
  have hno : ∀ p ∈ E.io, p.1 ∉ wt := fun p hp m => (hfr _ m).io p hp rfl
  have hE' : ∀ p ∈ E.io, outL wt p.1 = true := fun p hp => by simpa [outL] using hno p hp
  have M0 : Aside F1 (upd H1 D (.lst [])) E own1 D [] := by
    refine ⟨?_, upd_same, ?_, fun i m => ?_⟩
    · cases q : F1 D with
      | none => rfl
      | some o => have := S1.fh _ _ q; rw [hD] at this; cases this
    · cases z : E.H0 D with
      | none => rfl
      | some o =>
        by_cases m : D ∈ E.io.map (·.2)
        · obtain ⟨p, hp, rfl⟩ := List.mem_map.mp m
          obtain ⟨_, ⟨o2, h2⟩, _⟩ := S1.sep p.1 p.2 (by rw [S1.ios p hp]; simp)
          rw [hD] at h2; cases h2
        · have h2 := S1.post.keep D o z m
          rw [hD] at h2; cases h2
    · obtain ⟨_, ⟨o2, h2⟩, _⟩ := S1.sep i D m
      rw [hD] at h2; cases h2
  refine lc_it w (fun i H => ∃ ŝb F own acc ws, StR K E F ŝb (L2.wipe σ vs) H own ∧ Same F1 F ∧ Aside F H E own D ws ∧ Reps K F acc ws ∧ (∀ s j, ŝb[j]? = some (some s) → j ∉ wt) ∧
    OutP K E W σ ((compGo wt g tt te (ds.drop i) acc ŝb).bind fun acc ŝ2 => .ok acc (restoreA ŝ1 ŝ2 wt)) fun xs ŝ' => ∀ a us H' F' own', StR K E F' ŝ' σ H' own' → Same F1 F' → Mine K E F' H' own' a xs us → Q (.ref a) H')
    ⟨wipeA ŝ1 wt, F1, own1, [], [], (S1.wipe vs wt hs (wipe_P (fun v m => hfr v (hs v m)) S1.inv)).grow (Post.allocO S1.fh hD), Same.refl _, M0, Reps.nil, fun s j e => (wipeA_some e).2, q⟩ (fun i H hi ⟨ŝb, F, own, acc, ws, S, s, _⟩ => hG H (s.trans S.fh)) (fun i v H H' hi ⟨ŝb, F, own, acc, ws, S, s, M, r, hb, q⟩ y => ?_) fun H ⟨ŝb, F, own, acc, ws, S, s, M, r, hb, q⟩ => ?_
  · obtain ⟨F2, d, P, hd, rd⟩ := hY i H v H' F hi y s S.fh
    rw [List.drop_eq_getElem_cons hi] at q
    have ed : ds[i] = d := Option.some.inj ((List.getElem?_eq_getElem hi).symm.trans hd)
    rw [ed] at q
    have S2 := S.grow P
    have M2 := M.grow P
    have r2 := r.mono P.FF
    simp only [compGo] at q
    cases hgd : g d ŝb with
    | none => rw [hgd] at q; exact q.elim
    | some ŝg =>
      rw [hgd] at q
      simp only at q
      obtain ⟨io, own', Sb, hm, hin, back⟩ := S2.sub
      have hI : Ios (entD F2 H' io (L2.wipe σ vs).length) (outL wt) := by
        refine ⟨fun p hp => ?_, fun i σ F v _ h => by show (σ.set i v).length = _; rw [List.length_set]; exact h⟩
        show outL wt p.1 = true
        rcases hm p hp with h | h
        · exact hE' p h
        · cases z : get ŝb p.1 with
          | none => rw [z] at h; cases h
          | some t =>
            have := hb t p.1 (get_some z)
            simpa [outL] using this
      refine ⟨_, hI, ŝb, F2, own', d, ŝg, Sb, rd, hgd, fun σ2 own2 Sg kp => ⟨wipe_eq kp, _, hI, ŝg, F2, own2, Sg, ?_⟩⟩
      cases htt : tt ŝg with
      | stuck => rw [htt] at q; exact q.elim
      | exn x ŝx => rw [htt] at q; exact q.elim
      | ok b ŝt =>
        rw [htt] at q
        intro H3 F3 own3 S3 f3
        cases b with
        | false =>
          simp only [Bool.false_eq_true, if_false]
          have e2 : L2.wipe σ2 vs = L2.wipe σ vs := wipe_eq kp
          have S4 := S3.wipe vs wt hs (by show (L2.wipe _ vs).length = (L2.wipe σ vs).length; rw [L2.wipe_length]; exact S3.inv)
          rw [e2] at S4
          have S4 := back _ _ _ _ _ S4 (E.mono _ _ _ f3 S2.inv)
          exact ⟨_, F3, own3, acc, ws, S4, (s.trans P.FF).trans f3, M2.sub hin S3, r2.mono f3, fun s j e => (wipeA_some e).2, q⟩
        | true =>
          simp only [if_true]
          refine ⟨_, hI, ŝt, F3, own3, S3, ?_⟩
          cases hte : te ŝt with
          | stuck => simp only [hte] at q; exact q.elim
          | exn x ŝx => simp only [hte] at q; exact q.elim
          | ok x ŝx =>
            simp only [hte] at q
            intro u H4 F4 own4 S4 f4 ru
            have M4 := M2.sub hin S4
            split at q
            · rename_i hz
              refine ⟨ws, M4.hH, by rw [r2.len, sizeLine_eq]; exact hz, ?_⟩
              have e2 : L2.wipe σ2 vs = L2.wipe σ vs := wipe_eq kp
              have S5 := S4.wipe vs wt hs (by show (L2.wipe _ vs).length = (L2.wipe σ vs).length; rw [L2.wipe_length]; exact S4.inv)
              rw [e2] at S5
              have S5 := back _ _ _ _ _ S5 (E.mono _ _ _ (f3.trans f4) S2.inv)
              exact ⟨_, F4, own4, acc ++ [x], ws ++ [u], S5.laid M4, ((s.trans P.FF).trans f3).trans f4, ⟨M4.hF, upd_same, M4.h0, M4.ho⟩, ((r2.mono f3).mono f4).append (Reps.cons ru Reps.nil), fun s j e => (wipeA_some e).2, q⟩
            · exact q.elim
  · have e : ds.drop ds.length = [] := List.drop_length
    rw [e] at q
    simp only [compGo, Out.bind_ok] at q
    refine q D ws H F _ (StR.restore hs S1 S s hno) s ⟨M.hF, M.hH, M.h0, fun i m => ?_, r⟩
    by_cases hi : i ∈ wt
    · simp [hi] at m
    · simp only [if_neg hi] at m
      exact M.ho i m
theorem lc_rd {ios : Nat → Bool} {vs ws : List Nat} (hs : ∀ v ∈ vs, v ∈ ws) {c : IL} {g : GC} {tt : IB} {te : IC} (hE : Ios E ios) (hvs : ws.all (fun v => !ios v) = true) {σ : L2.St} {H : Hp} {Q : VK} (h : rdN K E W (iLc ws c g tt te) σ H Q) : tLc (rdi K E W c) (exG K (outL ws) vs g) (exT K (outL ws) tt) (exE K (outL ws) te) vs σ H Q := by
  obtain ⟨ŝ, F, own0, S, k⟩ := h
  refine ⟨ŝ, F, own0, S, k.bind.imp fun ds ŝ1 q J H1 F1 own1 S1 ff it => ?_⟩
  exact lc_loop hs (W := W) hE hvs S1 it (q.imp fun xs ŝ' q a us H' F' own' S' f' M => q a us H' F' own' S' (ff.trans f') M)
/-- what a comprehension's block is to keep -/
abbrev LcG (X : Cx) (vs ws : List Nat) (k : Nat) (scope : Scope) (tg : Expr) (g : GC) : Prop := ∀ (s : Shared) (H : Hp) (C : Addr) (cl : List (Str × Addr)) (fp : List Addr) (E' : Ent), Ctx (X.blk s H scope (compEnvC scope cl C X.env) fp) WNo k → Ios E' (outL ws) → Jg (X.blk s H scope (compEnvC scope cl C X.env) fp) E' vs tg g
abbrev LcT (X : Cx) (ws : List Nat) (k : Nat) (scope : Scope) (ifs : List Expr) (tt : IB) : Prop := ∀ (s : Shared) (H : Hp) (C : Addr) (cl : List (Str × Addr)) (fp : List Addr) (E' : Ent), Ctx (X.blk s H scope (compEnvC scope cl C X.env) fp) WNo k → Ios E' (outL ws) → JTs (X.blk s H scope (compEnvC scope cl C X.env) fp) E' WNo ifs tt
abbrev LcE (X : Cx) (ws : List Nat) (k : Nat) (scope : Scope) (elt : Expr) (te : IC) : Prop := ∀ (s : Shared) (H : Hp) (C : Addr) (cl : List (Str × Addr)) (fp : List Addr) (E' : Ent), Ctx (X.blk s H scope (compEnvC scope cl C X.env) fp) WNo k → Ios E' (outL ws) → JF (X.blk s H scope (compEnvC scope cl C X.env) fp) E' WNo elt te
theorem LcG.pg {vs ws : List Nat} {scope : Scope} {tg : Expr} {g : GC} (C : Ctx X W k) (hg : LcG X vs ws k scope tg g) : ∀ (s : Shared) (H : Hp) (C : Addr) (cl : List (Str × Addr)) (fp : List Addr), PG (X.blk s H scope (compEnvC scope cl C X.env) fp) tg (exG X.K (outL ws) vs g) :=
  fun s H C' cl fp => ⟨fun pins s' σ H v u Q I r ⟨E', h, q⟩ => (hg s _ C' cl fp E' C.blk h).run pins s' σ H v u Q I r q⟩
theorem LcT.pts {ws : List Nat} {scope : Scope} {ifs : List Expr} {tt : IB} (C : Ctx X W k) (ht : LcT X ws k scope ifs tt) : ∀ (s : Shared) (H : Hp) (C : Addr) (cl : List (Str × Addr)) (fp : List Addr), PTs (X.blk s H scope (compEnvC scope cl C X.env) fp) ifs (exT X.K (outL ws) tt) :=
  fun s H C' cl fp => ⟨fun pins s' σ H Q I ⟨E', h, q⟩ => (ht s _ C' cl fp E' C.blk h).run pins s' σ H Q I q⟩
theorem LcE.pe {ws : List Nat} {scope : Scope} {elt : Expr} {te : IC} (C : Ctx X W k) (he : LcE X ws k scope elt te) : ∀ (s : Shared) (H : Hp) (C : Addr) (cl : List (Str × Addr)) (fp : List Addr), PE (X.blk s H scope (compEnvC scope cl C X.env) fp) elt (exE X.K (outL ws) te) :=
  fun s H C' cl fp => ⟨fun pins s' σ H Q I ⟨E', h, q⟩ => (he s _ C' cl fp E' C.blk h).run pins s' σ H Q I q⟩
variable {ios : Nat → Bool} {elt tg iter : Expr} {ifs : List Expr} {scope : Scope} {c : IL} {g : GC} {tt : IB} {te : IC}
theorem jN_lc (own : List (Str × Nat)) (ws : List Nat) (C : Ctx X W k) (hE : Ios E ios) (hi : Ji X E W tg iter c) (ok : BlkOk X.N X.env.scope scope own) (hg : LcG X (own.map (·.2)) ws k scope tg g) (ht : LcT X ws k scope ifs tt) (he : LcE X ws k scope elt te)
    (hvs : ws.all (fun v => !ios v) = true := by rfl) (hsub : ∀ v ∈ own.map (·.2), v ∈ ws := by decide) (hs : ∀ x, foldedSetIterable iter X.env x = pure x := by intro _; rfl) : JN X E W (.ListComp elt [⟨tg, iter, ifs, 0⟩] scope pos) (iLc ws c g tt te) :=
  PE_imp (pe_lc C.calm C.nd hi ok (hg.pg C) (ht.pts C) (he.pe C) hs) fun σ H Q h => lc_rd hsub hE hvs h
/-- name = [..] on one line -/
theorem js_lc {spos : Pos} (i : Nat) (own : List (Str × Nat)) (ws : List Nat) (C : Ctx X W k) (hE : Ios E ios) (hi : Ji X E W tg iter c) (ok : BlkOk X.N X.env.scope scope own) (hg : LcG X (own.map (·.2)) ws k scope tg g) (ht : LcT X ws k scope ifs tt) (he : LcE X ws k scope elt te)
    (hsw : swapsWith (.ListComp elt [⟨tg, iter, ifs, 0⟩] scope pos) (some (.Name y py)) spos.line X.env = pure true) (hio : ios i = false := by rfl) (hy : X.N[i]? = some y := by rfl) (hyl : X.env.scope.names.lookup y = some .local := by rfl)
    (hvs : ws.all (fun v => !ios v) = true := by rfl) (hsub : ∀ v ∈ own.map (·.2), v ∈ ws := by decide) (hs : ∀ x, foldedSetIterable iter X.env x = pure x := by intro _; rfl) : JS X E W (.Assign [.Name y py] (.ListComp elt [⟨tg, iter, ifs, 0⟩] scope pos) spos) (sSet i (iFz (iLc ws c g tt te))) :=
  PS_imp (ps_setLc C.calm C.nd hy hyl hsw hi ok (hg.pg C) (ht.pts C) (he.pe C) hs) fun D σ H ⟨ŝ, F, own0, S, k⟩ => lc_rd hsub hE hvs ⟨ŝ, F, own0, S, k.st.bind.imp fun xs ŝ' q a us H' F' own' S' ff M => by
    obtain ⟨S2, f2⟩ := S'.freeze M.hF M.hH M.h0 M.ho
    refine q _ H' _ _ (S2.put (v := .ref a) ?_ (hE.ne hio)) (ff.trans f2)
    simp only [Rep]
    exact ⟨a, us, rfl, upd_same, M.r.mono f2⟩⟩
theorem js_lcO {spos : Pos} (i : Nat) (own : List (Str × Nat)) (ws : List Nat) (C : Ctx X W k) (hE : Ios E ios) (hi : Ji X E W tg iter c) (ok : BlkOk X.N X.env.scope scope own) (hg : LcG X (own.map (·.2)) ws k scope tg g) (ht : LcT X ws k scope ifs tt) (he : LcE X ws k scope elt te)
    (hsw : swapsWith (.ListComp elt [⟨tg, iter, ifs, 0⟩] scope pos) (some (.Name y py)) spos.line X.env = pure true) (hio : ios i = false := by rfl) (hy : X.N[i]? = some y := by rfl) (hyl : X.env.scope.names.lookup y = some .local := by rfl)
    (hvs : ws.all (fun v => !ios v) = true := by rfl) (hsub : ∀ v ∈ own.map (·.2), v ∈ ws := by decide) (hs : ∀ x, foldedSetIterable iter X.env x = pure x := by intro _; rfl) : JS X E W (.Assign [.Name y py] (.ListComp elt [⟨tg, iter, ifs, 0⟩] scope pos) spos) (sSetO i (iLc ws c g tt te)) :=
  PS_imp (ps_setLc C.calm C.nd hy hyl hsw hi ok (hg.pg C) (ht.pts C) (he.pe C) hs) fun D σ H ⟨ŝ, F, own0, S, k⟩ => lc_rd hsub hE hvs ⟨ŝ, F, own0, S, k.st.imp fun xs ŝ' q a us H' F' own' S' ff M =>
    q _ H' _ _ (S'.putO M.hF M.hH M.h0 M.ho M.r (hE.ne hio)) ff⟩
end
end FL

set_option maxHeartbeats 4000000
/-! FL7: expressions whose parts may change slots; built-ins; methods of texts. -/
namespace FL
open PySem PySem.Spec PyProof.Rows L2
section
variable {X : Cx} {E : Ent} {W : WX} {e a b c : Expr} {es rest : List Expr} {pos p p2 apos cpos py : Pos} {K : Fr} {j k n : Nat} {x y name : Str} {id : String}
/-! ### a list of one's own is frozen ahead -/
def frzA (ŝ : AS) (i : Nat) : AS := match get ŝ i with
  | some (.ow xs) => ŝ.set i (some (.fz (.lst xs)))
  | _ => ŝ
theorem frz_st {ios : Nat → Bool} {i : Nat} {F H : Hp} {ŝ : AS} {σ : L2.St} {own : Own} (hE : Ios E ios) (hio : ios i = false) (S : StR K E F ŝ σ H own) : ∃ F' own', StR K E F' (frzA ŝ i) σ H own' ∧ Same F F' := by
  unfold frzA
  split
  · rename_i xs e
    obtain ⟨a, vs, hσ, ho, hh, rr, hF⟩ := S.ow e
    have S1 := S.drop (hE.ne hio)
    have na : ∀ jj, a ∉ (fun jj => if jj = i then [] else own jj) jj := fun jj m => by
      by_cases hj : jj = i
      · simp [hj] at m
      · simp only [if_neg hj] at m
        exact hj (S.dis jj i a m (by rw [ho]; simp))
    have h0 : E.H0 a = none := by
      rcases (S.sep i a (by rw [ho]; simp)).2.2 with z | z
      · exact z
      · obtain ⟨p, hp, rfl⟩ := List.mem_map.mp z
        have := S.dis i p.1 p.2 (by rw [ho]; simp) (by rw [S.ios p hp]; simp)
        exact absurd this.symm ((hE.ne hio).io p hp)
    obtain ⟨S2, f2⟩ := S1.freeze hF hh h0 na
    have rl : Rep K (L2.upd F a (.lst vs)) (.lst xs) (.ref a) := by
      simp only [Rep]
      exact ⟨a, vs, rfl, upd_same, rr.mono f2⟩
    have S3 := S2.put rl (hE.ne hio)
    have es : σ.set i (some (.ref a)) = σ := by
      refine List.ext_getElem? fun m => ?_
      by_cases hm : m = i
      · subst hm
        have hl := (List.getElem?_eq_some_iff.mp hσ).1
        rw [List.getElem?_set_self hl, hσ]
      · rw [List.getElem?_set_ne (Ne.symm hm)]
    rw [es, List.set_set] at S3
    exact ⟨_, _, S3, f2⟩
  · exact ⟨F, own, S, Same.refl _⟩
def sPre (i : Nat) (c : SC) : SC := fun ŝ => c (frzA ŝ i)
theorem js_pre {ios : Nat → Bool} {st : Stmt} {c1 : SC} (i : Nat) (hE : Ios E ios) (h : JS X E W st c1) (hio : ios i = false := by rfl) : JS X E W st (sPre i c1) := PS_imp h fun D σ H ⟨ŝ, F, own, S, k⟩ => by
  obtain ⟨F', own', S', ff⟩ := frz_st hE hio S
  exact ⟨_, F', own', S', k.mono ff⟩
/-! ### operands -/
def iBin (f : D → D → Option D) (c1 c2 : IC) : IC := fun ŝ => (c1 ŝ).bind fun a ŝ => (c2 ŝ).bind fun b ŝ => (Res.opt (f a b)).out ŝ
theorem twoI {r : R2} {f : D → D → Option D} {c1 c2 : IC} (hr : ROp K r f) {σ : L2.St} {H : Hp} {Q : VK} (h : rdF K E W (iBin f c1 c2) σ H Q) : tOp r (rdF K E W c1) (rdF K E W c2) σ H Q := by
  obtain ⟨ŝ, F, own, S, k⟩ := h
  refine ⟨ŝ, F, own, S, k.bind.imp fun a ŝ1 ka v H1 F1 own1 S1 f1 r1 => ⟨ŝ1, F1, own1, S1, ka.bind.imp fun b ŝ2 kb u H2 F2 own2 S2 f2 r2 => ?_⟩⟩
  obtain ⟨d, hf, q⟩ := (OutP.res kb).opt
  exact hr hf S2.fh ((r1.mono f2).mono S2.fh) (r2.mono S2.fh) fun z F3 H3 P3 rz => q z H3 F3 own2 (S2.grow P3) ((f1.trans f2).trans P3.FF) rz
theorem jF_op {op : Operator} {r : R2} {f : D → D → Option D} {c1 c2 : IC} (ho : OpR X (binaryOp op) r) (hr : ROp X.K r f) (h1 : JF X E W a c1) (h2 : JF X E W b c2) : JF X E W (.BinOp a op b pos) (iBin f c1 c2) :=
  PE_imp (pe_op ho h1 h2) fun σ H Q h => twoI hr h
theorem jF_cmp {op : CmpOp} {r : R2} {f : D → D → Option D} {c1 c2 : IC} (ho : OpR X (compareOp op) r) (hr : ROp X.K r f) (h1 : JF X E W a c1) (h2 : JF X E W b c2) (hm : behindInMarks op b = false) : JF X E W (.Compare a [op] [b] pos) (iBin f c1 c2) :=
  PE_imp (pe_cmpR ho h1 h2 hm) fun σ H Q h => twoI hr h
/-- two operations: where f answers it is r's, else r''s -/
def oOr (f g : D → D → Option D) : D → D → Option D := fun a b => (f a b).orElse fun _ => g a b
def iBl (c : IC) : IB := fun ŝ => (c ŝ).bind fun d ŝ => match d with
  | .bl b => .ok b ŝ
  | _ => .stuck
theorem rep_bl {F : Hp} {z : Bool} {v : V} (h : Rep K F (.bl z) v) : v = .bl z := by simpa only [Rep] using h
theorem jT_cmp {op : CmpOp} {r : R2} {f : D → D → Option D} {c1 c2 : IC} (ho : OpR X (compareOp op) r) (hr : ROp X.K r f) (h1 : JF X E W a c1) (h2 : JF X E W b c2) (hm : behindInMarks op b = false) : JT X E W (.Compare a [op] [b] pos) (iBl (iBin f c1 c2)) :=
  PT_imp (pt_cmpR ho h1 h2 hm) fun σ H Q ⟨ŝ, F, own, S, k⟩ => twoI hr (Q := fun x H' => ∃ k, x = .bl k ∧ Q k H') ⟨ŝ, F, own, S, k.bind.imp fun d ŝ' q v H' F' own' S' ff r => by
    cases d <;> first | (exact q.elim) | skip
    exact ⟨_, rep_bl r, q H' F' own' S' ff⟩⟩
/-- a value as a test -/
theorem jT_val {c1 : IC} (h : JF X E W a c1) (he : ∀ {Q : Bool → Shared → Prop} {s : Shared}, wpAny (model X.prog X.w) X.A (eval a X.env) (fun v s' => ∃ d, v = .bool d ∧ Q d s') X.xe s → wpAny (model X.prog X.w) X.A (isTrue a X.env (eval a X.env)) Q X.xe s) : JT X E W a (iBl c1) :=
  ⟨fun pins s σ H Q I ⟨ŝ, F, own, S, k⟩ => he (thn (h.run pins s σ H (fun v H' => ∃ d, v = .bl d ∧ Q d H') I ⟨ŝ, F, own, S, k.bind.imp fun d ŝ' q v H' F' own' S' ff r => by
    cases d <;> first | (exact q.elim) | skip
    exact ⟨_, rep_bl r, q H' F' own' S' ff⟩⟩) fun v s1 ⟨x, H1, I1, r1, d, e, q⟩ => by
      subst e
      exact ⟨d, r1, H1, I1, q⟩)⟩
def iTru (c : IC) : IB := fun ŝ => (c ŝ).bind fun d ŝ => (Res.opt (truD d)).out ŝ
theorem jT_tru {c1 : IC} (h : JF X E W a c1) (he : ∀ whole, isTrue a X.env whole = (do let v ← whole; standAt a.pos; holding [v] (truthy v)) := by intro _; rfl) : JT X E W a (iTru c1) :=
  PT_imp (pt_truth h he) fun σ H Q ⟨ŝ, F, own, S, k⟩ => ⟨ŝ, F, own, S, k.bind.imp fun d ŝ' q v H' F' own' S' ff r => by
    obtain ⟨t, e, q⟩ := (OutP.res q).opt
    exact ⟨t, truD_ok e (r.mono S'.fh), q H' F' own' S' ff⟩⟩
def ibNot (c : IB) : IB := fun ŝ => (c ŝ).bind fun b ŝ => .ok (!b) ŝ
theorem jT_not {c1 : IB} (h : JT X E W a c1) : JT X E W (.UnaryOp .Not a pos) (ibNot c1) := PT_imp (pt_not h) fun σ H Q ⟨ŝ, F, own, S, k⟩ => ⟨ŝ, F, own, S, k.bind.imp fun b ŝ' q H' F' own' S' ff => q H' F' own' S' ff⟩
def ibAnd (c1 c2 : IB) : IB := fun ŝ => (c1 ŝ).bind fun b ŝ => match b with
  | true => c2 ŝ
  | false => .ok false ŝ
def ibOr (c1 c2 : IB) : IB := fun ŝ => (c1 ŝ).bind fun b ŝ => match b with
  | true => .ok true ŝ
  | false => c2 ŝ
abbrev JW (X : Cx) (E : Ent) (W : WX) (e : Expr) (c : IB) : Prop := PW X e (rdT X.K E W c)
theorem jW_and1 {c1 : IB} (h : JT X E W a c1) : JW X E W (.BoolOp .And [a] pos) c1 := pw_and1 h
theorem jW_or1 {c1 : IB} (h : JT X E W a c1) : JW X E W (.BoolOp .Or [a] pos) c1 := pw_or1 h
theorem jW_and {c1 c2 : IB} (h1 : JT X E W a c1) (h2 : JW X E W (.BoolOp .And (b :: rest) pos) c2) : JW X E W (.BoolOp .And (a :: b :: rest) pos) (ibAnd c1 c2) := PW_imp (pw_and h1 h2) fun σ H Q ⟨ŝ, F, own, S, k⟩ => ⟨ŝ, F, own, S, k.bind.imp fun b ŝ' q H' F' own' S' ff => by
  cases b with
  | true => rw [if_pos rfl]; exact ⟨ŝ', F', own', S', OutP.imp q fun d ŝ2 q H2 F2 own2 S2 f2 => q H2 F2 own2 S2 (ff.trans f2)⟩
  | false => rw [if_neg Bool.false_ne_true]; exact q H' F' own' S' ff⟩
theorem jW_or {c1 c2 : IB} (h1 : JT X E W a c1) (h2 : JW X E W (.BoolOp .Or (b :: rest) pos) c2) : JW X E W (.BoolOp .Or (a :: b :: rest) pos) (ibOr c1 c2) := PW_imp (pw_or h1 h2) fun σ H Q ⟨ŝ, F, own, S, k⟩ => ⟨ŝ, F, own, S, k.bind.imp fun b ŝ' q H' F' own' S' ff => by
  cases b with
  | false => rw [if_neg Bool.false_ne_true]; exact ⟨ŝ', F', own', S', OutP.imp q fun d ŝ2 q H2 F2 own2 S2 f2 => q H2 F2 own2 S2 (ff.trans f2)⟩
  | true => rw [if_pos rfl]; exact q H' F' own' S' ff⟩
def iNot (c : IC) : IC := fun ŝ => (c ŝ).bind fun d ŝ => match d with
  | .bl b => .ok (.bl (!b)) ŝ
  | _ => .stuck
theorem bl_rep {F : Hp} (z : Bool) : Rep K F (.bl z) (.bl z) := by simp only [Rep]
theorem jF_not {c1 : IC} (h : JF X E W a c1) : JF X E W (.UnaryOp .Not a pos) (iNot c1) := PE_imp (pe_not h) fun σ H Q ⟨ŝ, F, own, S, k⟩ => ⟨ŝ, F, own, S, k.bind.imp fun d ŝ' q v H' F' own' S' ff r => by
  cases d <;> first | (exact q.elim) | skip
  exact ⟨_, rep_bl r, q _ H' F' own' S' ff (bl_rep _)⟩⟩
def iAnd (c1 c2 : IC) : IC := fun ŝ => (c1 ŝ).bind fun d ŝ => match d with
  | .bl true => c2 ŝ
  | .bl false => .ok (.bl false) ŝ
  | _ => .stuck
def iOr (c1 c2 : IC) : IC := fun ŝ => (c1 ŝ).bind fun d ŝ => match d with
  | .bl true => .ok (.bl true) ŝ
  | .bl false => c2 ŝ
  | _ => .stuck
theorem jF_one {op} {c1 : IC} (h : JF X E W a c1) : JF X E W (.BoolOp op [a] pos) c1 := pe_one h
theorem jF_and {c1 c2 : IC} (h1 : JF X E W a c1) (h2 : JF X E W (.BoolOp .And (b :: rest) pos) c2) : JF X E W (.BoolOp .And (a :: b :: rest) pos) (iAnd c1 c2) := PE_imp (pe_and h1 h2) fun σ H Q ⟨ŝ, F, own, S, k⟩ => ⟨ŝ, F, own, S, k.bind.imp fun d ŝ' q v H' F' own' S' ff r => by
  cases d <;> first | (exact q.elim) | skip
  rename_i b
  cases b with
  | true => exact ⟨true, rep_bl r, by rw [if_pos rfl]; exact ⟨ŝ', F', own', S', OutP.imp q fun d ŝ2 q v H2 F2 own2 S2 f2 r2 => q v H2 F2 own2 S2 (ff.trans f2) r2⟩⟩
  | false => exact ⟨false, rep_bl r, by rw [if_neg Bool.false_ne_true]; exact q _ H' F' own' S' ff (rep_bl r ▸ r)⟩⟩
theorem jF_or {c1 c2 : IC} (h1 : JF X E W a c1) (h2 : JF X E W (.BoolOp .Or (b :: rest) pos) c2) : JF X E W (.BoolOp .Or (a :: b :: rest) pos) (iOr c1 c2) := PE_imp (pe_or h1 h2) fun σ H Q ⟨ŝ, F, own, S, k⟩ => ⟨ŝ, F, own, S, k.bind.imp fun d ŝ' q v H' F' own' S' ff r => by
  cases d <;> first | (exact q.elim) | skip
  rename_i b
  cases b with
  | false => exact ⟨false, rep_bl r, by rw [if_neg Bool.false_ne_true]; exact ⟨ŝ', F', own', S', OutP.imp q fun d ŝ2 q v H2 F2 own2 S2 f2 r2 => q v H2 F2 own2 S2 (ff.trans f2) r2⟩⟩
  | true => exact ⟨true, rep_bl r, by rw [if_pos rfl]; exact q _ H' F' own' S' ff (rep_bl r ▸ r)⟩⟩
def iIf (t : IB) (c1 c2 : IC) : IC := fun ŝ => (t ŝ).bind fun b ŝ => match b with
  | true => c1 ŝ
  | false => c2 ŝ
theorem jF_if {t : IB} {c1 c2 : IC} (h : JT X E W c t) (h1 : JF X E W a c1) (h2 : JF X E W b c2) : JF X E W (.IfExp c a b pos) (iIf t c1 c2) := PE_imp (pe_ifExp h h1 h2) fun σ H Q ⟨ŝ, F, own, S, k⟩ => ⟨ŝ, F, own, S, k.bind.imp fun b ŝ' q H' F' own' S' ff => by
  cases b with
  | true => rw [if_pos rfl]; exact ⟨ŝ', F', own', S', OutP.imp q fun d ŝ2 q v H2 F2 own2 S2 f2 r => q v H2 F2 own2 S2 (ff.trans f2) r⟩
  | false => rw [if_neg Bool.false_ne_true]; exact ⟨ŝ', F', own', S', OutP.imp q fun d ŝ2 q v H2 F2 own2 S2 f2 r => q v H2 F2 own2 S2 (ff.trans f2) r⟩⟩
def iUn (f : D → Option D) (c : IC) : IC := fun ŝ => (c ŝ).bind fun d ŝ => (Res.opt (f d)).out ŝ
theorem jF_isN {c1 : IC} {j pos'} (h1 : JF X E W a c1) : JF X E W (.Compare a [.Is] [.Constant .none j pos'] pos) (iUn (fun d => some (.bl (oIsN d))) c1) :=
  PE_imp (pe_cmp (pc_isN h1)) fun σ H Q ⟨ŝ, F, own, S, k⟩ => ⟨ŝ, F, own, S, k.bind.imp fun d ŝ' q v H' F' own' S' ff r => by
    show Q (.bl (decide (v = .non))) H'
    rw [isN_rep r]
    exact q _ H' F' own' S' ff (bl_rep _)⟩
theorem jF_notN {c1 : IC} {j pos'} (h1 : JF X E W a c1) : JF X E W (.Compare a [.IsNot] [.Constant .none j pos'] pos) (iUn (fun d => some (.bl (!oIsN d))) c1) :=
  PE_imp (pe_cmp (pc_notN h1)) fun σ H Q ⟨ŝ, F, own, S, k⟩ => ⟨ŝ, F, own, S, k.bind.imp fun d ŝ' q v H' F' own' S' ff r => by
    show Q (.bl (!decide (v = .non))) H'
    rw [isN_rep r]
    exact q _ H' F' own' S' ff (bl_rep _)⟩
theorem jT_isN {c1 : IC} {j pos'} (h1 : JF X E W a c1) : JT X E W (.Compare a [.Is] [.Constant .none j pos'] pos) (iBl (iUn (fun d => some (.bl (oIsN d))) c1)) :=
  PT_imp (pt_cmp (pc_isN h1)) fun σ H Q ⟨ŝ, F, own, S, k⟩ => ⟨ŝ, F, own, S, k.bind.bind.imp fun d ŝ' q v H' F' own' S' ff r => ⟨decide (v = .non), rfl, by
    rw [isN_rep r]
    exact q H' F' own' S' ff⟩⟩
theorem jT_notN {c1 : IC} {j pos'} (h1 : JF X E W a c1) : JT X E W (.Compare a [.IsNot] [.Constant .none j pos'] pos) (iBl (iUn (fun d => some (.bl (!oIsN d))) c1)) :=
  PT_imp (pt_cmp (pc_notN h1)) fun σ H Q ⟨ŝ, F, own, S, k⟩ => ⟨ŝ, F, own, S, k.bind.bind.imp fun d ŝ' q v H' F' own' S' ff r => ⟨!decide (v = .non), rfl, by
    rw [isN_rep r]
    exact q H' F' own' S' ff⟩⟩
/-- what is a bool, as a test -/
theorem jT_pv {c1 : IC} (h : JF X E W a c1) (he : ∀ whole, isTrue a X.env whole = (do let v ← whole; standAt a.pos; holding [v] (truthy v)) := by intro _; rfl) : JT X E W a (iBl c1) :=
  PT_imp (pt_val h he) fun σ H Q ⟨ŝ, F, own, S, k⟩ => ⟨ŝ, F, own, S, k.bind.imp fun d ŝ' q v H' F' own' S' ff r => by
    cases d <;> first | (exact q.elim) | skip
    exact ⟨_, rep_bl r, q H' F' own' S' ff⟩⟩
def iChain (f g : D → D → Option D) (c1 c2 c3 : IC) : IC := fun ŝ => (c1 ŝ).bind fun a ŝ => (c2 ŝ).bind fun b ŝ => match f a b with
  | some (.bl true) => (c3 ŝ).bind fun c ŝ => (Res.opt (g b c)).out ŝ
  | some (.bl false) => .ok (.bl false) ŝ
  | _ => .stuck
theorem chainI {r r' : R2} {f g : D → D → Option D} {c1 c2 c3 : IC} (hr : ROp K r f) (hr' : ROp K r' g) {σ : L2.St} {H : Hp} {Q : VK} (h : rdF K E W (iChain f g c1 c2 c3) σ H Q) : tChain r r' (rdF K E W c1) (rdF K E W c2) (rdF K E W c3) σ H Q := by
  obtain ⟨ŝ, F, own, S, k⟩ := h
  refine ⟨ŝ, F, own, S, k.bind.imp fun a ŝ1 ka v H1 F1 own1 S1 f1 r1 => ⟨ŝ1, F1, own1, S1, ka.bind.imp fun b ŝ2 kb u H2 F2 own2 S2 f2 r2 => ?_⟩⟩
  split at kb
  · rename_i hf
    refine hr hf S2.fh ((r1.mono f2).mono S2.fh) (r2.mono S2.fh) fun z F3 H3 P3 rz => ?_
    refine ⟨true, rep_bl rz, ?_⟩
    rw [if_pos rfl]
    refine ⟨ŝ2, F3, own2, S2.grow P3, kb.bind.imp fun c ŝ4 kc t H4 F4 own4 S4 f4 r4 => ?_⟩
    obtain ⟨d, hg, q⟩ := (OutP.res kc).opt
    exact hr' hg S4.fh (((r2.mono P3.FF).mono f4).mono S4.fh) (r4.mono S4.fh) fun z F5 H5 P5 rz => q z H5 F5 own4 (S4.grow P5) ((((f1.trans f2).trans P3.FF).trans f4).trans P5.FF) rz
  · rename_i hf
    refine hr hf S2.fh ((r1.mono f2).mono S2.fh) (r2.mono S2.fh) fun z F3 H3 P3 rz => ?_
    refine ⟨false, rep_bl rz, ?_⟩
    rw [if_neg Bool.false_ne_true]
    exact kb (.bl false) H3 F3 own2 (S2.grow P3) ((f1.trans f2).trans P3.FF) (bl_rep _)
  · exact kb.elim
theorem jF_chain {op op' : CmpOp} {r r' : R2} {f g : D → D → Option D} {c1 c2 c3 : IC} (ho : OpR X (compareOp op) r) (ho' : OpR X (compareOp op') r') (hr : ROp X.K r f) (hr' : ROp X.K r' g) (h1 : JF X E W a c1) (h2 : JF X E W b c2) (h3 : JF X E W c c3)
    (hm : lastMarks [op, op'] [b, c] = false := by with_unfolding_all rfl) : JF X E W (.Compare a [op, op'] [b, c] pos) (iChain f g c1 c2 c3) :=
  PE_imp (pe_chain ho ho' h1 h2 h3 hm) fun σ H Q h => chainI hr hr' h
theorem jT_chain {op op' : CmpOp} {r r' : R2} {f g : D → D → Option D} {c1 c2 c3 : IC} (ho : OpR X (compareOp op) r) (ho' : OpR X (compareOp op') r') (hr : ROp X.K r f) (hr' : ROp X.K r' g) (h1 : JF X E W a c1) (h2 : JF X E W b c2) (h3 : JF X E W c c3)
    (hm : lastMarks [op, op'] [b, c] = false := by with_unfolding_all rfl) : JT X E W (.Compare a [op, op'] [b, c] pos) (iBl (iChain f g c1 c2 c3)) :=
  PT_imp (pt_chain ho ho' h1 h2 h3 hm) fun σ H Q ⟨ŝ, F, own, S, k⟩ => chainI hr hr' (Q := fun x H' => ∃ k, x = .bl k ∧ Q k H') ⟨ŝ, F, own, S, k.bind.imp fun d ŝ' q v H' F' own' S' ff r => by
    cases d <;> first | (exact q.elim) | skip
    exact ⟨_, rep_bl r, q H' F' own' S' ff⟩⟩
/-! ### arguments, displays -/
def iNil : IL := fun ŝ => .ok [] ŝ
def iCons (c : IC) (cs : IL) : IL := fun ŝ => (c ŝ).bind fun d ŝ => (cs ŝ).bind fun ds ŝ => .ok (d :: ds) ŝ
theorem jA_nil : JA X E W [] iNil := PA_imp pa_nil fun σ H Q ⟨ŝ, F, own, S, k⟩ => k [] H F own S (Same.refl _) Reps.nil
theorem jA_cons {c1 : IC} {cs : IL} (h1 : JF X E W e c1) (h2 : JA X E W es cs) (hs : starEach (e :: es) X.env = (false, eval e X.env) :: starEach es X.env := by rfl) : JA X E W (e :: es) (iCons c1 cs) :=
  PA_imp (pa_cons h1 h2 hs) fun σ H Q ⟨ŝ, F, own, S, k⟩ => ⟨ŝ, F, own, S, k.bind.imp fun d ŝ1 q v H1 F1 own1 S1 f1 r1 => ⟨ŝ1, F1, own1, S1, q.bind.imp fun ds ŝ2 q vs H2 F2 own2 S2 f2 r2 => q _ H2 F2 own2 S2 (f1.trans f2) (Reps.cons (r1.mono f2) r2)⟩⟩
def iTupD (c : IL) : IC := fun ŝ => (c ŝ).bind fun ds ŝ => if ds.length ≤ 16777216 then .ok (.tup ds) ŝ else .stuck
theorem jF_tup {c : IL} {x1} (h : JA X E W es c) : JF X E W (.Tuple es x1 pos) (iTupD c) := PE_imp (pe_tup h) fun σ H Q ⟨ŝ, F, own, S, k⟩ => ⟨ŝ, F, own, S, k.bind.imp fun ds ŝ' q vs H' F' own' S' ff r => by
  split at q
  · rename_i hz
    exact ⟨by rw [r.len, sizeLine_eq]; exact hz, tup_q (fun z F2 H2 P2 r2 => q z H2 F2 own' (S'.grow P2) (ff.trans P2.FF) r2) S'.fh r⟩
  · exact q.elim⟩
theorem mine_of {F H F2 H2 : Hp} {ŝ : AS} {σ : L2.St} {own : Own} {a : Addr} {xs : List D} {vs : List V} (S : StR K E F ŝ σ H own) (P : Post F H [] F2 H2) (ha : H a = none) (hf : F2 a = none) (hh : H2 a = some (.lst vs)) (r : Reps K F2 xs vs) : Mine K E F2 H2 own a xs vs := by
  refine ⟨hf, hh, ?_, fun i m => ?_, r⟩
  · cases z : E.H0 a with
    | none => rfl
    | some o =>
      by_cases m : a ∈ E.io.map (·.2)
      · obtain ⟨p, hp, rfl⟩ := List.mem_map.mp m
        obtain ⟨_, ⟨o2, h2⟩, _⟩ := S.sep p.1 p.2 (by rw [S.ios p hp]; simp)
        rw [ha] at h2; cases h2
      · have h2 := S.post.keep a o z m
        rw [ha] at h2; cases h2
  · obtain ⟨_, ⟨o2, h2⟩, _⟩ := S.sep i a m
    rw [ha] at h2; cases h2
/-- a new list behind a step -/
theorem new_N {F0 F H : Hp} {ŝ : AS} {σ : L2.St} {own : Own} {zs : List D} {Q : VK} (S : StR K E F ŝ σ H own) (ff : Same F0 F) (q : ∀ a vs H' F' own', StR K E F' ŝ σ H' own' → Same F0 F' → Mine K E F' H' own' a zs vs → Q (.ref a) H') : ∀ p ws, H p = none → Reps K F zs ws → Q (.ref p) (L2.upd H p (.lst ws)) := fun p ws hp r => by
  have P := Post.allocO (o := HO.lst ws) S.fh hp
  have hf : F p = none := by
    cases z : F p with
    | none => rfl
    | some o => have := S.fh _ _ z; rw [hp] at this; cases this
  exact q p ws _ F own (S.grow P) ff (mine_of S P hp hf upd_same r)
def iLs (c : IL) : IL := fun ŝ => (c ŝ).bind fun ds ŝ => if ds.length ≤ 16777216 then .ok ds ŝ else .stuck
theorem jN_lst {c : IL} (h : JA X E W es c) : JN X E W (.List es pos) (iLs c) := PE_imp (pe_lst h) fun σ H Q ⟨ŝ, F, own, S, k⟩ => ⟨ŝ, F, own, S, k.bind.imp fun ds ŝ' q vs H' F' own' S' ff r => by
  split at q
  · rename_i hz
    exact ⟨by rw [r.len, sizeLine_eq]; exact hz, fun p hp => new_N S' ff q p vs hp r⟩
  · exact q.elim⟩
/-- lists, frozen, give a new one -/
def lstD : D → Option (List D)
  | .lst xs => some xs
  | _ => none
def iBinN (f : D → D → Option (List D)) (c1 c2 : IC) : IL := fun ŝ => (c1 ŝ).bind fun a ŝ => (c2 ŝ).bind fun b ŝ => (Res.opt (f a b)).out ŝ
def oCatD : D → D → Option (List D)
  | .lst xs, .lst ys => oCat xs ys
  | _, _ => none
def oRepD : D → D → Option (List D)
  | .lst xs, d => oRep xs d
  | _, _ => none
theorem jN_cat {c1 c2 : IC} (h1 : JF X E W a c1) (h2 : JF X E W b c2) : JN X E W (.BinOp a .Add b pos) (iBinN oCatD c1 c2) :=
  PE_imp (pe_op op_cat h1 h2) fun σ H Q ⟨ŝ, F, own, S, k⟩ => by
    refine ⟨ŝ, F, own, S, k.bind.imp fun a ŝ1 ka v H1 F1 own1 S1 f1 r1 => ⟨ŝ1, F1, own1, S1, ka.bind.imp fun b ŝ2 kb u H2 F2 own2 S2 f2 r2 => ?_⟩⟩
    obtain ⟨zs, hf, q⟩ := (OutP.res kb).opt
    cases a <;> cases b <;> simp only [oCatD, reduceCtorEq] at hf
    unfold oCat at hf
    split at hf
    · rename_i hz
      cases hf
      simp only [Rep] at r1 r2
      obtain ⟨p1, us1, rfl, e1, e2⟩ := r1
      obtain ⟨p2, us2, rfl, e3, e4⟩ := r2
      exact ⟨p1, p2, us1, us2, rfl, rfl, S2.fh _ _ (f2 _ _ e1), S2.fh _ _ e3, by rw [e2.len, e4.len, sizeLine_eq]; exact hz, fun p hp => new_N S2 (f1.trans f2) q p _ hp ((e2.mono f2).append e4)⟩
    · cases hf
theorem jN_rep {c1 c2 : IC} (h1 : JF X E W a c1) (h2 : JF X E W b c2) : JN X E W (.BinOp a .Mult b pos) (iBinN oRepD c1 c2) :=
  PE_imp (pe_op op_rep h1 h2) fun σ H Q ⟨ŝ, F, own, S, k⟩ => by
    refine ⟨ŝ, F, own, S, k.bind.imp fun a ŝ1 ka v H1 F1 own1 S1 f1 r1 => ⟨ŝ1, F1, own1, S1, ka.bind.imp fun b ŝ2 kb u H2 F2 own2 S2 f2 r2 => ?_⟩⟩
    obtain ⟨zs, hf, q⟩ := (OutP.res kb).opt
    cases a <;> cases b <;> simp only [oRepD, oRep, reduceCtorEq] at hf
    rename_i i
    split at hf
    · rename_i hz
      cases hf
      simp only [Rep] at r1 r2
      obtain ⟨p1, us1, rfl, e1, e2⟩ := r1
      subst r2
      exact ⟨p1, i, us1, rfl, rfl, S2.fh _ _ (f2 _ _ e1), hz.1, hz.2.1, by rw [e2.len, sizeLine_eq]; exact hz.2.2, fun p hp => new_N S2 (f1.trans f2) q p _ hp ((e2.mono f2).rep _)⟩
    · cases hf
/-! ### subscripts -/
theorem jF_ix {c1 c2 : IC} (h1 : JF X E W a c1) (h2 : JF X E W b c2) (hs : PlainIx b := by intro _ _; rfl) : JF X E W (.Subscript a b pos) (iBin oIx c1 c2) := PE_imp (pe_ix ix_seq h1 h2 hs) fun σ H Q ⟨ŝ, F, own, S, k⟩ => by
  refine ⟨ŝ, F, own, S, k.bind.imp fun a ŝ1 ka v H1 F1 own1 S1 f1 r1 => ⟨ŝ1, F1, own1, S1, ka.bind.imp fun b ŝ2 kb u H2 F2 own2 S2 f2 r2 => ?_⟩⟩
  obtain ⟨d, hf, q⟩ := (OutP.res kb).opt
  exact rIx_by hf S2.fh (r1.mono f2) (r2.mono S2.fh) fun z rz => q z H2 F2 own2 S2 (f1.trans f2) rz
/-- a list of one's own, the place told behind -/
def iIxO (i : Nat) (c : IC) : IC := fun ŝ => match get ŝ i with
  | some (.ow _) => (c ŝ).bind fun d ŝ => (match get ŝ i with
    | some (.ow xs) => (Res.opt (oIx (.lst xs) d)).out ŝ
    | _ => .stuck)
  | _ => .stuck
theorem jF_ixO {c1 : IC} (i : Nat) (h : JF X E W b c1) (hN : X.N[i]? = some y := by rfl) (hv : Vis X.env.scope y := by first | exact Or.inl rfl | exact Or.inr (Or.inl rfl) | exact Or.inr (Or.inr rfl)) (hd : (y == ("__debug__" : Str)) = false := by decide)
    (hcd : (y == ("__classdict__" : Str)) = false := by decide) (hs : PlainIx b := by intro _ _; rfl) : JF X E W (.Subscript (.Name y py) b pos) (iIxO i c1) := PE_imp (pe_ix ix_seq (pe_var hN hv hd hcd) h hs) fun σ H Q ⟨ŝ, F, own, S, k⟩ => by
  unfold iIxO at k
  split at k
  · rename_i xs0 e0
    obtain ⟨a, vs0, hσ, _, _, _, _⟩ := S.ow e0
    refine ⟨.ref a, hσ, ŝ, F, own, S, k.bind.imp fun d ŝ1 q u H1 F1 own1 S1 f1 r1 => ?_⟩
    split at q
    · rename_i xs e1
      obtain ⟨a1, us, hσ1, ho, hh, rr, hF⟩ := S1.ow e1
      rw [hσ] at hσ1
      cases hσ1
      obtain ⟨z, hf, q2⟩ := (OutP.res q).opt
      clear q
      cases d <;> simp only [oIx, reduceCtorEq] at hf
      rename_i ii
      simp only [Rep] at r1
      subst r1
      obtain ⟨w, e2, r3⟩ := atI_rep rr hf
      exact .inl ⟨a, us, ii, w, rfl, rfl, SqL.of hh, e2, q2 w H1 F1 own1 S1 f1 r3⟩
    · exact q.elim
  · exact k.elim
end
end FL

set_option maxHeartbeats 4000000
/-! FL8: built-in functions, methods of texts, written dicts, slices. -/
namespace FL
open PySem PySem.Spec PyProof.Rows L2
section
variable {X : Cx} {E : Ent} {W : WX} {e a b c : Expr} {es rest : List Expr} {pos p p2 apos cpos py : Pos} {K : Fr} {j k n : Nat} {x y name : Str} {id T : String}
/-! ### calls -/
def ROpA (K : Fr) (r : List V → Hp → VK → Prop) (f : List D → Option D) : Prop := ∀ {ds : List D} {d : D} {F H : Hp} {vs : List V} {Q : VK}, f ds = some d → Same F H → Reps K F ds vs → (∀ z F' H', Post F H [] F' H' → Rep K F' d z → Q z H') → r vs H Q
def iFn (f : List D → Option D) (cs : IL) : IC := fun ŝ => (cs ŝ).bind fun ds ŝ => (Res.opt (f ds)).out ŝ
theorem fnI {r : List V → Hp → VK → Prop} {f : List D → Option D} {cs : IL} (hr : ROpA K r f) {σ : L2.St} {H : Hp} {Q : VK} (h : rdF K E W (iFn f cs) σ H Q) : tCB r (rdA K E W cs) σ H Q := by
  obtain ⟨ŝ, F, own, S, k⟩ := h
  refine ⟨ŝ, F, own, S, k.bind.imp fun ds ŝ' q vs H' F' own' S' ff rr => ?_⟩
  obtain ⟨d, hf, q2⟩ := (OutP.res q).opt
  exact hr hf S'.fh rr fun z F3 H3 P3 rz => q2 z H3 F3 own' (S'.grow P3) (ff.trans P3.FF) rz
theorem jF_callB {r : List V → Hp → VK → Prop} {f : List D → Option D} {cs : IL} (hc : CallR X (.builtin id) r) (hr : ROpA X.K r f) (hm : X.mg x = none) (ha : JA X E W (e :: es) cs) (hv : bootBuiltins x = some (.builtin id)) (hg : Gl X x := by rfl) (hn : x ≠ "__name__" := by decide) (hdb : (x == ("__debug__" : Str)) = false := by decide)
    (he : starEach (e :: es) X.env = (false, eval e X.env) :: starEach es X.env := by rfl) (hpl : (backTo pos (starEach es X.env)).any (·.1) = false := by rfl) : JF X E W (.Call (.Name x p) (e :: es) [] pos) (iFn f cs) :=
  PE_imp (pe_callB hc hg hm hv ha hn hdb he hpl) fun σ H Q h => fnI hr h
theorem jF_callTy {r : List V → Hp → VK → Prop} {f : List D → Option D} {cs : IL} (hc : CallR X (.type T) r) (hr : ROpA X.K r f) (hm : X.mg x = none) (ha : JA X E W (e :: es) cs) (hv : bootBuiltins x = some (.type T)) (hg : Gl X x := by rfl) (hn : x ≠ "__name__" := by decide) (hdb : (x == ("__debug__" : Str)) = false := by decide)
    (he : starEach (e :: es) X.env = (false, eval e X.env) :: starEach es X.env := by rfl) (hpl : (backTo pos (starEach es X.env)).any (·.1) = false := by rfl) : JF X E W (.Call (.Name x p) (e :: es) [] pos) (iFn f cs) :=
  PE_imp (pe_callTy hc hg hm hv ha hn hdb he hpl) fun σ H Q h => fnI hr h
/-- a new list -/
def ROpAN (K : Fr) (r : List V → Hp → VK → Prop) (f : List D → Option (List D)) : Prop := ∀ {ds zs : List D} {F H : Hp} {vs : List V} {Q : VK}, f ds = some zs → Same F H → Reps K F ds vs → (∀ p ws, H p = none → Reps K F zs ws → Q (.ref p) (L2.upd H p (.lst ws))) → r vs H Q
def iFnN (f : List D → Option (List D)) (cs : IL) : IL := fun ŝ => (cs ŝ).bind fun ds ŝ => (Res.opt (f ds)).out ŝ
theorem fnN {r : List V → Hp → VK → Prop} {f : List D → Option (List D)} {cs : IL} (hr : ROpAN K r f) {σ : L2.St} {H : Hp} {Q : VK} (h : rdN K E W (iFnN f cs) σ H Q) : tCB r (rdA K E W cs) σ H Q := by
  obtain ⟨ŝ, F, own, S, k⟩ := h
  refine ⟨ŝ, F, own, S, k.bind.imp fun ds ŝ' q vs H' F' own' S' ff rr => ?_⟩
  obtain ⟨zs, hf, q2⟩ := (OutP.res q).opt
  exact hr hf S'.fh rr (new_N S' ff q2)
theorem jN_callTy {r : List V → Hp → VK → Prop} {f : List D → Option (List D)} {cs : IL} (hc : CallR X (.type T) r) (hr : ROpAN X.K r f) (hm : X.mg x = none) (ha : JA X E W (e :: es) cs) (hv : bootBuiltins x = some (.type T)) (hg : Gl X x := by rfl) (hn : x ≠ "__name__" := by decide) (hdb : (x == ("__debug__" : Str)) = false := by decide)
    (he : starEach (e :: es) X.env = (false, eval e X.env) :: starEach es X.env := by rfl) (hpl : (backTo pos (starEach es X.env)).any (·.1) = false := by rfl) : JN X E W (.Call (.Name x p) (e :: es) [] pos) (iFnN f cs) :=
  PE_imp (pe_callTy hc hg hm hv ha hn hdb he hpl) fun σ H Q h => fnN hr h
theorem jN_callB {r : List V → Hp → VK → Prop} {f : List D → Option (List D)} {cs : IL} (hc : CallR X (.builtin id) r) (hr : ROpAN X.K r f) (hm : X.mg x = none) (ha : JA X E W (e :: es) cs) (hv : bootBuiltins x = some (.builtin id)) (hg : Gl X x := by rfl) (hn : x ≠ "__name__" := by decide) (hdb : (x == ("__debug__" : Str)) = false := by decide)
    (he : starEach (e :: es) X.env = (false, eval e X.env) :: starEach es X.env := by rfl) (hpl : (backTo pos (starEach es X.env)).any (·.1) = false := by rfl) : JN X E W (.Call (.Name x p) (e :: es) [] pos) (iFnN f cs) :=
  PE_imp (pe_callB hc hg hm hv ha hn hdb he hpl) fun σ H Q h => fnN hr h
theorem reps1 {F : Hp} {d : D} {vs : List V} (h : Reps K F [d] vs) : ∃ v, vs = [v] ∧ Rep K F d v := by
  simp only [Reps] at h
  obtain ⟨v, u, rfl, r, rfl⟩ := h
  exact ⟨v, rfl, r⟩
theorem reps2 {F : Hp} {d d2 : D} {vs : List V} (h : Reps K F [d, d2] vs) : ∃ v v2, vs = [v, v2] ∧ Rep K F d v ∧ Rep K F d2 v2 := by
  simp only [Reps] at h
  obtain ⟨v, u, rfl, r, v2, u2, rfl, r2, rfl⟩ := h
  exact ⟨v, v2, rfl, r, r2⟩
theorem int_q {F H : Hp} {i : Int} {Q : VK} (q : ∀ z F' H', Post F H [] F' H' → Rep K F' (.int i) z → Q z H') (s : Same F H) : Q (.int i) H := flat_q q s (by simp only [Rep])
theorem str_q {F H : Hp} {z : Str} {Q : VK} (q : ∀ v F' H', Post F H [] F' H' → Rep K F' (.str z) v → Q v H') (s : Same F H) : Q (.str z) H := flat_q q s (by simp only [Rep])
theorem bl_q {F H : Hp} {z : Bool} {Q : VK} (q : ∀ v F' H', Post F H [] F' H' → Rep K F' (.bl z) v → Q v H') (s : Same F H) : Q (.bl z) H := flat_q q s (by simp only [Rep])
/-! len -/
def oLen : List D → Option D
  | [.str z] => if z.length ≤ 16777216 then some (.int z.length) else none
  | [.lst xs] => some (.int xs.length)
  | [.scr xs] => some (.int xs.length)
  | [.tup xs] => some (.int xs.length)
  | _ => none
abbrev rLen (K : Fr) : List V → Hp → VK → Prop := fun xs H Q => ∃ x n, xs = [x] ∧ LenV K x H n ∧ Q (.int n) H
theorem r_len : ROpA K (rLen K) oLen := by
  intro ds d F H vs Q e s r q
  unfold oLen at e
  split at e
  · rename_i z
    split at e
    · rename_i hz
      cases e
      obtain ⟨v, rfl, rr⟩ := reps1 r; replace r := rr
      simp only [Rep] at r; subst r
      exact ⟨_, _, rfl, ⟨by rw [sizeLine_eq]; exact hz, rfl⟩, int_q q s⟩
    · cases e
  · cases e
    obtain ⟨v, rfl, rr⟩ := reps1 r; replace r := rr
    simp only [Rep] at r
    obtain ⟨p, us, rfl, h1, h2⟩ := r
    exact ⟨_, _, rfl, .inl ⟨us, SqL.of (s _ _ h1), rfl⟩, by rw [h2.len]; exact int_q q s⟩
  · cases e
    obtain ⟨v, rfl, rr⟩ := reps1 r; replace r := rr
    simp only [Rep] at r
    obtain ⟨p, us, rfl, h1, h2⟩ := r
    exact ⟨_, _, rfl, .inl ⟨us, s.seq h1, rfl⟩, by rw [h2.len]; exact int_q q s⟩
  · cases e
    obtain ⟨v, rfl, rr⟩ := reps1 r; replace r := rr
    simp only [Rep] at r
    obtain ⟨p, us, rfl, h1, h2⟩ := r
    exact ⟨_, _, rfl, .inr ⟨us, sqT_same s h1, rfl⟩, by rw [h2.len]; exact int_q q s⟩
  · cases e
/-- of a list of one's own -/
def pLenO (c : PL) : PC := fun ŝ => (c ŝ).bind fun xs => .ok (.int xs.length)
theorem jf_lenO {c1 : PL} (hm : X.mg "len" = none) (h : Jo X E W e c1) (hg : Gl X "len" := by rfl) (hs : starEach (e :: []) X.env = (false, eval e X.env) :: starEach [] X.env := by rfl) (hpl : (backTo pos (starEach [] X.env)).any (·.1) = false := by rfl) : Jf X E W (.Call (.Name "len" p) [e] [] pos) (pLenO c1) :=
  PE_imp (pe_callB call_len hg hm PyProof.Rows.Boot.«len» (pa_cons h pa_nil hs) (by decide) (by decide) hs hpl) fun σ H Q ⟨ŝ, F, own, S, k⟩ => ⟨ŝ, F, own, S, k.bind.imp fun xs q a us F' H' P h1 r =>
    ⟨_, _, rfl, .inl ⟨us, SqL.of h1, rfl⟩, by rw [r.len]; exact q _ F' H' P (by simp only [Rep])⟩⟩
/-! int, str, bool, abs, min, max -/
def oInt : List D → Option D
  | [.int i] => some (.int i)
  | [.bl z] => some (.int (if z then 1 else 0))
  | [.str z] => if z.length ≤ 640 then (PySem.intText? z).map .int else none
  | _ => none
abbrev rIntX : List V → Hp → VK → Prop := fun xs H Q => ((∃ i, xs = [.int i] ∧ Q (.int i) H) ∨ ∃ k, xs = [.bl k] ∧ Q (.int (if k then 1 else 0)) H) ∨ ∃ a n, xs = [.str a] ∧ PySem.intText? a = some n ∧ a.length ≤ 640 ∧ Q (.int n) H
theorem call_intX : CallR X (.type "int") rIntX := call_int1.or call_int_str
theorem r_int : ROpA K rIntX oInt := by
  intro ds d F H vs Q e s r q
  unfold oInt at e
  split at e
  · cases e
    obtain ⟨v, rfl, rr⟩ := reps1 r; replace r := rr
    simp only [Rep] at r; subst r
    exact .inl (.inl ⟨_, rfl, int_q q s⟩)
  · cases e
    obtain ⟨v, rfl, rr⟩ := reps1 r; replace r := rr
    simp only [Rep] at r; subst r
    exact .inl (.inr ⟨_, rfl, int_q q s⟩)
  · split at e
    · rename_i hz
      obtain ⟨i, e1, rfl⟩ := Option.map_eq_some_iff.mp e
      obtain ⟨v, rfl, rr⟩ := reps1 r; replace r := rr
      simp only [Rep] at r; subst r
      exact .inr ⟨_, i, rfl, e1, hz, int_q q s⟩
    · cases e
  · cases e
def oStr : List D → Option D
  | [.int i] => if i.natAbs.log2 < 1920 then some (.str (toString i)) else none
  | [.str z] => some (.str z)
  | _ => none
abbrev rStrX : List V → Hp → VK → Prop := fun xs H Q => (∃ i : Int, xs = [.int i] ∧ i.natAbs.log2 < 1920 ∧ Q (.str (toString i)) H) ∨ ∃ a, xs = [.str a] ∧ Q (.str a) H
theorem call_strX : CallR X (.type "str") rStrX := call_str_int.or SkE.call_str_str
theorem r_str : ROpA K rStrX oStr := by
  intro ds d F H vs Q e s r q
  unfold oStr at e
  split at e
  · split at e
    · rename_i hz
      cases e
      obtain ⟨v, rfl, rr⟩ := reps1 r; replace r := rr
      simp only [Rep] at r; subst r
      exact .inl ⟨_, rfl, hz, str_q q s⟩
    · cases e
  · cases e
    obtain ⟨v, rfl, rr⟩ := reps1 r; replace r := rr
    simp only [Rep] at r; subst r
    exact .inr ⟨_, rfl, str_q q s⟩
  · cases e
def oBool : List D → Option D
  | [.int i] => some (.bl (i != 0))
  | [.bl z] => some (.bl z)
  | _ => none
abbrev rBoolX : List V → Hp → VK → Prop := fun xs H Q => (∃ i, xs = [.int i] ∧ Q (.bl (i != 0)) H) ∨ ∃ k, xs = [.bl k] ∧ Q (.bl k) H
theorem r_bool : ROpA K rBoolX oBool := by
  intro ds d F H vs Q e s r q
  unfold oBool at e
  split at e
  · cases e
    obtain ⟨v, rfl, rr⟩ := reps1 r; replace r := rr
    simp only [Rep] at r; subst r
    exact .inl ⟨_, rfl, bl_q q s⟩
  · cases e
    obtain ⟨v, rfl, rr⟩ := reps1 r; replace r := rr
    simp only [Rep] at r; subst r
    exact .inr ⟨_, rfl, bl_q q s⟩
  · cases e
def oAbs : List D → Option D
  | [.int i] => some (.int (if i < 0 then -i else i))
  | _ => none
abbrev rAbsX : List V → Hp → VK → Prop := fun xs H Q => ∃ i, xs = [.int i] ∧ Q (.int (if i < 0 then -i else i)) H
theorem r_abs : ROpA K rAbsX oAbs := by
  intro ds d F H vs Q e s r q
  unfold oAbs at e
  split at e
  · cases e
    obtain ⟨v, rfl, rr⟩ := reps1 r; replace r := rr
    simp only [Rep] at r; subst r
    exact ⟨_, rfl, int_q q s⟩
  · cases e
def intOf : D → Option Int
  | .int i => some i
  | _ => none
def intsOf : List D → Option (List Int)
  | [] => some []
  | d :: ds => match intOf d, intsOf ds with
    | some i, some is => some (i :: is)
    | _, _ => none
theorem intsOf_rep {F : Hp} : ∀ {ds : List D} {is : List Int} {vs : List V}, intsOf ds = some is → Reps K F ds vs → vs = is.map V.int
  | [], is, vs, e, r => by simp only [intsOf, Option.some.injEq] at e; simp only [Reps] at r; subst e; subst r; rfl
  | d :: ds, is, vs, e, r => by
    simp only [intsOf] at e
    simp only [Reps] at r
    obtain ⟨v, us, rfl, r1, r2⟩ := r
    split at e
    · rename_i i is' e1 e2
      cases e
      cases d <;> simp only [intOf, reduceCtorEq] at e1
      cases e1
      simp only [Rep] at r1
      subst r1
      rw [intsOf_rep e2 r2]
      rfl
    · cases e
def blOf : D → Option Bool
  | .bl i => some i
  | _ => none
def blsOf : List D → Option (List Bool)
  | [] => some []
  | d :: ds => match blOf d, blsOf ds with
    | some i, some is => some (i :: is)
    | _, _ => none
theorem blsOf_rep {F : Hp} : ∀ {ds : List D} {is : List Bool} {vs : List V}, blsOf ds = some is → Reps K F ds vs → vs = is.map V.bl
  | [], is, vs, e, r => by simp only [blsOf, Option.some.injEq] at e; simp only [Reps] at r; subst e; subst r; rfl
  | d :: ds, is, vs, e, r => by
    simp only [blsOf] at e
    simp only [Reps] at r
    obtain ⟨v, us, rfl, r1, r2⟩ := r
    split at e
    · rename_i i is' e1 e2
      cases e
      cases d <;> simp only [blOf, reduceCtorEq] at e1
      cases e1
      simp only [Rep] at r1
      subst r1
      rw [blsOf_rep e2 r2]
      rfl
    · cases e
def strOf : D → Option Str
  | .str i => some i
  | _ => none
def strsOf : List D → Option (List Str)
  | [] => some []
  | d :: ds => match strOf d, strsOf ds with
    | some i, some is => some (i :: is)
    | _, _ => none
theorem strsOf_rep {F : Hp} : ∀ {ds : List D} {is : List Str} {vs : List V}, strsOf ds = some is → Reps K F ds vs → vs = is.map V.str
  | [], is, vs, e, r => by simp only [strsOf, Option.some.injEq] at e; simp only [Reps] at r; subst e; subst r; rfl
  | d :: ds, is, vs, e, r => by
    simp only [strsOf] at e
    simp only [Reps] at r
    obtain ⟨v, us, rfl, r1, r2⟩ := r
    split at e
    · rename_i i is' e1 e2
      cases e
      cases d <;> simp only [strOf, reduceCtorEq] at e1
      cases e1
      simp only [Rep] at r1
      subst r1
      rw [strsOf_rep e2 r2]
      rfl
    · cases e
theorem strs_rep {F : Hp} : ∀ zs : List Str, Reps K F (zs.map D.str) (zs.map V.str)
  | [] => Reps.nil
  | z :: zs => Reps.cons (by simp only [Rep]) (strs_rep zs)
/-- the items of a list that stands as an argument -/
theorem lst1 {F H : Hp} {xs : List D} {vs : List V} (s : Same F H) (r : Reps K F [.lst xs] vs) : ∃ a us, vs = [.ref a] ∧ SqL K H a us ∧ Reps K F xs us ∧ H a = some (.lst us) := by
  obtain ⟨v, rfl, rr⟩ := reps1 r; replace r := rr
  simp only [Rep] at r
  obtain ⟨p, us, rfl, h1, h2⟩ := r
  exact ⟨p, us, rfl, SqL.of (s _ _ h1), h2, s _ _ h1⟩
def maxL : List Int → Int
  | [] => 0
  | i :: is => is.foldl (fun a b => if a < b then b else a) i
def minL : List Int → Int
  | [] => 0
  | i :: is => is.foldl (fun a b => if b < a then b else a) i
theorem foldmax : ∀ (is : List Int) (i : Int), (is.foldl (fun a b => if a < b then b else a) i = i ∨ is.foldl (fun a b => if a < b then b else a) i ∈ is) ∧ i ≤ is.foldl (fun a b => if a < b then b else a) i ∧ ∀ y ∈ is, y ≤ is.foldl (fun a b => if a < b then b else a) i
  | [], i => ⟨.inl rfl, Int.le_refl _, fun _ h => nomatch h⟩
  | a :: is, i => by
    obtain ⟨h1, h2, h3⟩ := foldmax is (if i < a then a else i)
    simp only [List.foldl_cons]
    refine ⟨?_, ?_, fun y hy => ?_⟩
    · rcases h1 with h1 | h1
      · by_cases hc : i < a
        · rw [if_pos hc] at h1 ⊢
          exact .inr (by rw [h1]; exact List.mem_cons_self)
        · rw [if_neg hc] at h1 ⊢
          exact .inl h1
      · exact .inr (List.mem_cons_of_mem _ h1)
    · refine Int.le_trans ?_ h2
      split <;> omega
    · rcases List.mem_cons.mp hy with rfl | hy
      · refine Int.le_trans ?_ h2
        split <;> omega
      · exact h3 y hy
theorem foldmin : ∀ (is : List Int) (i : Int), (is.foldl (fun a b => if b < a then b else a) i = i ∨ is.foldl (fun a b => if b < a then b else a) i ∈ is) ∧ is.foldl (fun a b => if b < a then b else a) i ≤ i ∧ ∀ y ∈ is, is.foldl (fun a b => if b < a then b else a) i ≤ y
  | [], i => ⟨.inl rfl, Int.le_refl _, fun _ h => nomatch h⟩
  | a :: is, i => by
    obtain ⟨h1, h2, h3⟩ := foldmin is (if a < i then a else i)
    simp only [List.foldl_cons]
    refine ⟨?_, ?_, fun y hy => ?_⟩
    · rcases h1 with h1 | h1
      · by_cases hc : a < i
        · rw [if_pos hc] at h1 ⊢
          exact .inr (by rw [h1]; exact List.mem_cons_self)
        · rw [if_neg hc] at h1 ⊢
          exact .inl h1
      · exact .inr (List.mem_cons_of_mem _ h1)
    · refine Int.le_trans h2 ?_
      split <;> omega
    · rcases List.mem_cons.mp hy with rfl | hy
      · refine Int.le_trans h2 ?_
        split <;> omega
      · exact h3 y hy
theorem maxL_mem {is : List Int} (h : is ≠ []) : maxL is ∈ is ∧ ∀ y ∈ is, y ≤ maxL is := by
  cases is with
  | nil => exact absurd rfl h
  | cons i is =>
    obtain ⟨h1, h2, h3⟩ := foldmax is i
    refine ⟨?_, fun y hy => ?_⟩
    · rcases h1 with h1 | h1
      · show List.foldl _ i is ∈ _
        rw [h1]; exact List.mem_cons_self
      · exact List.mem_cons_of_mem _ h1
    · rcases List.mem_cons.mp hy with rfl | hy
      · exact h2
      · exact h3 y hy
theorem minL_mem {is : List Int} (h : is ≠ []) : minL is ∈ is ∧ ∀ y ∈ is, minL is ≤ y := by
  cases is with
  | nil => exact absurd rfl h
  | cons i is =>
    obtain ⟨h1, h2, h3⟩ := foldmin is i
    refine ⟨?_, fun y hy => ?_⟩
    · rcases h1 with h1 | h1
      · show List.foldl _ i is ∈ _
        rw [h1]; exact List.mem_cons_self
      · exact List.mem_cons_of_mem _ h1
    · rcases List.mem_cons.mp hy with rfl | hy
      · exact h2
      · exact h3 y hy
def oMax : List D → Option D
  | [.int i, .int j] => some (.int (if j > i then j else i))
  | [.lst xs] => (intsOf xs).bind fun is => if is.isEmpty then none else some (.int (maxL is))
  | _ => none
def oMin : List D → Option D
  | [.int i, .int j] => some (.int (if j < i then j else i))
  | [.lst xs] => (intsOf xs).bind fun is => if is.isEmpty then none else some (.int (minL is))
  | _ => none
abbrev rMaxX (K : Fr) : List V → Hp → VK → Prop := fun xs H Q => (∃ i j, xs = [.int i, .int j] ∧ Q (.int (if j > i then j else i)) H) ∨ L2.rMax K xs H Q
abbrev rMinX (K : Fr) : List V → Hp → VK → Prop := fun xs H Q => (∃ i j, xs = [.int i, .int j] ∧ Q (.int (if j < i then j else i)) H) ∨ L2.rMin K xs H Q
theorem call_maxX (hc : X.calm = true) : CallR X (.builtin "max") (rMaxX X.K) := (call_max2 hc).or (cr_max hc)
theorem call_minX (hc : X.calm = true) : CallR X (.builtin "min") (rMinX X.K) := (call_min2 hc).or (cr_min hc)
theorem r_max : ROpA K (rMaxX K) oMax := by
  intro ds d F H vs Q e s r q
  unfold oMax at e
  split at e
  · cases e
    obtain ⟨v, v2, rfl, rr, r2⟩ := reps2 r; replace r := rr
    simp only [Rep] at r r2; subst r; subst r2
    exact .inl ⟨_, _, rfl, int_q q s⟩
  · obtain ⟨is, e1, e2⟩ := Option.bind_eq_some_iff.mp e
    split at e2
    · cases e2
    · rename_i hne
      cases e2
      obtain ⟨a, us, rfl, h1, h2, _⟩ := lst1 s r
      have eu := intsOf_rep e1 h2
      subst eu
      have ne : is ≠ [] := fun z => hne (by rw [z]; rfl)
      refine .inr ⟨a, is, rfl, h1, List.length_pos_iff.mpr ne, fun m hm hle => ?_⟩
      obtain ⟨k1, k2⟩ := maxL_mem ne
      have em : m = maxL is := Int.le_antisymm (k2 m hm) (hle _ k1)
      rw [em]
      exact int_q q s
  · cases e
theorem r_min : ROpA K (rMinX K) oMin := by
  intro ds d F H vs Q e s r q
  unfold oMin at e
  split at e
  · cases e
    obtain ⟨v, v2, rfl, rr, r2⟩ := reps2 r; replace r := rr
    simp only [Rep] at r r2; subst r; subst r2
    exact .inl ⟨_, _, rfl, int_q q s⟩
  · obtain ⟨is, e1, e2⟩ := Option.bind_eq_some_iff.mp e
    split at e2
    · cases e2
    · rename_i hne
      cases e2
      obtain ⟨a, us, rfl, h1, h2, _⟩ := lst1 s r
      have eu := intsOf_rep e1 h2
      subst eu
      have ne : is ≠ [] := fun z => hne (by rw [z]; rfl)
      refine .inr ⟨a, is, rfl, h1, List.length_pos_iff.mpr ne, fun m hm hle => ?_⟩
      obtain ⟨k1, k2⟩ := minL_mem ne
      have em : m = minL is := Int.le_antisymm (hle _ k1) (k2 m hm)
      rw [em]
      exact int_q q s
  · cases e
def oSum : List D → Option D
  | [.lst xs] => (intsOf xs).map fun is => .int is.sum
  | _ => none
theorem r_sum : ROpA K (L2.rSum K) oSum := by
  intro ds d F H vs Q e s r q
  unfold oSum at e
  split at e
  · obtain ⟨is, e1, rfl⟩ := Option.map_eq_some_iff.mp e
    obtain ⟨a, us, rfl, h1, h2, _⟩ := lst1 s r
    have eu := intsOf_rep e1 h2
    subst eu
    exact ⟨a, is, rfl, h1, int_q q s⟩
  · cases e
def oAll : List D → Option D
  | [.lst xs] => (blsOf xs).map fun is => .bl (is.all fun z => z)
  | _ => none
def oAny : List D → Option D
  | [.lst xs] => (blsOf xs).map fun is => .bl (is.any fun z => z)
  | _ => none
theorem r_all : ROpA K (L2.rAll K) oAll := by
  intro ds d F H vs Q e s r q
  unfold oAll at e
  split at e
  · obtain ⟨is, e1, rfl⟩ := Option.map_eq_some_iff.mp e
    obtain ⟨a, us, rfl, h1, h2, _⟩ := lst1 s r
    have eu := blsOf_rep e1 h2
    subst eu
    exact ⟨a, is, rfl, h1, bl_q q s⟩
  · cases e
theorem r_any : ROpA K (L2.rAny K) oAny := by
  intro ds d F H vs Q e s r q
  unfold oAny at e
  split at e
  · obtain ⟨is, e1, rfl⟩ := Option.map_eq_some_iff.mp e
    obtain ⟨a, us, rfl, h1, h2, _⟩ := lst1 s r
    have eu := blsOf_rep e1 h2
    subst eu
    exact ⟨a, is, rfl, h1, bl_q q s⟩
  · cases e
/-! list(x), tuple(x) -/
def oList : List D → Option (List D)
  | [.lst xs] => some xs
  | [.scr xs] => some xs
  | [.tup xs] => some xs
  | _ => none
abbrev rListX (K : Fr) : List V → Hp → VK → Prop := fun xs H Q => ∃ p ys, xs = [.ref p] ∧ (SqL K H p ys ∨ SqT K H p ys) ∧ ∀ l, H l = none → Q (.ref l) (L2.upd H l (.lst ys))
theorem r_list : ROpAN K (rListX K) oList := by
  intro ds zs F H vs Q e s r q
  unfold oList at e
  split at e
  · cases e
    obtain ⟨v, rfl, rr⟩ := reps1 r; replace r := rr
    simp only [Rep] at r
    obtain ⟨p, us, rfl, h1, h2⟩ := r
    exact ⟨p, us, rfl, .inl (SqL.of (s _ _ h1)), fun l hl => q l us hl h2⟩
  · cases e
    obtain ⟨v, rfl, rr⟩ := reps1 r; replace r := rr
    simp only [Rep] at r
    obtain ⟨p, us, rfl, h1, h2⟩ := r
    exact ⟨p, us, rfl, .inl (s.seq h1), fun l hl => q l us hl h2⟩
  · cases e
    obtain ⟨v, rfl, rr⟩ := reps1 r; replace r := rr
    simp only [Rep] at r
    obtain ⟨p, us, rfl, h1, h2⟩ := r
    exact ⟨p, us, rfl, .inr (sqT_same s h1), fun l hl => q l us hl h2⟩
  · cases e
end
end FL

set_option maxHeartbeats 4000000
/-! FL9: tuple(), texts, written dicts, slices, isinstance. -/
namespace FL
open PySem PySem.Spec PyProof.Rows L2
section
variable {X : Cx} {E : Ent} {W : WX} {e a b c : Expr} {es rest : List Expr} {pos p p2 apos cpos py : Pos} {K : Fr} {j k n : Nat} {x y name : Str} {id T : String}
/-! tuple(x) -/
def oTuple : List D → Option D
  | [.lst xs] => some (.tup xs)
  | [.tup xs] => some (.tup xs)
  | _ => none
abbrev rTupleX (K : Fr) : List V → Hp → VK → Prop := fun xs H Q => ∃ p ys, xs = [.ref p] ∧ ((SqL K H p ys ∧ ∀ l, H l = none → Q (.ref l) (L2.upd H l (.tup ys))) ∨ (SqT K H p ys ∧ Q (.ref p) H))
theorem r_tuple : ROpA K (rTupleX K) oTuple := by
  intro ds d F H vs Q e s r q
  unfold oTuple at e
  split at e
  · cases e
    obtain ⟨a, us, rfl, h1, h2, _⟩ := lst1 s r
    exact ⟨a, us, rfl, .inl ⟨h1, tup_q q s h2⟩⟩
  · cases e
    obtain ⟨v, rfl, rr⟩ := reps1 r
    have r2 := rr
    simp only [Rep] at rr
    obtain ⟨p, us, rfl, h1, h2⟩ := rr
    exact ⟨p, us, rfl, .inr ⟨sqT_same s h1, flat_q q s r2⟩⟩
  · cases e
/-! ### texts -/
/-- a text times an int -/
def oMulS : D → D → Option D
  | .str z, .int i => if -(2 ^ 63) ≤ i ∧ i < 2 ^ 63 ∧ z.length * i.toNat ≤ 16777216 then some (.str (Txt.mul z i)) else none
  | _, _ => none
abbrev rMulS : R2 := fun x y H Q => ∃ z i, x = .str z ∧ y = .int i ∧ MulOk z i ∧ Q (.str (Txt.mul z i)) H
theorem op_mulS : OpR X (binaryOp .Mult) rMulS := by
  intro pins s σ H x y v u Q I rx ry h
  obtain ⟨z, i, rfl, rfl, ok, q⟩ := h
  obtain ⟨t, rfl⟩ := rx
  obtain ⟨t', rfl⟩ := ry
  exact SB.mul ok fun tk k => ⟨.str _, H, I.tok _, ⟨_, rfl⟩, q⟩
theorem mulOkS {z : Str} {i : Int} (h1 : -(2 ^ 63) ≤ i) (h2 : i < 2 ^ 63) (h3 : z.length * i.toNat ≤ 16777216) : MulOk z i := by
  refine ⟨?_, fun hn _ => ?_, fun hn _ => ?_⟩
  · have e1 : ¬ i < -(2 ^ 63 : Int) := by omega
    have e2 : ¬ i ≥ 2 ^ 63 := by omega
    rw [decide_eq_false e1, decide_eq_false e2]; rfl
  · have hp : 0 < i := by omega
    have e1 : (z.length : Int) * i ≤ 16777216 := by
      have := (Int.ofNat_le.mpr h3)
      rw [Int.natCast_mul, Int.toNat_of_nonneg (by omega)] at this
      exact this
    intro hgt
    have e2 : (z.length : Int) ≤ (2 ^ 63 - 1) / i := (Int.le_ediv_iff_mul_le hp).mpr (by omega)
    omega
  · unfold Builtin.Str.tooLong
    rw [decide_eq_false]
    rw [sizeLine_eq]; omega
theorem r_mulS : ROp K rMulS oMulS := by
  intro a b d F H v u Q e s ra rb q
  cases a <;> cases b <;> simp only [oMulS, reduceCtorEq] at e
  split at e
  · rename_i hz
    cases e
    simp only [Rep] at ra rb; subst ra; subst rb
    exact ⟨_, _, rfl, rfl, mulOkS hz.1 hz.2.1 hz.2.2, str_q q s⟩
  · cases e
/-- a method of a text -/
def ROpM (K : Fr) (r : V → List V → Hp → VK → Prop) (f : D → List D → Option D) : Prop := ∀ {a : D} {ds : List D} {d : D} {F H : Hp} {v : V} {vs : List V} {Q : VK}, f a ds = some d → Same F H → Rep K F a v → Reps K F ds vs → (∀ z F' H', Post F H [] F' H' → Rep K F' d z → Q z H') → (∃ z, v = .str z) ∧ r v vs H Q
def ROpMN (K : Fr) (r : V → List V → Hp → VK → Prop) (f : D → List D → Option (List D)) : Prop := ∀ {a : D} {ds zs : List D} {F H : Hp} {v : V} {vs : List V} {Q : VK}, f a ds = some zs → Same F H → Rep K F a v → Reps K F ds vs → (∀ p ws, H p = none → Reps K F zs ws → Q (.ref p) (L2.upd H p (.lst ws))) → (∃ z, v = .str z) ∧ r v vs H Q
def iMt (f : D → List D → Option D) (c : IC) (cs : IL) : IC := fun ŝ => (c ŝ).bind fun d ŝ => (match d with
  | .str z => (cs ŝ).bind fun ds ŝ => (Res.opt (f (.str z) ds)).out ŝ
  | _ => .stuck)
def iMtN (f : D → List D → Option (List D)) (c : IC) (cs : IL) : IL := fun ŝ => (c ŝ).bind fun d ŝ => (match d with
  | .str z => (cs ŝ).bind fun ds ŝ => (Res.opt (f (.str z) ds)).out ŝ
  | _ => .stuck)
section
variable {o : Expr} {r : V → List V → Hp → VK → Prop} {c1 : IC} {cs : IL}
theorem jF_mts {f : D → List D → Option D} (hr : ROpM X.K r f) (slot : PySem.Slot "str" name id) (hty : typeOf (.builtin id) = pure (.type "method_descriptor")) (hm : MtR X id r) (ho : JF X E W o c1) (ha : JA X E W (e :: es) cs)
    (hbase : attributeBase o name X.env (eval o X.env) = eval o X.env := by rfl)
    (hfew : ((backTo cpos (starEach (e :: es) X.env)).all (fun x => !x.1) && (backToKw cpos (keywordEach [] X.env)).all (fun x => x.1.isSome)
      && decide ((e :: es).length + ([] : List Keyword).length + (if ([] : List Keyword).isEmpty then 0 else 1) < 30)) = true := by rfl)
    (hline : (apos.endLine == cpos.line) = true := by rfl) (hs : starEach (e :: es) X.env = (false, eval e X.env) :: starEach es X.env := by rfl) (hplain : (backTo cpos (starEach es X.env)).any (·.1) = false := by rfl) :
    JF X E W (.Call (.Attribute o name apos) (e :: es) [] cpos) (iMt f c1 cs) :=
  PE_imp (pe_bm PySem.F.plainAttrs_str slot hty hm ho ha hbase hfew hline hs hplain) fun σ H Q ⟨ŝ, F, own, S, k⟩ => ⟨ŝ, F, own, S, k.bind.imp fun d ŝ1 q v H1 F1 own1 S1 f1 r1 => by
    cases d <;> first | (exact q.elim) | skip
    rename_i z
    have r1' := r1
    simp only [Rep] at r1
    subst r1
    refine ⟨rfl, ŝ1, F1, own1, S1, OutP.bind q |>.imp fun ds ŝ2 q vs H2 F2 own2 S2 f2 r2 => ?_⟩
    obtain ⟨d, hf, q2⟩ := (OutP.res q).opt
    exact (hr hf S2.fh (r1'.mono f2) r2 fun z F3 H3 P3 rz => q2 z H3 F3 own2 (S2.grow P3) ((f1.trans f2).trans P3.FF) rz).2⟩
theorem jN_mts {f : D → List D → Option (List D)} (hr : ROpMN X.K r f) (slot : PySem.Slot "str" name id) (hty : typeOf (.builtin id) = pure (.type "method_descriptor")) (hm : MtR X id r) (ho : JF X E W o c1) (ha : JA X E W (e :: es) cs)
    (hbase : attributeBase o name X.env (eval o X.env) = eval o X.env := by rfl)
    (hfew : ((backTo cpos (starEach (e :: es) X.env)).all (fun x => !x.1) && (backToKw cpos (keywordEach [] X.env)).all (fun x => x.1.isSome)
      && decide ((e :: es).length + ([] : List Keyword).length + (if ([] : List Keyword).isEmpty then 0 else 1) < 30)) = true := by rfl)
    (hline : (apos.endLine == cpos.line) = true := by rfl) (hs : starEach (e :: es) X.env = (false, eval e X.env) :: starEach es X.env := by rfl) (hplain : (backTo cpos (starEach es X.env)).any (·.1) = false := by rfl) :
    JN X E W (.Call (.Attribute o name apos) (e :: es) [] cpos) (iMtN f c1 cs) :=
  PE_imp (pe_bm PySem.F.plainAttrs_str slot hty hm ho ha hbase hfew hline hs hplain) fun σ H Q ⟨ŝ, F, own, S, k⟩ => ⟨ŝ, F, own, S, k.bind.imp fun d ŝ1 q v H1 F1 own1 S1 f1 r1 => by
    cases d <;> first | (exact q.elim) | skip
    rename_i z
    have r1' := r1
    simp only [Rep] at r1
    subst r1
    refine ⟨rfl, ŝ1, F1, own1, S1, OutP.bind q |>.imp fun ds ŝ2 q vs H2 F2 own2 S2 f2 r2 => ?_⟩
    obtain ⟨zs, hf, q2⟩ := (OutP.res q).opt
    exact (hr hf S2.fh (r1'.mono f2) r2 (new_N S2 (f1.trans f2) q2)).2⟩
end
def oSplit : D → List D → Option (List D)
  | .str a, [.str b] => if b.length ≠ 0 ∧ a.length + 2 ≤ 16777216 then some ((Txt.split a b).map .str) else none
  | _, _ => none
abbrev rSplit : V → List V → Hp → VK → Prop := fun x xs H Q => ∃ a b, x = .str a ∧ xs = [.str b] ∧ (b.length == 0) = false ∧ a.length + 2 ≤ sizeLine ∧ rNewStrs (Txt.split a b) H Q
theorem r_split : ROpMN K rSplit oSplit := by
  intro a ds zs F H v vs Q e s ra rd q
  unfold oSplit at e
  split at e
  · split at e
    · rename_i hz
      cases e
      obtain ⟨u, rfl, r1⟩ := reps1 rd
      simp only [Rep] at ra r1
      subst ra
      subst r1
      exact ⟨⟨_, rfl⟩, _, _, rfl, rfl, by simpa using hz.1, by rw [sizeLine_eq]; exact hz.2, fun p hp => q p _ hp (strs_rep _)⟩
    · cases e
  · cases e
def oJoin : D → List D → Option D
  | .str a, [.lst xs] => (strsOf xs).bind fun zs => if (zs.map (·.length)).sum + zs.length * a.length ≤ 16777216 then some (.str (Txt.join a zs)) else none
  | _, _ => none
abbrev rJoin (K : Fr) : V → List V → Hp → VK → Prop := fun x xs H Q => ∃ a p, ∃ ys : List Str, x = .str a ∧ xs = [.ref p] ∧ (SqL K H p (ys.map V.str) ∨ SqT K H p (ys.map V.str)) ∧ (ys.map (·.length)).sum + ys.length * a.length ≤ 16777216 ∧ Q (.str (Txt.join a ys)) H
theorem r_join : ROpM K (rJoin K) oJoin := by
  intro a ds d F H v vs Q e s ra rd q
  unfold oJoin at e
  split at e
  · obtain ⟨zs, e1, e2⟩ := Option.bind_eq_some_iff.mp e
    split at e2
    · rename_i hz
      cases e2
      obtain ⟨p, us, rfl, h1, h2, _⟩ := lst1 s rd
      have eu := strsOf_rep e1 h2
      subst eu
      simp only [Rep] at ra
      subst ra
      exact ⟨⟨_, rfl⟩, _, p, zs, rfl, rfl, .inl h1, hz, str_q q s⟩
    · cases e2
  · cases e
/-! f-strings -/
def iFmt (c : IC) : IC := fun ŝ => (c ŝ).bind fun d ŝ => match d with
  | .str z => if z.length ≤ 16777216 then .ok (.str z) ŝ else .stuck
  | .int i => if i.natAbs.log2 < 1920 then .ok (.str (toString i)) ŝ else .stuck
  | _ => .stuck
theorem jF_fmt {c1 : IC} (h : JF X E W e c1) : JF X E W (.FormattedValue e (-1) none pos) (iFmt c1) := PE_imp (pe_fmt h) fun σ H Q ⟨ŝ, F, own, S, k⟩ => ⟨ŝ, F, own, S, k.bind.imp fun d ŝ1 q v H1 F1 own1 S1 f1 r1 => by
  cases d <;> first | (exact q.elim) | skip
  · rename_i i
    simp only at q
    split at q
    · rename_i hz
      simp only [Rep] at r1; subst r1
      exact .inr ⟨i, rfl, hz, q _ H1 F1 own1 S1 f1 (by simp only [Rep])⟩
    · exact q.elim
  · rename_i z
    simp only at q
    split at q
    · rename_i hz
      simp only [Rep] at r1; subst r1
      exact .inl ⟨z, rfl, by rw [sizeLine_eq]; exact hz, q _ H1 F1 own1 S1 f1 (by simp only [Rep])⟩
    · exact q.elim⟩
def iJs : List IC → Str → IC
  | [], acc, ŝ => .ok (.str acc) ŝ
  | c :: cs, acc, ŝ => (c ŝ).bind fun d ŝ => match d with
    | .str z => if (acc ++ z).length ≤ 16777216 then iJs cs (acc ++ z) ŝ else .stuck
    | _ => .stuck
inductive JFs (X : Cx) (E : Ent) (W : WX) : List Expr → List IC → Prop where
  | nil : JFs X E W [] []
  | cons {e : Expr} {c : IC} {es : List Expr} {cs : List IC} (h : JF X E W e c) (r : JFs X E W es cs) : JFs X E W (e :: es) (c :: cs)
theorem JFs.pj : ∀ {es : List Expr} {cs : List IC}, JFs X E W es cs → PJ X es (cs.map fun c => rdF X.K E W c)
  | _, _, .nil => .nil
  | _, _, .cons h r => .cons h r.pj
theorem js_run : ∀ (cs : List IC) (acc : Str) {σ : L2.St} {H : Hp} {Q : Str → Hp → Prop} {ŝ : AS} {F : Hp} {own : Own}, StR K E F ŝ σ H own →
    OutP K E W σ (iJs cs acc ŝ) (fun d ŝ' => ∀ z H' F' own', d = .str z → StR K E F' ŝ' σ H' own' → Same F F' → Q z H') → tJs (cs.map fun c => rdF K E W c) acc σ H Q
  | [], acc, σ, H, Q, ŝ, F, own, S, k => k acc H F own rfl S (Same.refl _)
  | c :: cs, acc, σ, H, Q, ŝ, F, own, S, k => by
    refine ⟨ŝ, F, own, S, OutP.bind k |>.imp fun d ŝ1 q v H1 F1 own1 S1 f1 r1 => ?_⟩
    cases d <;> first | (exact q.elim) | skip
    rename_i z
    simp only at q
    split at q
    · rename_i hz
      simp only [Rep] at r1
      refine ⟨z, r1, by rw [sizeLine_eq]; exact hz, js_run cs (acc ++ z) S1 (q.imp fun d ŝ' q z H' F' own' e S' f' => q z H' F' own' e S' (f1.trans f'))⟩
    · exact q.elim
theorem jF_joined {v1 v2 : Expr} {rest : List Expr} {cs : List IC} (h : JFs X E W (v1 :: v2 :: rest) cs) : JF X E W (.JoinedStr (v1 :: v2 :: rest) pos) (iJs cs Str.empty) :=
  PE_imp (pe_joined h.pj) fun σ H Q ⟨ŝ, F, own, S, k⟩ => js_run cs Str.empty S (k.imp fun d ŝ' q z H' F' own' e S' f' => by
    subst e
    exact q _ H' F' own' S' f' (by simp only [Rep]))
theorem jF_joined1 {c1 : IC} (h : JF X E W e c1) : JF X E W (.JoinedStr [e] pos) c1 := pe_joined1 h
/-! ### a dict of the top, its keys texts -/
def Dents (K : Fr) : List DictEntry → List (Str × D) → Prop
  | [], [] => True
  | e :: es, (z, d) :: tab => (∃ t, e.key = .str z t) ∧ e.refKey = false ∧ (∃ v, RelV v e.val ∧ ∀ F, Rep K F d v) ∧ Dents K es tab
  | _, _ => False
structure GDic (K : Fr) (w : World) (a : Addr) (tab : List (Str × D)) : Prop where
  ex : ∃ es n, KDict K w a es n ∧ Dents K es.toList tab
def tabD (tab : List (Str × D)) (z : Str) : Option D := (tab.find? fun q => q.1 == z).map (·.2)
theorem dents_find {z : Str} : ∀ {es : List DictEntry} {tab : List (Str × D)}, Dents K es tab → (tabD tab z = none ∧ es.find? (fun e => e.key.isStr z) = none ∧ es.any (·.refKey) = false) ∨
    ∃ d e v, tabD tab z = some d ∧ es.find? (fun e => e.key.isStr z) = some e ∧ RelV v e.val ∧ ∀ F, Rep K F d v
  | [], [], _ => .inl ⟨rfl, rfl, rfl⟩
  | e :: es, (y, d) :: tab, ⟨⟨t, h1⟩, h2, ⟨v, h3, h4⟩, h5⟩ => by
    have hk : e.key.isStr z = (y == z) := by rw [h1]; rfl
    unfold tabD
    rw [List.find?_cons, List.find?_cons]
    simp only [hk]
    cases hyz : (y == z) with
    | true => exact .inr ⟨d, e, v, rfl, rfl, h3, h4⟩
    | false =>
      rcases dents_find h5 (z := z) with ⟨k1, k2, k3⟩ | ⟨d', e', v', k1, k2, k3, k4⟩
      · exact .inl ⟨k1, k2, by rw [List.any_cons, h2, k3]; rfl⟩
      · exact .inr ⟨d', e', v', k1, k2, k3, k4⟩
  | [], _ :: _, h => h.elim
  | _ :: _, [], h => h.elim
theorem gdic_in {w : World} {a : Addr} {tab : List (Str × D)} (G : GDic K w a tab) (z : Str) : ∃ es n, KDict K w a es n ∧ ((tabD tab z = none ∧ PySem.W.nsIn K a z = some none) ∨ ∃ d u v, tabD tab z = some d ∧ PySem.W.nsIn K a z = some (some u) ∧ RelV v u ∧ ∀ F, Rep K F d v) := by
  obtain ⟨es, n, k, h⟩ := G.ex
  refine ⟨es, n, k, ?_⟩
  unfold PySem.W.nsIn
  rw [k.at_]
  rcases dents_find h (z := z) with ⟨k1, k2, k3⟩ | ⟨d', e', v', k1, k2, k3, k4⟩
  · refine .inl ⟨k1, ?_⟩
    simp only [k2, k3]
    rfl
  · refine .inr ⟨d', e'.val, v', k1, ?_, k3, k4⟩
    simp only [k2]
def oInG (tab : List (Str × D)) (neg : Bool) : D → Option D
  | .str z => some (.bl (if neg then !(tabD tab z).isSome else (tabD tab z).isSome))
  | _ => none
def oIxG (tab : List (Str × D)) : D → Option D
  | .str z => tabD tab z
  | _ => none
section
variable {g : Str} {tab : List (Str × D)} {gp : Pos} {c1 : IC}
theorem jF_inG (G : GDic X.K X.w (He.ga X.K g) tab) (hm : X.mg g = some (.ref (He.ga X.K g))) (h : JF X E W e c1) (hg : Gl X g := by rfl) (hd : (g == ("__debug__" : Str)) = false := by decide) : JF X E W (.Compare e [.In] [.Name g gp] pos) (iUn (oInG tab false) c1) := by
  obtain ⟨es, n, kd, _⟩ := G.ex
  refine PE_imp (pe_cmpR (op_in_kd kd) h (pe_glob (v := .ref (He.ga X.K g)) hg hm rfl hd) (by rfl)) fun σ H Q ⟨ŝ, F, own, S, k⟩ => ⟨ŝ, F, own, S, k.bind.imp fun d ŝ1 q v H1 F1 own1 S1 f1 r1 => ?_⟩
  obtain ⟨b, hf, q2⟩ := (OutP.res q).opt
  cases d <;> simp only [oInG, reduceCtorEq] at hf
  rename_i z
  cases hf
  simp only [Rep] at r1
  subst r1
  obtain ⟨_, _, _, k⟩ := gdic_in G z
  rcases k with ⟨k1, k2⟩ | ⟨d, u, v, k1, k2, _⟩
  · rw [k1] at q2
    exact ⟨z, none, rfl, rfl, k2, q2 _ H1 F1 own1 S1 f1 (by simp [Rep])⟩
  · rw [k1] at q2
    exact ⟨z, some u, rfl, rfl, k2, q2 _ H1 F1 own1 S1 f1 (by simp [Rep])⟩
theorem jT_inG (G : GDic X.K X.w (He.ga X.K g) tab) (hm : X.mg g = some (.ref (He.ga X.K g))) (h : JF X E W e c1) (hg : Gl X g := by rfl) (hd : (g == ("__debug__" : Str)) = false := by decide) : JT X E W (.Compare e [.In] [.Name g gp] pos) (iBl (iUn (oInG tab false) c1)) := by
  obtain ⟨es, n, kd, _⟩ := G.ex
  refine PT_imp (pt_cmpR (op_in_kd kd) h (pe_glob (v := .ref (He.ga X.K g)) hg hm rfl hd) (by rfl)) fun σ H Q ⟨ŝ, F, own, S, k⟩ => ⟨ŝ, F, own, S, k.bind.bind.imp fun d ŝ1 q v H1 F1 own1 S1 f1 r1 => ?_⟩
  obtain ⟨b, hf, q2⟩ := (OutP.res q).opt
  cases d <;> simp only [oInG, reduceCtorEq] at hf
  rename_i z
  cases hf
  simp only [Rep] at r1
  subst r1
  obtain ⟨_, _, _, k⟩ := gdic_in G z
  rcases k with ⟨k1, k2⟩ | ⟨d, u, v, k1, k2, _⟩
  · rw [k1] at q2
    exact ⟨z, none, rfl, rfl, k2, _, rfl, q2 H1 F1 own1 S1 f1⟩
  · rw [k1] at q2
    exact ⟨z, some u, rfl, rfl, k2, _, rfl, q2 H1 F1 own1 S1 f1⟩
theorem jT_ninG (G : GDic X.K X.w (He.ga X.K g) tab) (hm : X.mg g = some (.ref (He.ga X.K g))) (h : JF X E W e c1) (hg : Gl X g := by rfl) (hd : (g == ("__debug__" : Str)) = false := by decide) : JT X E W (.Compare e [.NotIn] [.Name g gp] pos) (iBl (iUn (oInG tab true) c1)) := by
  obtain ⟨es, n, kd, _⟩ := G.ex
  refine PT_imp (pt_cmpR (op_notIn_kd kd) h (pe_glob (v := .ref (He.ga X.K g)) hg hm rfl hd) (by rfl)) fun σ H Q ⟨ŝ, F, own, S, k⟩ => ⟨ŝ, F, own, S, k.bind.bind.imp fun d ŝ1 q v H1 F1 own1 S1 f1 r1 => ?_⟩
  obtain ⟨b, hf, q2⟩ := (OutP.res q).opt
  cases d <;> simp only [oInG, reduceCtorEq] at hf
  rename_i z
  cases hf
  simp only [Rep] at r1
  subst r1
  obtain ⟨_, _, _, k⟩ := gdic_in G z
  rcases k with ⟨k1, k2⟩ | ⟨d, u, v, k1, k2, _⟩
  · rw [k1] at q2
    exact ⟨z, none, rfl, rfl, k2, _, rfl, q2 H1 F1 own1 S1 f1⟩
  · rw [k1] at q2
    exact ⟨z, some u, rfl, rfl, k2, _, rfl, q2 H1 F1 own1 S1 f1⟩
theorem jF_ixG (G : GDic X.K X.w (He.ga X.K g) tab) (hm : X.mg g = some (.ref (He.ga X.K g))) (h : JF X E W e c1) (hg : Gl X g := by rfl) (hd : (g == ("__debug__" : Str)) = false := by decide) (hs : PlainIx e := by intro _ _; rfl) : JF X E W (.Subscript (.Name g gp) e pos) (iUn (oIxG tab) c1) := by
  refine PE_imp (pe_ix ix_kdict (pe_glob (v := .ref (He.ga X.K g)) hg hm rfl hd) h hs) fun σ H Q ⟨ŝ, F, own, S, k⟩ => ⟨ŝ, F, own, S, k.bind.imp fun d ŝ1 q v H1 F1 own1 S1 f1 r1 => ?_⟩
  obtain ⟨b, hf, q2⟩ := (OutP.res q).opt
  cases d <;> simp only [oIxG, reduceCtorEq] at hf
  rename_i z
  simp only [Rep] at r1
  subst r1
  obtain ⟨es, n, kd, k⟩ := gdic_in G z
  rcases k with ⟨k1, k2⟩ | ⟨d, u, v, k1, k2, k3, k4⟩
  · rw [k1] at hf
    cases hf
  · rw [k1] at hf
    cases hf
    exact ⟨_, z, v, rfl, rfl, ⟨es, n, u, kd.at_, kd.lit, k2, k3⟩, q2 _ H1 F1 own1 S1 f1 (k4 _)⟩
end
end
end FL

set_option maxHeartbeats 4000000
/-! FLE: isinstance of a caught error, with a dict or without. -/
namespace FL
open PySem PySem.Spec PySem.Calls PyProof.Rows PySem.W
section
variable {prog : Program} {w : World} {A : Around} {E : Value → Shared → Prop} {s : Shared} {K : Frag} {x D : Addr} {ox : Obj} {od : Option Obj}
/-- what the class says about its instances' class -/
structure XIs (K : Frag) (D : Addr) : Prop where
  hg : findIn K (.ref D) "__getattribute__" = some (some (.builtin "BaseException.__getattribute__"))
  hk : findIn K (.ref D) "__getattr__" = some none
  hs : subIn K (.ref D) (.type "BaseException") = some true
  hd : hasDictIn K D = true
  ha : findIn K (.ref D) "__class__" = some (some (.builtin "object.__class__"))
  hn : specialIn K (.builtin "object.__class__") "__get__" = some (some (.builtin "getset_descriptor.__get__"))
  ht : takesIn K (.builtin "object.__class__") = some true
  hm : mroIn K D (.type "object") = some true
theorem find_desc {C : Addr} {name : Str} {a g : Value} (hc : (clsIn K C).isSome = true) (ha : findIn K (.ref C) name = some (some a)) (hg : specialIn K a "__get__" = some (some g)) (ht : takesIn K a = some true) : findObj K C od name = some (.bind g a) := by
  cases od with
  | none =>
    obtain ⟨cd, e⟩ := Option.isSome_iff_exists.mp hc
    unfold findObj
    rw [e, Option.bind_some, ha, Option.bind_some]
    simp [hg, ht]
  | some o => exact findObj_data hc ha hg ht
theorem exc_class {Q : Option Value → Shared → Prop} (T : XIs K D) (X : K.In s.heap) (I : InstAt s.heap x ox D od) (h : Q (some (.ref D)) { s with toks := s.toks + 1 }) :
    wpAny (model prog w) A (getAttr? (.ref x) "__class__") Q E s := by
  have hc : (clsIn K D).isSome = true := by
    obtain ⟨cd, e, _⟩ := any_some T.hd
    rw [e]
    rfl
  have hf := find_desc (od := od) hc T.ha T.hn T.ht
  obtain ⟨hp, g, d, t, os⟩ := s
  have l0 := I.type (M := model prog w)
  have l1 := looks_findIn (M := model prog w) X T.hg
  have l2 := looks_findIn (M := model prog w) X T.hk
  have l3 := looks_find (M := model prog w) X I hf
  have sub : Looks (model prog w) hp (isInstance (.ref x) (.type "BaseException")) true := l0.andThen (looks_subIn X T.hs)
  have e2 : (Value.builtin "BaseException.__getattribute__" == Value.builtin "object.__getattribute__") = false := by decide +kernel
  have e1 : (onTheHeap (Value.ref D) && Value.builtin "BaseException.__getattribute__" == Value.builtin "object.__getattribute__") = false := by
    rw [e2]
    rfl
  have e0 : (false && onTheHeap (Value.builtin "BaseException.__getattribute__")) = false := rfl
  unfold getAttr? getAttrBy? getAttrBy
  refine wpAny_bind (wpAny_mkText (wpAny_bind (wpAny_attempt (wpAny_holding ?_))))
  refine wpAny_bind (l0.at (wpAny_bind (l1.at ?_)))
  show wpAny _ _ (if (onTheHeap (Value.ref D) && Value.builtin "BaseException.__getattribute__" ==
    Value.builtin "object.__getattribute__") = true then _ else _) _ _ _
  rw [e1, if_neg Bool.false_ne_true]
  unfold getAttrByItsOwn hookBefore
  refine wpAny_bind ?_
  rw [if_pos (show onTheHeap (Value.ref D) = true from rfl)]
  refine l2.at (wpAny_bind (wpAny_attempt (wpAny_holding ?_)))
  unfold callGetattribute
  rw [e0, if_neg Bool.false_ne_true]
  unfold boundAndCalled
  rw [PySem.F.excAttr_ValueError.ga.bind (.ref x)]
  refine wpAny_bind (wpAny_pure ?_)
  show wpAny _ _ (call (.builtin "BaseException.__getattribute__") [.ref x, .str "__class__" t]) _ _ _
  refine wpAny_call (codeAny_call_builtin PySem.F.excAttr_ValueError.ga.plain PySem.F.entry_bexc_ga ?_)
  refine @check_slot (model prog w) _ _ ⟨hp, g, d, t + 1, os⟩ "BaseException.__getattribute__" "BaseException" "__getattribute__" (.ref x)
    [.str "__class__" t] [] _ (by decide +kernel) (by decide +kernel) sub (PySem.F.args_bexc_ga (.ref x) (.str "__class__" t)) ?_
  unfold Builtin.«object.__getattribute__»
  refine wpAny_bind (wpAny_of_eq (a := ((Value.ref x : Value), [Value.str "__class__" t]))
    (by first | rfl | (simp only [slotArgs]; rfl)) (wpAny_bind (wpAny_pure (wpAny_bind (l0.at (wpAny_bind (l3.at ?_)))))))
  show wpAny _ _ (holding [Value.builtin "object.__class__"]
    (call (.builtin "getset_descriptor.__get__") [.builtin "object.__class__", .ref x, .ref D]) >>= ret) _ _ _
  refine wpAny_bind (wpAny_holding (wpAny_call (class_get (s := ⟨hp, g, d, t + 1, os⟩) (ox := ox) (od := od) X I T.hm ?_)))
  refine wpAny_pure ?_
  show wpAny _ _ (handedOut (.ref D)) _ _ _
  rw [handedOut_of (v := .ref D) rfl]
  first | exact wpAny_pure (wpAny_pure h) | exact wpAny_pure h | exact wpAny_pure (wpAny_bind (wpAny_pure (wpAny_pure h)))
theorem kit_exc (T : XIs K D) : KitX K (.ref x) (.ref D) (fun h => ∃ od, InstAt h x ox D od) where
  ty := fun _ _ _ ⟨_, I⟩ => I.type
  it := fun _ _ X _ => by
    obtain ⟨cd, hc, _⟩ := any_some T.hd
    unfold clsIn at hc
    split at hc
    · rename_i c' d' cd' sl' ho
      intro A' Q' E' s' k q
      unfold isType loadHead
      exact wpAny_bind (wpAny_loadPart (k _ _ (X _ _ ho)) (wpAny_pure q))
    · cases hc
  ne := fun h tp dd its n sl X htp => by
    obtain ⟨cd, hc, _⟩ := any_some T.hd
    refine Bool.eq_false_iff.mpr fun q => ?_
    have e : D = tp := Value.ref.inj (beq_iff_eq.mp q)
    subst e
    unfold clsIn at hc
    split at hc
    · rename_i c' d' cd' sl' ho
      have z := (X _ _ ho).symm.trans htp
      cases z
    · cases hc
  ca := fun X ⟨_, I⟩ k => exc_class T X I k
end
end FL

set_option maxHeartbeats 4000000
/-! FL10: slices, isinstance, raise, try. -/
namespace FL
open PySem PySem.Spec PyProof.Rows L2
section
variable {X : Cx} {E : Ent} {W : WX} {e a b c : Expr} {es rest : List Expr} {pos p p2 apos cpos py : Pos} {K : Fr} {j k n : Nat} {x y name : Str} {id T : String} {lo hi : Option Expr}
/-! ### slices -/
abbrev IQ := AS → Out (Option Int)
def rdQ (K : Fr) (E : Ent) (W : WX) (c : IQ) : TO := fun σ H Q => ∃ ŝ F own, StR K E F ŝ σ H own ∧ OutP K E W σ (c ŝ) fun o ŝ' => ∀ H' F' own', StR K E F' ŝ' σ H' own' → Same F F' → Q o H'
abbrev JQ (X : Cx) (E : Ent) (W : WX) (e : Option Expr) (c : IQ) : Prop := L2.PO X e (rdQ X.K E W c)
def iqNone : IQ := fun ŝ => .ok none ŝ
def iqSome (c : IC) : IQ := fun ŝ => (c ŝ).bind fun d ŝ => match d with
  | .int i => .ok (some i) ŝ
  | _ => .stuck
theorem jQ_none : JQ X E W none iqNone := ⟨fun pins s σ H Q I ⟨ŝ, F, own, S, k⟩ => po_none.run pins s σ H Q I (k H F own S (Same.refl _))⟩
theorem jQ_some {c : IC} (h : JF X E W e c) : JQ X E W (some e) (iqSome c) := ⟨fun pins s σ H Q I ⟨ŝ, F, own, S, k⟩ => (po_some h).run pins s σ H Q I ⟨ŝ, F, own, S, k.bind.imp fun d ŝ1 q v H1 F1 own1 S1 f1 r => by
  cases d <;> first | (exact q.elim) | skip
  simp only [Rep] at r
  exact ⟨_, r, q H1 F1 own1 S1 f1⟩⟩⟩
def iSlL (c : IC) (l h : IQ) : IL := fun ŝ => (c ŝ).bind fun d ŝ => (match d with
  | .lst xs => (l ŝ).bind fun lo ŝ => (h ŝ).bind fun hi ŝ => .ok (cutD xs lo hi) ŝ
  | .scr xs => (l ŝ).bind fun lo ŝ => (h ŝ).bind fun hi ŝ => .ok (cutD xs lo hi) ŝ
  | _ => .stuck)
theorem jN_slice {c : IC} {l h : IQ} (h1 : JF X E W a c) (h2 : JQ X E W lo l) (h3 : JQ X E W hi h) : JN X E W (.Subscript a (.Slice lo hi none p2) pos) (iSlL c l h) := PE_imp (pe_slice sl_list h1 h2 h3) fun σ H Q ⟨ŝ, F, own, S, k⟩ =>
  ⟨ŝ, F, own, S, k.bind.imp fun d ŝ1 q v H1 F1 own1 S1 f1 r1 => by
    have fin : ∀ {a1 : Addr} {us : List V} {xs : List D}, SqL X.K H1 a1 us → Reps X.K F1 xs us → OutP X.K E W σ ((l ŝ1).bind fun lo ŝ => (h ŝ).bind fun hi ŝ => .ok (cutD xs lo hi) ŝ) (fun xs ŝ' => ∀ a vs H' F' own', StR X.K E F' ŝ' σ H' own' → Same F F' → Mine X.K E F' H' own' a xs vs → Q (.ref a) H') → (∀ F2 H2 own2 ŝ2, StR X.K E F2 ŝ2 σ H2 own2 → Same F1 F2 → SqL X.K H2 a1 us) →
        rdQ X.K E W l σ H1 fun o H2 => rdQ X.K E W h σ H2 fun o2 H3 => rSlL X.K (.ref a1) o o2 H3 Q := fun {a1 us xs} hl hr q hk =>
      ⟨ŝ1, F1, own1, S1, q.bind.imp fun lo ŝ2 q H2 F2 own2 S2 f2 => ⟨ŝ2, F2, own2, S2, q.bind.imp fun hi ŝ3 q H3 F3 own3 S3 f3 =>
        ⟨a1, us, rfl, hk F3 H3 own3 ŝ3 S3 (f2.trans f3), fun p hp => new_N S3 ((f1.trans f2).trans f3) q p _ hp (cut_rep (hr.mono (f2.trans f3)) lo hi)⟩⟩⟩
    cases d <;> first | (exact q.elim) | skip
    · simp only [Rep] at r1
      obtain ⟨a1, us, rfl, e1, e2⟩ := r1
      exact fin (SqL.of (S1.fh _ _ e1)) e2 q fun F2 H2 own2 ŝ2 S2 f2 => SqL.of (S2.fh _ _ (f2 _ _ e1))
    · simp only [Rep] at r1
      obtain ⟨a1, us, rfl, e1, e2⟩ := r1
      exact fin (S1.fh.seq e1) e2 q fun F2 H2 own2 ŝ2 S2 f2 => S2.fh.seq (f2.seq e1)⟩
def iSlT (c : IC) (l h : IQ) : IC := fun ŝ => (c ŝ).bind fun d ŝ => (l ŝ).bind fun lo ŝ => (h ŝ).bind fun hi ŝ => match d with
  | .tup xs => .ok (.tup (cutD xs lo hi)) ŝ
  | .str z => if z.length ≤ 16777216 then .ok (.str (cutS z lo hi)) ŝ else .stuck
  | _ => .stuck
theorem jF_slice {c : IC} {l h : IQ} (h1 : JF X E W a c) (h2 : JQ X E W lo l) (h3 : JQ X E W hi h) : JF X E W (.Subscript a (.Slice lo hi none p2) pos) (iSlT c l h) := PE_imp (pe_slice sl_X h1 h2 h3) fun σ H Q ⟨ŝ, F, own, S, k⟩ =>
  ⟨ŝ, F, own, S, k.bind.imp fun d ŝ1 q v H1 F1 own1 S1 f1 r1 => ⟨ŝ1, F1, own1, S1, q.bind.imp fun lo ŝ2 q H2 F2 own2 S2 f2 => ⟨ŝ2, F2, own2, S2, q.bind.imp fun hi ŝ3 q H3 F3 own3 S3 f3 => by
    have r := r1.mono (f2.trans f3)
    have ff := (f1.trans f2).trans f3
    cases d with
    | str z =>
      simp only [Rep] at r; subst r
      simp only at q
      split at q
      · rename_i hz
        exact .inr ⟨z, rfl, by rw [sizeLine_eq]; exact hz, q _ H3 F3 own3 S3 ff (by simp only [Rep])⟩
      · exact q.elim
    | tup xs =>
      have r' := r
      simp only [Rep] at r
      obtain ⟨p, vs, rfl, e1, e2⟩ := r
      have l := e2.len
      refine .inl ⟨p, vs, rfl, sqT_same S3.fh e1, fun hw => ?_, fun _ => tup_q (fun z F4 H4 P4 r4 => q z H4 F4 own3 (S3.grow P4) (ff.trans P4.FF) r4) S3.fh (cut_rep e2 lo hi)⟩
      refine q _ H3 F3 own3 S3 ff ?_
      have e3 : cutD xs lo hi = xs := by
        unfold cutD
        rw [← l, hw.1, hw.2]
        simp [l]
      rw [e3]
      exact r'
    | _ => exact q.elim⟩⟩⟩
/-! ### isinstance -/
def tyN : D → Option String
  | .non => some "NoneType"
  | .bl _ => some "bool"
  | .int _ => some "int"
  | .str _ => some "str"
  | .lst _ => some "list"
  | .scr _ => some "list"
  | .tup _ => some "tuple"
  | _ => none
theorem tyN_ok {F H : Hp} {d : D} {v : V} {t : String} (e : tyN d = some t) (s : Same F H) (r : Rep K F d v) : TyX K H v (.type t) := by
  cases d <;> simp only [tyN, Option.some.injEq, reduceCtorEq] at e <;> subst e <;> simp only [Rep] at r
  · subst r; exact .base .non
  · subst r; exact .base (.bl _)
  · subst r; exact .base (.int _)
  · subst r; exact .base (.str _)
  · obtain ⟨a, vs, rfl, h1, _⟩ := r
    exact .base (.lst (s _ _ h1))
  · obtain ⟨a, vs, rfl, h1, _⟩ := r
    rcases h1 with (h1 | ⟨o, h1⟩) | ⟨o, its, n, h1, h2, _⟩
    · exact .base (.tup (s _ _ h1))
    · exact .fTuple (s _ _ h1)
    · exact .kTuple h1 h2
  · obtain ⟨a, vs, rfl, h1, _⟩ := r
    rcases h1 with (h1 | ⟨o, h1⟩) | ⟨o, its, n, h1, h2, _⟩
    · exact .base (.lst (s _ _ h1))
    · exact .base (.frz (s _ _ h1))
    · exact .kList h1 h2
/-- isinstance(x, u) by x's datum -/
def IsiT (K : Fr) (u : Value) (f : D → Option Bool) : Prop := ∀ {d : D} {z : Bool} {F H : Hp} {v : V}, f d = some z → Same F H → Rep K F d v → ∃ t, TyX K H v t ∧ PySem.W.kitOne K t u = some z
def subTy (T t : String) : Bool := t == T || (t == "bool" && T == "int")
def isiB (T : String) (d : D) : Option Bool := (tyN d).map (subTy T)
theorem tyN_mem {d : D} {t : String} (e : tyN d = some t) : t ∈ ["NoneType", "bool", "int", "str", "list", "tuple"] := by
  cases d <;> simp only [tyN, Option.some.injEq, reduceCtorEq] at e <;> subst e <;> simp
theorem isi_b (T : String) (h : ∀ t ∈ ["NoneType", "bool", "int", "str", "list", "tuple"], kitB t T = some (subTy T t)) : IsiT K (.type T) (isiB T) := by
  intro d z F H v e s r
  unfold isiB at e
  obtain ⟨t, e1, rfl⟩ := Option.map_eq_some_iff.mp e
  exact ⟨.type t, tyN_ok e1 s r, kit_ty (h t (tyN_mem e1))⟩
theorem isi_int : IsiT K (.type "int") (isiB "int") := isi_b _ (by decide +kernel)
theorem isi_str : IsiT K (.type "str") (isiB "str") := isi_b _ (by decide +kernel)
theorem isi_bool : IsiT K (.type "bool") (isiB "bool") := isi_b _ (by decide +kernel)
theorem isi_list : IsiT K (.type "list") (isiB "list") := isi_b _ (by decide +kernel)
theorem isi_tuple : IsiT K (.type "tuple") (isiB "tuple") := isi_b _ (by decide +kernel)
def iIsi (f : D → Option Bool) (c : IC) : IC := fun ŝ => (c ŝ).bind fun d ŝ => (Res.opt ((f d).map .bl)).out ŝ
theorem jF_isi {f : D → Option Bool} {cv : V} {u : Value} {c1 : IC} (hf : IsiT X.K u f) (hm : X.mg "isinstance" = none) (h : JF X E W e c1) (hc : PE X c (tC cv)) (hcv : ClsV cv u) (hg : Gl X "isinstance" := by rfl)
    (hs : starEach (e :: [c]) X.env = (false, eval e X.env) :: starEach [c] X.env := by rfl) (hs2 : starEach (c :: []) X.env = (false, eval c X.env) :: starEach [] X.env := by rfl) (hpl : (backTo pos (starEach [c] X.env)).any (·.1) = false := by rfl) :
    JF X E W (.Call (.Name "isinstance" p) [e, c] [] pos) (iIsi f c1) :=
  PE_imp (pe_callB call_isi hg hm PyProof.Rows.Boot.«isinstance» (pa_cons h (pa_cons hc pa_nil hs2) hs) (by decide) (by decide) hs hpl) fun σ H Q ⟨ŝ, F, own, S, k⟩ => ⟨ŝ, F, own, S, k.bind.imp fun d ŝ1 q v H1 F1 own1 S1 f1 r => by
    obtain ⟨z, e1, q2⟩ := (OutP.res q).opt
    obtain ⟨bz, e2, rfl⟩ := Option.map_eq_some_iff.mp e1
    obtain ⟨t, h1, h2⟩ := hf e2 S1.fh r
    exact ⟨v, cv, t, u, bz, rfl, hcv, h1, h2, q2 _ H1 F1 own1 S1 f1 (bl_rep _)⟩⟩
/-- .., a built-in type -/
theorem jF_isiT {f : D → Option Bool} {c1 : IC} {cp : Pos} (hf : IsiT X.K (.type T) f) (hm : X.mg "isinstance" = none) (hmT : X.mg x = none) (h : JF X E W e c1) (hv : bootBuiltins x = some (.type T)) (hgT : Gl X x := by rfl) (hg : Gl X "isinstance" := by rfl) (hn : x ≠ "__name__" := by decide) (hd : (x == ("__debug__" : Str)) = false := by decide)
    (hs : starEach (e :: [.Name x cp]) X.env = (false, eval e X.env) :: starEach [.Name x cp] X.env := by rfl) (hs2 : starEach (.Name x cp :: []) X.env = (false, eval (.Name x cp) X.env) :: starEach [] X.env := by rfl) (hpl : (backTo pos (starEach [.Name x cp] X.env)).any (·.1) = false := by rfl) :
    JF X E W (.Call (.Name "isinstance" p) [e, .Name x cp] [] pos) (iIsi f c1) :=
  jF_isi hf hm h (pe_bltn (v := .ty T) hgT hmT hv rfl hn hd) (.ty T) hg hs hs2 hpl
/-! ### raise -/
/-- an own exception class without __init__ of its own -/
structure XCls (K : Fr) (mg : Str → Option Value) (x : Str) : Prop where
  ex : ∃ (B newId initId : String) (bmB : List Value), ExcBaseFacts B newId initId bmB ∧ PySem.W.excIn K (He.ga K x) bmB newId = true
  gC : mg x = some (.ref (He.ga K x))
  kC : PySem.W.keepIn K (.ref (He.ga K x)) = true
  r1 : PySem.W.subIn K (.ref (He.ga K x)) (.type "BaseException") = some true
  r2 : PySem.W.typeIn K (.ref (He.ga K x)) = some (.type "type")
def sRaise (cls : Str) (cs : IL) : SC := fun ŝ => (cs ŝ).st fun ds ŝ => if ds.length ≤ 16777216 then .exn ⟨cls, [], []⟩ ŝ else .stuck
theorem js_raise {cs : IL} (C : Ctx X W k) (T : XCls X.K X.mg x) (ha : JA X E W (e :: es) cs) (hg : Gl X x := by rfl) (hdb : (x == ("__debug__" : Str)) = false := by decide)
    (he : starEach (e :: es) X.env = (false, eval e X.env) :: starEach es X.env := by rfl) (hpl : (backTo p2 (starEach es X.env)).any (·.1) = false := by rfl) : JS X E W (.Raise (some (.Call (.Name x p) (e :: es) [] p2)) none pos) (sRaise x cs) := by
  obtain ⟨B, newId, initId, bmB, F, q⟩ := T.ex
  refine PS_imp (ps_raise C.calm C.tk (pmk_ownA F q T.gC T.kC (raises_own T.r1 T.r2) hg ha hdb he hpl)) fun D σ H ⟨ŝ, F, own, S, k⟩ => ⟨ŝ, F, own, S, k.st.imp fun ds ŝ1 q vs H1 F1 own1 S1 f1 r => ?_⟩
  split at q
  · rename_i hz
    exact ⟨by rw [r.len, sizeLine_eq]; exact hz, q σ F1 H1 own1 _ none S1 ⟨rfl, .inl ⟨rfl, rfl⟩⟩⟩
  · exact q.elim
/-! ### try -/
theorem Ctx.tr (C : Ctx X W k) {W' : WX} {pn : List (Addr × Obj)} {xe : Value → Shared → Prop} (tk : Takes (X.tr pn xe) W') (po : PassesOwn (model X.prog X.w) X.A X.env xe) : Ctx (X.tr pn xe) W' k := ⟨C.calm, C.room, tk, C.nd, po⟩
/-- the entry within a try's body: what was frozen there stays -/
abbrev tryE (E : Ent) (F0 : Hp) : Ent := ⟨E.F0, E.H0, E.io, E.n, fun σ F => E.P σ F ∧ Same F0 F, fun σ F F' s h => ⟨E.mono _ _ _ s h.1, h.2.trans s⟩, fun σ F h => E.len σ F h.1⟩
/-- the entry within the suite: e stands in slot i -/
abbrev suiE (E : Ent) (K : Fr) (i : Nat) (x : Exn) (a : Addr) (cls : Value) (d : Option Addr) : Ent := ⟨E.F0, E.H0, E.io, E.n, fun σ F => E.P σ F ∧ σ[i]? = some (some (.ref a)) ∧ ExnR K F x cls d, fun σ F F' s h => ⟨E.mono _ _ _ s h.1, h.2.1, by
  obtain ⟨_, _, h1, h2⟩ := h
  refine ⟨h1, ?_⟩
  rcases h2 with h2 | ⟨dd, vs, e1, e2, e3, e4, e5⟩
  · exact .inl h2
  · exact .inr ⟨dd, vs, e1, e2, s _ _ e3, e4, Reps.mono s _ _ e5⟩⟩, fun σ F h => E.len σ F h.1⟩
def dropS (i : Nat) : SOut → SOut
  | .nx ŝ => .nx (ŝ.set i none)
  | .rt r ŝ => .rt r (ŝ.set i none)
  | .bk ŝ => .bk (ŝ.set i none)
  | .ct ŝ => .ct (ŝ.set i none)
  | _ => .stuck
def sTry (i : Nat) (cat : Str → Option Bool) (b : SC) (su : Exn → SC) : SC := fun ŝ => match b ŝ with
  | .exn x ŝ => (match cat x.cls with
    | some true => dropS i (su x (ŝ.set i none))
    | some false => .exn x ŝ
    | none => .stuck)
  | r => r
def suI (ios : Nat → Bool) (i : Nat) : Nat → Bool := fun j => ios j || j == i
/-- the suite's judgement -/
abbrev JSui (X : Cx) (E : Ent) (i : Nat) (ios : Nat → Bool) (suite : List Stmt) (su : Exn → SC) : Prop := ∀ (a : Addr) (oe : Obj) (d : Option Addr) (pn : List (Addr × Obj)) (x : Exn), Zc (.ref (He.ga X.K x.cls)) d oe → (∃ vs, oe.data = .fields vs) → Ios (suiE E X.K i x a (.ref (He.ga X.K x.cls)) d) (suI ios i) →
  JSs (X.suite a ((a, oe) :: pn)) (suiE E X.K i x a (.ref (He.ga X.K x.cls)) d) WNo suite (su x)
theorem getElem?_set_fix {α : Type} {l : List α} {i : Nat} {x : α} (h : l[i]? = some x) : l.set i x = l := by
  refine List.ext_getElem? fun m => ?_
  by_cases hm : m = i
  · subst hm
    have hl := (List.getElem?_eq_some_iff.mp h).1
    rw [List.getElem?_set_self hl, h]
  · rw [List.getElem?_set_ne (Ne.symm hm)]
theorem js_try {ios : Nat → Bool} {i : Nat} {nm : Str} {cv : Value} {np pos' : Pos} {cat : Str → Option Bool} {body suite : List Stmt} {b₀ : Stmt} {cb : SC} {su : Exn → SC} (C : Ctx X W k) (hE : Ios E ios) (hn : Names X x cv) (hca : ∀ cl z, cat cl = some z → PySem.W.exmOne X.K (.ref (He.ga X.K cl)) cv = some z)
    (hb : ∀ (W' : WX) (pn : List (Addr × Obj)) (xe : Value → Shared → Prop) (E' : Ent), Ctx (X.tr pn xe) W' k → Ios E' ios → E'.n = X.N.length → JSs (X.tr pn xe) E' W' body cb) (hsu : JSui X E i ios (b₀ :: suite) su) (hNE : E.n = X.N.length)
    (hs : X.stack = X.env :: X.outer := by rfl) (hf : X.env.frame = some X.env.locals := by rfl) (hio : ios i = false := by rfl) (hi : X.N[i]? = some nm := by rfl) (hln : X.env.kindOf nm = some .local := by rfl) :
    JS X E W (.Try body [.ExceptHandler (some (.Name x np)) (some nm) (b₀ :: suite) pos'] [] [] pos) (sTry i cat cb su) := by
  have hil : i < X.N.length := (List.getElem?_eq_some_iff.mp hi).1
  refine PS_imp (ps_try_as (tb := fun W' D σ H => ∃ E', Ios E' ios ∧ E'.n = X.N.length ∧ rdS X.K E' W' cb D σ H) (ts := fun a cls d D σ H => ∃ x, cls = .ref (He.ga X.K x.cls) ∧ ∃ E', E' = suiE E X.K i x a cls d ∧ rdS X.K E' WNo (su x) D σ H) hs hf C.nd hi hln hn C.tk (fun W' pn xe tk po => ⟨fun pins s σ H D I ⟨E', h1, h2, q⟩ => (hb W' pn xe E' (C.tr tk po) h1 h2).run pins s σ H D I q⟩) (fun a oe cls d pn hz hfs => ?_)) fun D σ H ⟨ŝ, F, own, S, k⟩ => ⟨tryE E F, ⟨hE.io, fun j σ F v hj h => ⟨hE.P j σ F v hj h.1, h.2⟩⟩, hNE, ŝ, F, own, ⟨S.post, S.len, S.sl, S.sep, S.dis, S.ios, S.inv, Same.refl _⟩, ?_⟩
  · refine ⟨fun pins s σ H D I ⟨x, e1, E', e2, q⟩ => ?_⟩
    subst e1
    subst e2
    refine (hsu a oe d pn x hz hfs ⟨fun p hp => ?_, fun j σ F v hj h => ?_⟩).run pins s σ H D I q
    · have := hE.io p hp
      simp [suI, this]
    · have hj' : ios j = false ∧ j ≠ i := by simpa [suI] using hj
      exact ⟨hE.P j σ F v hj'.1 h.1, by rw [List.getElem?_set_ne hj'.2]; exact h.2.1, h.2.2⟩
  · unfold sTry at k
    have unt : ∀ {F5 : Hp} {ŝ5 : AS} {σ5 : L2.St} {H5 : Hp} {own5 : Own}, StR X.K (tryE E F) F5 ŝ5 σ5 H5 own5 → StR X.K E F5 ŝ5 σ5 H5 own5 := fun S5 => ⟨S5.post, S5.len, S5.sl, S5.sep, S5.dis, S5.ios, S5.inv.1⟩
    have unr : ∀ {r : Ret} {v : V} {F5 H5 : Hp} {own5 : Own}, RetR X.K (tryE E F) F5 H5 own5 r v → RetR X.K E F5 H5 own5 r v := fun {r v F5 H5 own5} h => by
      cases r with
      | fz d => exact h
      | ow xs =>
        obtain ⟨b, us, e, M⟩ := h
        exact ⟨b, us, e, M.hF, M.hH, M.h0, M.ho, M.r⟩
    cases hbo : cb ŝ with
    | nx ŝ' => rw [hbo] at k; exact fun σ5 H5 F5 own5 S5 f5 => k σ5 H5 F5 own5 (unt S5) f5
    | rt r ŝ' => rw [hbo] at k; exact fun v σ5 H5 F5 own5 S5 r5 => k v σ5 H5 F5 own5 (unt S5) (unr r5)
    | bk ŝ' => rw [hbo] at k; exact fun σ5 H5 F5 own5 S5 f5 => k σ5 H5 F5 own5 (unt S5) f5
    | ct ŝ' => rw [hbo] at k; exact fun σ5 H5 F5 own5 S5 f5 => k σ5 H5 F5 own5 (unt S5) f5
    | stuck => rw [hbo] at k; exact k.elim
    | exn x ŝ' =>
      rw [hbo] at k
      simp only at k
      intro σ2 F2 H2 own2 cls dd S2' rx
      have S2 := unt S2'
      have f02 : Same F F2 := S2'.inv.2
      have ecl := rx.1
      subst ecl
      cases hc : cat x.cls with
      | none => rw [hc] at k; exact k.elim
      | some z =>
        rw [hc] at k
        cases z with
        | false => exact ⟨false, hca _ _ hc, fun h => (nomatch h), fun _ => k σ2 F2 H2 own2 _ dd S2 rx⟩
        | true =>
          refine ⟨true, hca _ _ hc, fun _ a ha => ?_, fun h => (nomatch h)⟩
          have hl2 : i < σ2.length := by rw [E.len _ _ S2.inv, hNE]; exact hil
          have S3 := S2.drop (hE.ne hio)
          have S4 : StR X.K (suiE E X.K i x a (.ref (He.ga X.K x.cls)) dd) F2 (ŝ'.set i none) (σ2.set i (some (.ref a))) H2 (fun j => if j = i then [] else own2 j) := by
            refine ⟨S3.post, by rw [S3.len]; simp, fun j s e => ?_, S3.sep, S3.dis, S3.ios, (hE.ne hio).P _ _ _ S2.inv, by rw [List.getElem?_set_self hl2], rx⟩
            obtain ⟨v, hv, r⟩ := S3.sl j s e
            by_cases hj : j = i
            · subst hj
              obtain ⟨_, e2⟩ := get_set_eq e
              cases e2
            · exact ⟨v, by rw [List.getElem?_set_ne (Ne.symm hj)]; exact hv, r⟩
          refine ⟨x, rfl, _, rfl, ŝ'.set i none, F2, _, S4, ?_⟩
          have k : SOutP X.K E W D F (dropS i (su x (ŝ'.set i none))) := k
          have back : ∀ {ŝ5 : AS} {σ5 : L2.St} {H5 F5 : Hp} {own5 : Own}, StR X.K (suiE E X.K i x a (.ref (He.ga X.K x.cls)) dd) F5 ŝ5 σ5 H5 own5 → StR X.K E F5 (ŝ5.set i none) (σ5.set i none) H5 (fun j => if j = i then [] else own5 j) := fun {ŝ5 σ5 H5 F5 own5} S5 => by
            have S6 : StR X.K E F5 ŝ5 σ5 H5 own5 := ⟨S5.post, S5.len, S5.sl, S5.sep, S5.dis, S5.ios, S5.inv.1⟩
            have S7 := S6.drop (hE.ne hio)
            refine S7.weak (by simp [S5.len]) (fun j s e => ⟨e, ?_⟩) ((hE.ne hio).P _ _ _ S5.inv.1)
            have hj : j ≠ i := fun z => by
              subst z
              obtain ⟨_, e2⟩ := get_set_eq e
              cases e2
            rw [List.getElem?_set_ne (Ne.symm hj)]
          cases hso : su x (ŝ'.set i none) with
          | nx ŝ5 => rw [hso] at k; exact fun σ5 H5 F5 own5 S5 f5 => k _ H5 F5 _ (back S5) (f02.trans f5)
          | bk ŝ5 => rw [hso] at k; exact fun σ5 H5 F5 own5 S5 f5 => k _ H5 F5 _ (back S5) (f02.trans f5)
          | ct ŝ5 => rw [hso] at k; exact fun σ5 H5 F5 own5 S5 f5 => k _ H5 F5 _ (back S5) (f02.trans f5)
          | stuck => rw [hso] at k; exact k.elim
          | exn y ŝ5 => rw [hso] at k; exact k.elim
          | rt r ŝ5 =>
            rw [hso] at k
            intro v σ5 H5 F5 own5 S5 r5
            refine k v _ H5 F5 _ (back S5) ?_
            cases r with
            | fz d => exact r5
            | ow xs =>
              obtain ⟨b, us, rfl, M⟩ := r5
              refine ⟨b, us, rfl, M.hF, M.hH, M.h0, fun j m => ?_, M.r⟩
              by_cases hj : j = i
              · simp [hj] at m
              · simp only [if_neg hj] at m
                exact M.ho j m
end
end FL

set_option maxHeartbeats 4000000
/-! FLS: an own exception class over ValueError, own classes between, whose __init__(self, f) says super().__init__(f'..{f}..') and self.f = f. -/
namespace FL
open PySem PySem.Spec PySem.Calls PyProof.Rows PySem.W PySem.HandSPX
/-- the text of __init__ -/
def xiA (f : Str) (p1 p2 : Pos) : Arguments := { posonlyargs := [], args := [{ arg := "self", annotation := none, pos := p1 }, { arg := f, annotation := none, pos := p2 }], vararg := none, kwonlyargs := [], kw_defaults := [], kwarg := none, defaults := [] }
structure XPos where
  p1 : Pos
  p2 : Pos
  p3 : Pos
  p4 : Pos
  p5 : Pos
  p6 : Pos
  p7 : Pos
  p8 : Pos
  p9 : Pos
  p10 : Pos
  p11 : Pos
  p12 : Pos
  p13 : Pos
  p14 : Pos
  j1 : Nat
  j2 : Nat
def xiF (u1 u2 f : Str) (P : XPos) : Expr := .JoinedStr [.Constant (.str u1) P.j1 P.p1, .FormattedValue (.Name f P.p2) (-1) none P.p3, .Constant (.str u2) P.j2 P.p4] P.p5
def xiB (u1 u2 f : Str) (P : XPos) : List Stmt := [.Expr (.Call (.Attribute (.Call (.Name "super" P.p6) [] [] P.p7) "__init__" P.p8) [xiF u1 u2 f P] [] P.p9) P.p10, .Assign [.Attribute (.Name "self" P.p11) f P.p12] (.Name f P.p13) P.p14]
def xiS (f : Str) : Scope := { kind := .function, names := [("self", .local), (f, .local), ("__class__", .free), ("super", .globalImplicit)], isGenerator := false, isCoroutine := false, more := [] }
structure SupTxt (prog : Program) (K : Frag) (mg : Str → Option Value) (x f u1 u2 qual : Str) (P : XPos) (C fI : Addr) : Prop where
  gC : mg x = some (.ref C)
  cls : ∃ nm q N bs bm sn sub ab col dd k0 k1 k2 k3 k5, K.lookup C = some (excClassObj nm q C N bs bm true sn sub ab col dd k0 k1 k2 k3 k5 "ValueError.__new__") ∧ refsVE bm = true
  sa : findIn K (.ref C) "__setattr__" = some (some (.builtin "object.__setattr__"))
  noN : findIn K (.ref C) f = some none
  iC : findIn K (.ref C) "__init__" = some (some (.ref fI))
  tC : typeIn K (.ref fI) = some (.type "function")
  kC : keepIn K (.ref C) = true
  exC : subIn K (.ref C) (.type "BaseException") = some true
  tyC : typeIn K (.ref C) = some (.type "type")
  vE : subIn K (.ref C) (.type "ValueError") = some true
  mC : mroIn K C (.ref C) = some true
  sup : ks_superIn K C C "__init__" = some (some (.builtin "ValueError.__init__"))
  nos : mg "super" = none
  th : nsIn K cStatics "thirdparty.any" = some none
  top : (prog.main.scope.names.lookup ("super" : Str)).isSome = false
  fn : ∃ (oc : Value) (od : Option Addr) (doc pm : Value) (an : Option Addr) (cda cc : Addr) (ct : Value) (osl : Array (Option Value)) (p1 p2 : Pos),
    K.lookup fI = some ⟨oc, od, .func (ksFn "__init__" qual (xiA f p1 p2) (xiB u1 u2 f P) (xiS f) .none .none doc pm an (.ref cda) ct cc), osl⟩ ∧ codeIn K (.ref cda) qual = true ∧
    (∃ ccl cdd vs ccs file tf, K.lookup cda = some ⟨ccl, cdd, .fields vs, ccs⟩ ∧ vs[2]? = some (.str file tf) ∧ ((prog.main.file : Str) == file) = true) ∧ ∃ cl cld csl, K.lookup cc = some ⟨cl, cld, .cell (some (.ref C)), csl⟩
/-- the call of super().__init__ as the model unfolds it; by rfl -/
def XEv (f u1 u2 qual : Str) (P : XPos) : Prop := ∀ (L fI : Addr) (cdv : Value) (cc : Addr), ∃ pl : Sem Bool,
  eval (.Call (.Attribute (.Call (.Name "super" P.p6) [] [] P.p7) "__init__" P.p8) [xiF u1 u2 f P] [] P.p9) (ksEnv qual (xiS f) L fI cdv cc) = (do
    let ov ← attributeBase (.Call (.Name "super" P.p6) [] [] P.p7) "__init__" (ksEnv qual (xiS f) L fI cdv cc) (eval (.Call (.Name "super" P.p6) [] [] P.p7) (ksEnv qual (xiS f) L fI cdv cc))
    standAt P.p8.atName
    let (fv, first) ← holding [ov] (getMethod ov "__init__" pl)
    callWith P.p9 fv first (backTo P.p9 (starEach [xiF u1 u2 f P] (ksEnv qual (xiS f) L fI cdv cc))) [])
/-- what the field's name must keep; all by rfl -/
structure XLk (f : Str) : Prop where
  ks : (xiS f).names.lookup ("super" : Str) = some .globalImplicit
  kc : (xiS f).names.lookup ("__class__" : Str) = some .free
  kself : (xiS f).names.lookup ("self" : Str) = some .local
  kf : (xiS f).names.lookup f = some .local
  nd : (f == ("__debug__" : Str)) = false
  ne : f ≠ "self"
section
variable {prog : Program} {w : World} {A : Around} {E : Value → Shared → Prop} {R : Result → Shared → Prop} {s : Shared} {K : Frag} {mg : Str → Option Value} {x f u1 u2 qual : Str} {P : XPos} {C fI : Addr}
/-- the bound wrapper, called -/
theorem call_mw {u e t0 : Addr} {rest : List Value} {Q : Value → Shared → Prop} {nm q : Str} {N : Addr} {bs bm sub : List Value} {sn : List Str} {ab : Bool} {col : Option Bool} {dd : Option Addr} {k0 k1 k2 k3 k5 : Option Value}
    (hC : s.heap.get? C = some (excClassObj nm q C N bs bm true sn sub ab col dd k0 k1 k2 k3 k5 "ValueError.__new__")) (hb : refsVE bm = true) (he : s.heap.get? e = some (excO C t0)) (hu : s.heap.get? u = some (kxs_mw "ValueError.__init__" e)) (hrest : rest.length ≤ sizeLine)
    (hq : ∀ h' t1, (∀ b o, b ≠ e → s.heap.get? b = some o → h'.get? b = some o) → h'.get? e = some (excO C t1) → Q .none { s with heap := h' }) :
    wpAny (model prog w) A (call (.ref u) rest) Q E s := by
  obtain ⟨hh, g, d, t, os⟩ := s
  refine wpAny_call (codeAny_of_tree ?_)
  show wpAny _ A.in1 (callAny (.ref u) ⟨rest, []⟩) _ _ _
  simp only [callAny]
  refine wpAny_bind (wpAny_load hu ?_)
  simp only [kxs_mw, show (Value.type "method-wrapper" == Value.type "method" || Value.type "method-wrapper" == Value.type "builtin_function_or_method" || Value.type "method-wrapper" == Value.type "method-wrapper") = true by decide, if_true]
  refine KFB.if_so (by decide) ?_
  refine wpAny_bind (check_bound_init F.excBase_ValueError.toExcCallFacts hC he rfl ?_)
  refine wpAny_bind (wpAny_pure (wpAny_pure ?_))
  refine ⟨plainId_quiet F.excBase_ValueError.init.plain _, ?_⟩
  exact codeAny_builtin F.excBase_ValueError.initEntry (exc_init_tree (cls := .ref C) (t0 := t0) (dv := none) (c2 := .none) (c3 := .none) (b4 := .bool false) he hrest fun h' k e' t' => hq h' _ k e')
/-- what __init__ leaves of a fresh exception at x -/
structure XEnd (f : Str) (h h' : Heap) (x C dx t1 : Addr) (v : Value) : Prop where
  keep : ∀ b o, b ≠ x → h.get? b = some o → h'.get? b = some o
  obj : h'.get? x = some { cls := .ref C, dict := some dx, data := .fields #[.ref t1, .none, .none, .none, .bool false, .none] }
  dbig : h.objs.size ≤ dx
  dne : dx ≠ x
  ns : h'.Ns1 dx (fun y => if y = f then some v else none)
theorem x_init (T : SupTxt prog K mg x f u1 u2 qual P C fI) (L : XLk f) (hu : u1.length + u2.length ≤ 1000) {e t0 : Addr} {i : Int} {tv : Tok} (hi : i.natAbs.log2 < 1920) (X : K.In s.heap) (hlim : s.heap.NoLimit) (hx : s.heap.get? e = some (excO C t0)) (hnx : K.lookup e = none) (hroom : A.depth < recursionLimit)
    (hG : s.heap.Ns mainGlobals mg) (hB : ∃ mb, s.heap.Ns builtinsNs mb ∧ mb "super" = some (.type "super"))
    (hev : XEv f u1 u2 qual P) (hbind : ∀ {s : Shared} {p1 p2 : Pos} {doc pm cdv ct : Value} {an : Option Addr} {cc : Addr} {a b : Value}, BindsTo s (ksFn "__init__" qual (xiA f p1 p2) (xiB u1 u2 f P) (xiS f) .none .none doc pm an cdv ct cc) ⟨[a, b], []⟩ [("self", a), (f, b)])
    (hq : ∀ h' tk dx t1, XEnd f s.heap h' e C dx t1 (.int i tv) → R (.ok (.ret .none)) { s with heap := h', toks := tk }) :
    codeAny (model prog w) A (.call (.ref fI) ⟨[.ref e, .int i tv], []⟩) R s := by
  obtain ⟨oc, od, doc, pm, an, cda, cc, ct, osl, p1, p2, ho, hcd, ⟨ccl, cdd, vs, ccs, file, tf, hco, hvs, hfile⟩, cl, cld, csl, hcc⟩ := T.fn
  obtain ⟨nm, q, N, bs, bm, sn, sub, ab, col, dd, k0, k1, k2, k3, k5, hC, hbm⟩ := T.cls
  have hcl : clsIn K C = some { name := nm, bases := bs, mro := .ref C :: bm, ns := N, qualname := q, hasDict := true, slotNames := sn, subclasses := sub, abstract := ab, collection := col, hasDel := false } := by unfold clsIn; rw [hC] <;> rfl
  refine ks_codeAny_call_defAt (fd := ksFn "__init__" qual (xiA f p1 p2) (xiB u1 u2 f P) (xiS f) .none .none doc pm an (.ref cda) ct cc) (body := xiB u1 u2 f P) (binds := [("self", .ref e), (f, .int i tv)])
    hroom (X _ _ ho) rfl hlim (codeRec_of X hcd) rfl hbind (fun y hy => ?_) (fun y hy => ?_) (fun h₁ hns hk₁ => ?_)
  · simp only [xiS, List.mem_cons, List.not_mem_nil, or_false] at hy
    rcases hy with rfl | rfl | rfl | rfl <;> simp
  · simp only [List.mem_cons, List.not_mem_nil, or_false] at hy
    rcases hy with rfl | rfl
    · exact L.kself
    · exact L.kf
  have eL : e ≠ s.heap.objs.size := Nat.ne_of_lt (Heap.lt_size hx)
  have X₁ : K.In h₁ := X.keeps hk₁
  have hx₁ := hk₁ _ _ hx
  generalize hm : (fun y => ([("self", .ref e), (f, .int i tv)] : List (Str × Value)).reverse.lookup y) = m at hns
  have nes : (("self" : Str) == f) = false := by simpa using (Ne.symm L.ne)
  have m1 : m "self" = some (.ref e) := by rw [← hm]; simp [List.lookup, nes]
  have m2 : m f = some (.int i tv) := by rw [← hm]; simp [List.lookup]
  obtain ⟨mb, hB1, hB2⟩ := hB
  have hk0 : (callEnv (ksFn "__init__" qual (xiA f p1 p2) (xiB u1 u2 f P) (xiS f) .none .none doc pm an (.ref cda) ct cc) s.heap.objs.size fI).scope.kind = .function := rfl
  -- super().__init__(..)
  obtain ⟨pl, hev⟩ := hev s.heap.objs.size fI (.ref cda) cc
  refine ks_wpAt_execs_cons (ks_wpAt_Expr_any (ks_wpAt_MethodCall (args := [xiF u1 u2 f P]) (apos := P.p8) (he := hev) ?_))
  refine ks_wpAt_super_base (f := fI) (cc := cda) (fd := ksFn "__init__" qual (xiA f p1 p2) (xiB u1 u2 f P) (xiS f) .none .none doc pm an (.ref cda) ct cc) (ar := { arg := "self", annotation := none, pos := p1 }) L.ks L.kc (by decide) rfl (X₁ _ _ ho) rfl rfl rfl (X₁ _ _ hco) rfl hvs hfile T.top ?_
  refine ks_loadName_global rfl L.ks (loadGlobal_builtin (hG.keeps hk₁) T.nos (hB1.keeps hk₁) hB2 ⟨rfl, ?_⟩)
  refine wpAny_loadName_free rfl L.kc rfl ⟨_, X₁ _ _ hcc, rfl⟩ ?_
  refine wpAny_loadName_local rfl L.kself hns m1 ?_
  refine ks_wpAny_isType_cls (X₁ _ _ hC) rfl ⟨rfl, ?_⟩
  refine ks_wpAny_call_super (X₁ _ _ hC) rfl hx₁ rfl (fun c => by intro z; cases z) (looks_mroIn X₁ T.mC) (fun h₂ eso hk₂ => ?_)
  have X₂ : K.In h₂ := X₁.keeps hk₂
  have hx₂ := hk₂ _ _ hx₁
  have I₂ : InstAt h₂ e (excO C t0) C none := ⟨hx₂, rfl, rfl, trivial⟩
  have hsup := T.sup
  unfold ks_superIn at hsup
  rw [hcl] at hsup
  refine kxs_getMethod kxs_ValueError eso (looks_opaque X₂ T.th) (l₀ := .ref C :: bm) (fun A Q E s k q => wpAny_bind ((looks_clsIn X₂ hcl) A _ E s k (wpAny_pure q))) rfl X₂ hsup (I₂.type.andThen (looks_subIn X₂ T.vE)) (ks_ne X₂ I₂ hcl) (by decide) ?_
  have hk₃ : ∀ b o, h₂.get? b = some o → (h₂.push (kxs_mw "ValueError.__init__" e)).get? b = some o := fun b o z => Heap.get?_push_of_some _ z
  have hmw : (h₂.push (kxs_mw "ValueError.__init__" e)).get? h₂.objs.size = some (kxs_mw "ValueError.__init__" e) := Heap.get?_push_at rfl rfl
  have hx₃ := hk₃ _ _ hx₂
  have X₃ := X₂.keeps hk₃
  have hns₃ : (h₂.push (kxs_mw "ValueError.__init__" e)).Ns s.heap.objs.size m := (hns.keeps hk₂).keeps hk₃
  generalize hh3 : h₂.push (kxs_mw "ValueError.__init__" e) = h₃ at hk₃ hmw hx₃ X₃ hns₃
  show wpAny _ _ (callWith P.p9 (.ref h₂.objs.size) [] (backTo P.p9 (starEach [xiF u1 u2 f P] (ksEnv qual (xiS f) s.heap.objs.size fI (.ref cda) cc))) []) _ _ _
  refine kxs_callWith (i := "ValueError.__init__") (x := e) rfl (evalArgs_plain ?_)
  show wpAny _ _ (spliced ((false, eval (xiF u1 u2 f P) (ksEnv qual (xiS f) s.heap.objs.size fI (.ref cda) cc)) :: backTo P.p9 (starEach [] (ksEnv qual (xiS f) s.heap.objs.size fI (.ref cda) cc)))) _ _ _
  refine Calls.spliced_cons ?_
  have lu1 : u1.length ≤ sizeLine := by rw [sizeLine_eq]; omega
  have li : (Str.ofString (toString i)).length ≤ 1921 := by
    have := int_text_length_le (k := 1920) (by decide) hi
    rw [PySem.ofString_length]
    exact this
  have la : ∀ x y : Str, (x ++ y).length = x.length + y.length := fun x y => by
    show (x.cps ++ y.cps).size = _
    rw [Array.size_append]
    rfl
  have l0 : Str.empty.length = 0 := rfl
  refine wpAny_JoinedStr ?_
  show wpAny _ _ _ _ _ _
  refine Calls.Constant_str ⟨_, _, rfl, by rw [sizeLine_eq]; simp only [la, l0]; omega, ?_⟩
  show wpAny _ _ _ _ _ _
  refine wpAny_FormattedValue_plain (wpAny_Name (wpAny_loadName_local rfl L.kf hns₃ m2 ?_) L.nd)
  refine wpAny_formatField_int hi ⟨_, _, rfl, by rw [sizeLine_eq]; simp only [la, l0]; omega, ?_⟩
  show wpAny _ _ _ _ _ _
  refine Calls.Constant_str ⟨_, _, rfl, by rw [sizeLine_eq]; simp only [la, l0]; omega, ?_⟩
  refine ⟨by rw [sizeLine_eq]; simp only [la, l0]; omega, ?_⟩
  refine Calls.spliced_nil ⟨hmw, ?_⟩
  refine call_mw (N := N) (X₃ _ _ hC) hbm hx₃ hmw (by rw [sizeLine_eq]; exact (by decide : 1 ≤ 16777216)) fun h₄ t1 hk₄ hx₄ => ?_
  have hk13 : ∀ b o, b ≠ e → h₁.get? b = some o → h₄.get? b = some o := fun b o hb z => hk₄ b o hb (hk₃ _ _ (hk₂ _ _ z))
  have X₄ : K.In h₄ := fun b o z => hk₄ b o (fun y => by rw [y, hnx] at z; cases z) (X₃ b o z)
  have hns₄ : h₄.Ns s.heap.objs.size m := by
    obtain ⟨oL, es, ep, hL, r⟩ := hns₃
    exact ⟨oL, es, ep, hk₄ _ _ (Ne.symm eL) hL, r⟩
  -- self.f = f
  refine wpAt_of_wpAny (wpAny_execs_cons (plainObj_wpAny_Assign_Attribute ?_))
  refine wpAny_Name (wpAny_loadName_local rfl L.kf hns₄ m2 ?_) L.nd
  refine wpAny_Name (wpAny_loadName_local rfl L.kself hns₄ m1 ?_) (by decide)
  refine set_plain X₄ (ox := excO C t1) (od := none) ⟨hx₄, rfl, rfl, trivial⟩ T.sa ?_
  refine exc_osa X₄ hx₄ hcl (show refsVE (.ref C :: bm) = true from hbm) rfl T.noN (fun h₅ tk₅ dx k₅ dn dne hx₅ hn₅ => ?_)
  show wpAny _ _ (execs _ _) _ _ _
  refine wpAny_execs_nil (hq h₅ tk₅ dx t1 ⟨fun b o hb z => k₅ b o hb (hk13 b o hb (hk₁ b o z)), hx₅, ?_, dne, hn₅⟩)
  exact Nat.le_trans (Nat.le_of_lt hns₄.lt) dn
/-- a made exception -/
structure XMade (f : Str) (h h' : Heap) (e C d : Addr) (v : Value) : Prop where
  keep : ∀ b o, h.get? b = some o → h'.get? b = some o
  new : h.objs.size ≤ e
  obj : ∃ oe vs, h'.get? e = some oe ∧ oe.cls = .ref C ∧ oe.dict = some d ∧ oe.data = .fields vs ∧ vs[1]? = some .none
  dbig : h.objs.size ≤ d
  dne : d ≠ e
  ns : h'.Ns1 d (fun y => if y = f then some v else none)
theorem x_made (T : SupTxt prog K mg x f u1 u2 qual P C fI) (L : XLk f) (hu : u1.length + u2.length ≤ 1000) {i : Int} {tv : Tok} (hi : i.natAbs.log2 < 1920) (X : K.In s.heap) (hlim : s.heap.NoLimit) (hroom : A.depth + 1 < recursionLimit)
    (hG : s.heap.Ns mainGlobals mg) (hB : ∃ mb, s.heap.Ns builtinsNs mb ∧ mb "super" = some (.type "super")) (hev : XEv f u1 u2 qual P)
    (hbind : ∀ {s : Shared} {p1 p2 : Pos} {doc pm cdv ct : Value} {an : Option Addr} {cc : Addr} {a b : Value}, BindsTo s (ksFn "__init__" qual (xiA f p1 p2) (xiB u1 u2 f P) (xiS f) .none .none doc pm an cdv ct cc) ⟨[a, b], []⟩ [("self", a), (f, b)])
    (hq : ∀ h' tk e d, XMade f s.heap h' e C d (.int i tv) → R (.ok (.ret (.ref e))) { s with heap := h', toks := tk }) :
    codeAny (model prog w) A (.call (.ref C) ⟨[.int i tv], []⟩) R s := by
  obtain ⟨nm, q, N, bs, bm, sn, sub, ab, col, dd, k0, k1, k2, k3, k5, hC, hbm⟩ := T.cls
  obtain ⟨hp, g, dr, tk, os⟩ := s
  generalize hh : (hp.push (kdv_tup [.int i tv])).push (excO C hp.objs.size) = h₀
  have k : ∀ b o, hp.get? b = some o → h₀.get? b = some o := fun b o z => by
    rw [← hh]
    exact Heap.get?_push_of_some _ (Heap.get?_push_of_some _ z)
  have hget : h₀.get? (hp.objs.size + 1) = some (excO C hp.objs.size) := by
    rw [← hh]
    heap_get
  have hsz : h₀.objs.size = hp.objs.size + 1 + 1 := by
    rw [← hh, Heap.size_push, Heap.size_push]
  have hnx : K.lookup (hp.objs.size + 1) = none := by
    cases z : K.lookup (hp.objs.size + 1) with
    | none => rfl
    | some o =>
      have z : hp.get? (hp.objs.size + 1) = some o := X _ _ z
      exact absurd (Nat.lt_of_succ_lt (Heap.lt_size z)) (Nat.lt_irrefl _)
  refine call_own F.excBase_ValueError (fun Y => refsVE_contains Y bm hbm) (X _ _ hC) (looks_findIn X T.iC) (fun self => bind_fn X self T.tC) (by rw [sizeLine_eq]; exact (by decide : 1 ≤ 16777216)) ?_
  rw [hh]
  obtain ⟨mb, hB1, hB2⟩ := hB
  refine x_init (s := ⟨h₀, g, dr, tk, os⟩) T L hu hi (X.keeps k) (hlim.keeps k) hget hnx hroom (hG.keeps k) ⟨mb, hB1.keeps k, hB2⟩ hev hbind fun h' tk' dx t1 ⟨k', hx, dn, dne, hns⟩ => ?_
  have old : ∀ b o, hp.get? b = some o → h'.get? b = some o := fun b o z => k' b o (Nat.ne_of_lt (Nat.lt_succ_of_lt (Heap.lt_size z))) (k b o z)
  have dn' : h₀.objs.size ≤ dx := dn
  rw [hsz] at dn'
  exact ⟨rfl, hq h' tk' (hp.objs.size + 1) dx ⟨old, Nat.le_succ _, ⟨_, _, hx, rfl, rfl, rfl, rfl⟩, Nat.le_trans (Nat.le_trans (Nat.le_succ _) (Nat.le_succ _)) dn', dne, hns⟩⟩
end
end FL
namespace FL
open PySem PySem.Spec PyProof.Rows L2
theorem relO_one {v : V} {u : Value} (f : Str) (r : RelV v u) (g : Str) : RelO (List.lookup g [(f, v)]) (if g = f then some u else none) := by
  by_cases h : g = f
  · subst h
    rw [if_pos rfl]
    have e : List.lookup g [(g, v)] = some v := by simp [List.lookup]
    rw [e]
    exact r
  · rw [if_neg h]
    have e1 : (g == f) = false := by simpa using h
    have e2 : List.lookup g [(f, v)] = none := by simp [List.lookup, e1]
    rw [e2]
    trivial
/-- all that a raise of such a class asks -/
structure SupOk (prog : Program) (K : Fr) (mg : Str → Option Value) (x f : Str) : Prop where
  ex : ∃ (u1 u2 qual : Str) (P : XPos) (fI : Addr), SupTxt prog K mg x f u1 u2 qual P (He.ga K x) fI ∧ XLk f ∧ u1.length + u2.length ≤ 1000 ∧ XEv f u1 u2 qual P ∧
    ∀ {s : Shared} {p1 p2 : Pos} {doc pm cdv ct : Value} {an : Option Addr} {cc : Addr} {a b : Value}, BindsTo s (PySem.W.ksFn "__init__" qual (xiA f p1 p2) (xiB u1 u2 f P) (xiS f) .none .none doc pm an cdv ct cc) ⟨[a, b], []⟩ [("self", a), (f, b)]
section
variable {X : Cx} {E : Ent} {W : WX} {e a : Expr} {pos p p2 : Pos} {K : Fr} {k : Nat} {x f : Str}
def tMkX (C : Addr) (f : Str) (ta : TA) : L2.St → Hp → XK → Prop := fun σ H Q => ta σ H fun vs H1 => ∃ i : Int, vs = [.int i] ∧ i.natAbs.log2 < 1920 ∧ ∀ d, H1 d = none → Q (.ref C) (some d) (L2.upd H1 d (.xd [(f, .int i)]))
theorem pmk_sup {ta : TA} (T : SupOk X.prog X.K X.mg x f) (hr : Room k X.A) (hk : 1 ≤ k) (ha : PA X [a] ta) (hg : Gl X x) (hdb : (x == ("__debug__" : Str)) = false)
    (he : starEach (a :: []) X.env = (false, eval a X.env) :: starEach [] X.env) (hpl : (backTo pos (starEach [] X.env)).any (·.1) = false) : PMk X (.Call (.Name x p) [a] [] pos) (tMkX (He.ga X.K x) f ta) := by
  obtain ⟨u1, u2, qual, P, fI, T, L, hu, hev, hbind⟩ := T.ex
  intro pins s σ H Q I h
  refine wpAny_Call_Name_kw (ld_glob I hg T.gC ?_ hdb)
  refine PySem.W.callWith_K (h₀ := X.base) I.ok.mod.kin T.kC (thn (ha.run pos pins s σ H _ I h) fun us s1 hh => ?_) he hpl
  obtain ⟨vs, H1, I1, r1, i, ev, hi, q1⟩ := hh
  subst ev
  refine ⟨I1.kIn, ?_⟩
  obtain ⟨u, rfl, t, rfl⟩ := vals1 r1
  show wpAny _ _ (call (.ref (He.ga X.K x)) [.int i t]) _ _ _
  have hlim := I1.nolimit
  obtain ⟨mb, h1, h2⟩ := I1.mod.blt
  have hG := I1.mod.glob.keeps I1.bk
  have hB := h1.keeps I1.bk
  obtain ⟨hp, g, dr, tk, os⟩ := s1
  refine wpAny_call (x_made T L hu hi I1.kIn hlim (by have := hr.dp; omega) hG ⟨mb, hB, (h2 _ (by decide)).trans PyProof.Rows.Boot.«super»⟩ hev hbind fun h' tk' ex d M => ?_)
  show MkP X pins σ Q (.ref ex) ⟨h', g, dr, tk', os⟩
  obtain ⟨oe, fv, hoe, hc, hd, hdat, h1'⟩ := M.obj
  have hns := M.ns
  obtain ⟨G', g1, g2⟩ := restrict h' fun b => decide (b ≠ ex)
  have gk : ∀ b, b ≠ ex → G'.get? b = h'.get? b := fun b hb => g1 b (decide_eq_true hb)
  have ge : G'.get? ex = none := g2 ex (by simp)
  have old : ∀ b o, hp.get? b = some o → G'.get? b = some o := fun b o q => (gk b (Nat.ne_of_lt (Nat.lt_of_lt_of_le (Heap.lt_size q) M.new))).trans (M.keep b o q)
  have ob : ObjOk X.prog X.w (L2.upd H1 d (.xd [(f, .int i)])) G' d (.xd [(f, .int i)]) := ⟨_, hns.at (fun o q => (gk d M.dne).trans q), relO_one f ⟨t, rfl⟩⟩
  have J : Inv X pins σ (L2.upd H1 d (.xd [(f, .int i)])) ⟨G', g, dr, tk', os⟩ := I1.laid (t' := tk') old M.dbig ob
  refine ⟨ex, oe, fv, ⟨G', g, dr, tk', os⟩, _, .ref (He.ga X.K x), some d, rfl, J, fun b o q => ?_, ge, hoe, ⟨hc, hd⟩, hdat, h1', ?_, rfl, I1.bare, raises_own T.exC T.tyC, q1 d (I1.hok.fresh M.dbig)⟩
  · by_cases hb : b = ex
    · have q' : G'.get? b = some o := q
      rw [hb, ge] at q'
      cases q'
    · exact (gk b hb).symm.trans q
  · rw [upd_ne (Ne.symm M.dne)]
    exact I1.hok.fresh M.new
def sRaiseX (cls f : Str) (c : IC) : SC := fun ŝ => (c ŝ).st fun d ŝ => match d with
  | .int i => if i.natAbs.log2 < 1920 then .exn ⟨cls, [f], [.int i]⟩ ŝ else .stuck
  | _ => .stuck
theorem js_raiseX {c : IC} (f : Str) (C : Ctx X W k) (T : SupOk X.prog X.K X.mg x f) (ha : JF X E W a c) (hk : 1 ≤ k := by decide) (hg : Gl X x := by rfl) (hdb : (x == ("__debug__" : Str)) = false := by decide)
    (he : starEach (a :: []) X.env = (false, eval a X.env) :: starEach [] X.env := by rfl) (hpl : (backTo p2 (starEach [] X.env)).any (·.1) = false := by rfl) : JS X E W (.Raise (some (.Call (.Name x p) [a] [] p2)) none pos) (sRaiseX x f c) :=
  PS_imp (ps_raise C.calm C.tk (pmk_sup T C.room hk (pa_cons ha pa_nil he) hg hdb he hpl)) fun D σ H ⟨ŝ, F, own, S, k⟩ => ⟨ŝ, F, own, S, k.st.imp fun d ŝ1 q v H1 F1 own1 S1 f1 r => by
    cases d <;> first | (exact q.elim) | skip
    rename_i i
    simp only at q
    split at q
    · rename_i hi
      simp only [Rep] at r
      subst r
      refine ⟨i, rfl, hi, fun dd hdd => ?_⟩
      have P := Post.alloc (o := HO.xd [(f, .int i)]) S1.fh hdd
      exact q σ _ _ own1 _ (some dd) (S1.grow P) ⟨rfl, .inr ⟨dd, [.int i], rfl, by simp, upd_same, rfl, Reps.cons (by simp only [Rep]) Reps.nil⟩⟩
    · exact q.elim⟩
end
end FL

set_option maxHeartbeats 4000000
/-! FL11: what an except suite asks of its error. -/
namespace FL
open PySem PySem.Spec PyProof.Rows L2
section
variable {X : Cx} {E : Ent} {W : WX} {e b : Expr} {es : List Expr} {pos p p2 cp ep apos : Pos} {K : Fr} {k i : Nat} {y f : Str} {a : Addr} {oe : Obj} {d : Option Addr} {pn : List (Addr × Obj)} {x : Exn}
theorem call_isX {Dc : Addr} (T : XIs X.K Dc) (hz : Zc (.ref Dc) d oe) (hf : ∃ vs, oe.data = .fields vs) (hdo : ∀ {s : Shared} {σ : L2.St} {H : Hp} {pins : List (Addr × Obj)}, Inv (X.suite a ((a, oe) :: pn)) pins σ H s → ∀ dd, d = some dd → (∃ fs, H dd = some (.xd fs)) → ∃ o, s.heap.get? dd = some o) :
    CallR (X.suite a ((a, oe) :: pn)) (.builtin "isinstance") (fun xs H Q => ∃ (c : V) (cv : Value) (z : Bool), xs = [.ref a, c] ∧ (∀ u, RelV c u → u = cv) ∧ PySem.W.kitOne X.K (.ref Dc) cv = some z ∧ (∀ dd, d = some dd → ∃ fs, H dd = some (.xd fs)) ∧ Q (.bl z) H) := by
  intro pins s σ H xs us Q I r h
  obtain ⟨c, cv, z, rfl, hcv, e, hd, q⟩ := h
  obtain ⟨u1, u2, rfl, r1, r2⟩ := vals2 r
  cases (show u1 = Value.ref a from r1)
  have ec := hcv _ r2
  subst ec
  obtain ⟨hget, _⟩ := I.pin (a, oe) (List.mem_append.mpr (.inl List.mem_cons_self))
  obtain ⟨vs, hv⟩ := hf
  have J : ∃ od, PySem.W.InstAt s.heap a oe Dc od := by
    cases hd2 : d with
    | none => exact ⟨none, hget, hz.1, by unfold PySem.W.notCls; rw [hv], by rw [hz.2, hd2]; trivial⟩
    | some dd =>
      obtain ⟨o, ho⟩ := hdo I dd hd2 (hd dd hd2)
      exact ⟨some o, hget, hz.1, by unfold PySem.W.notCls; rw [hv], by rw [hz.2, hd2]; exact ho⟩
  exact PySem.W.kia_one (kit_exc T) I.kIn J e (fun z => nomatch z) fun tk => ⟨.bl z, H, I.kept (t' := tk) fun _ _ z => z, rfl, q⟩
/-- isinstance(e, C) in the suite -/
def iIsE (isE : Str → Option Bool) (x : Exn) : IC := fun ŝ => (Res.opt ((isE x.cls).map .bl)).out ŝ
theorem xd_there {X : Cx} {pins : List (Addr × Obj)} {σ : L2.St} {H : Hp} {s : Shared} {dd : Addr} {fs : List (Str × V)} (I : Inv X pins σ H s) (h : H dd = some (.xd fs)) : ∃ o, s.heap.get? dd = some o := by
  have hx : ObjOk X.prog X.w H s.heap dd (.xd fs) := I.hok dd _ h
  obtain ⟨mA, hns, _⟩ := hx
  obtain ⟨o, es, ep, ho, _⟩ := hns
  exact ⟨o, ho⟩
theorem jF_isE {C : Str} {isE : Str → Option Bool} (hz : Zc (.ref (He.ga X.K x.cls)) d oe) (hf : ∃ vs, oe.data = .fields vs) (his : ∀ cl z, isE cl = some z → XIs X.K (He.ga X.K cl) ∧ PySem.W.kitOne X.K (.ref (He.ga X.K cl)) (.ref (He.ga X.K C)) = some z) (hmC : X.mg C = some (.ref (He.ga X.K C))) (hm : X.mg "isinstance" = none)
    (hgC : Gl X C := by rfl) (hg : Gl X "isinstance" := by rfl) (hdC : (C == ("__debug__" : Str)) = false := by decide) (hN : X.N[i]? = some y := by rfl) (hv : Vis X.env.scope y := by first | exact Or.inl rfl | exact Or.inr (Or.inl rfl) | exact Or.inr (Or.inr rfl)) (hd : (y == ("__debug__" : Str)) = false := by decide)
    (hcd : (y == ("__classdict__" : Str)) = false := by decide)
    (hs : starEach [.Name y ep, .Name C cp] X.env = (false, eval (.Name y ep) X.env) :: starEach [.Name C cp] X.env := by rfl) (hs2 : starEach (.Name C cp :: []) X.env = (false, eval (.Name C cp) X.env) :: starEach [] X.env := by rfl) (hpl : (backTo pos (starEach [.Name C cp] X.env)).any (·.1) = false := by rfl) :
    JF (X.suite a ((a, oe) :: pn)) (suiE E X.K i x a (.ref (He.ga X.K x.cls)) d) WNo (.Call (.Name "isinstance" p) [.Name y ep, .Name C cp] [] pos) (iIsE isE x) := by
  cases hr : isE x.cls with
  | none =>
    refine ⟨fun pins s σ H Q I ⟨ŝ, F, own, S, k⟩ => ?_⟩
    unfold iIsE at k
    rw [hr] at k
    exact k.elim
  | some z =>
    obtain ⟨T, hk⟩ := his _ _ hr
    refine PE_imp (pe_callB (X := X.suite a ((a, oe) :: pn)) (call_isX (X := X) T hz hf fun {s σ H pins} I dd e1 ⟨fs, e2⟩ => xd_there I e2) hg hm PyProof.Rows.Boot.«isinstance» (pa_cons (pe_var hN hv hd hcd) (pa_cons (pe_glob (v := .ref (He.ga X.K C)) hgC hmC rfl hdC) pa_nil hs2) hs) (by decide) (by decide) hs hpl) fun σ H Q ⟨ŝ, F, own, S, k⟩ => ?_
    unfold iIsE at k
    rw [hr] at k
    obtain ⟨_, h1, h2, h3⟩ := S.inv
    refine ⟨.ref a, h1, .ref (He.ga X.K C), _, z, rfl, fun u r => r, hk, fun dd e => ?_, k _ H F own S (Same.refl _) (bl_rep _)⟩
    subst e
    rcases h3 with ⟨_, h3⟩ | ⟨d', vs, e1, _, e3, _⟩
    · cases h3
    · cases e1
      exact ⟨_, S.fh _ _ e3⟩
/-- e.f in the suite -/
def iXf (C f : Str) (x : Exn) : IC := fun ŝ => if x.cls = C then (Res.opt ((x.ns.zip x.ds).lookup f)).out ŝ else .stuck
theorem zip_lookup {F : Hp} {f : Str} : ∀ {ns : List Str} {ds : List D} {vs : List V} {dt : D}, Reps K F ds vs → (ns.zip ds).lookup f = some dt → ∃ v, (ns.zip vs).lookup f = some v ∧ Rep K F dt v
  | [], ds, vs, dt, r, h => by simp at h
  | n :: ns, [], vs, dt, r, h => by simp at h
  | n :: ns, d :: ds, vs, dt, r, h => by
    simp only [Reps] at r
    obtain ⟨v, us, rfl, r1, r2⟩ := r
    simp only [List.zip_cons_cons, List.lookup_cons] at h ⊢
    cases hc : (f == n) with
    | true =>
      rw [hc] at h
      cases h
      exact ⟨v, rfl, r1⟩
    | false =>
      rw [hc] at h
      exact zip_lookup r2 h
theorem jF_xf (C : Str) (T : XfC X.K (He.ga X.K C)) (hno : PySem.W.findIn X.K (.ref (He.ga X.K C)) f = some none) (hz : Zc (.ref (He.ga X.K x.cls)) d oe) (hf : ∃ vs, oe.data = .fields vs)
    (hN : X.N[i]? = some y := by rfl) (hv : Vis X.env.scope y := by first | exact Or.inl rfl | exact Or.inr (Or.inl rfl) | exact Or.inr (Or.inr rfl)) (hd : (y == ("__debug__" : Str)) = false := by decide)
    (hcd : (y == ("__classdict__" : Str)) = false := by decide) (hb : attributeBase (.Name y ep) f X.env (eval (.Name y ep) X.env) = eval (.Name y ep) X.env := by rfl) :
    JF (X.suite a ((a, oe) :: pn)) (suiE E X.K i x a (.ref (He.ga X.K x.cls)) d) WNo (.Attribute (.Name y ep) f pos) (iXf C f x) :=
  PE_imp (pe_xf T hno hz hf (pe_var (X := X.suite a ((a, oe) :: pn)) hN hv hd hcd) hb) fun σ H Q ⟨ŝ, F, own, S, k⟩ => by
    unfold iXf at k
    split at k
    · rename_i hc
      obtain ⟨_, h1, h2, h3⟩ := S.inv
      obtain ⟨dt, hl, q⟩ := (OutP.res k).opt
      rcases h3 with ⟨h4, h3⟩ | ⟨d', vs, e1, _, e3, e4, e5⟩
      · rw [h4] at hl
        simp at hl
      · obtain ⟨v, hv, rv⟩ := zip_lookup e5 hl
        exact ⟨.ref a, h1, rfl, by rw [hc], d', _, v, e1, S.fh _ _ e3, hv, q v H F own S (Same.refl _) rv⟩
    · exact k.elim
end
end FL

set_option maxHeartbeats 4000000
/-! FL12: calls with arguments of any kind; a def made ready for calls. -/
namespace FL
open PySem PySem.Spec PyProof.Rows L2
section
variable {X : Cx} {E : Ent} {W : WX} {e a b : Expr} {es : List Expr} {pos p py : Pos} {j k n : Nat} {x y : Str} {m : FM} {cs : IL}
/-- f(..): the arguments frozen, the answer frozen -/
def iCallA (n : Nat) (m : FM) (cs : IL) : IC := fun ŝ => (cs ŝ).bind fun ds ŝ => (pCallR n m ds).out ŝ
theorem jF_callA (f : Cal X.prog X.w X.K X.mg X.base j x n [] m) (C : Ctx X W k) (ha : JA X E W (e :: es) cs) (hj : j ≤ k := by decide) (hg : Gl X x := by rfl) (hdb : (x == ("__debug__" : Str)) = false := by decide)
    (he : starEach (e :: es) X.env = (false, eval e X.env) :: starEach es X.env := by rfl) (hpl : (backTo pos (starEach es X.env)).any (·.1) = false := by rfl) : JF X E W (.Call (.Name x p) (e :: es) [] pos) (iCallA n m cs) := by
  obtain ⟨f, fd, ps, hps, hf, hm, hk, hb⟩ := f.ex
  exact PE_imp (pe_callS hf (C.room.mono hj) hg hm hk hb (fun σ => passAt C.tk σ) ha hdb he hpl) fun σ H Q ⟨ŝ, F, own, S, k⟩ => ⟨ŝ, F, own, S, k.bind.imp fun ds ŝ1 q vs H1 F1 own1 S1 f1 r1 =>
    call_fz S1 (Post.refl S1.fh) r1 (q.res.imp fun d q v F' H' P r => q v H' F' own1 (S1.grow P) (f1.trans P.FF) r)⟩
/-- .., the answer a new list -/
def iCallAN (n : Nat) (m : FM) (cs : IL) : IL := fun ŝ => (cs ŝ).bind fun ds ŝ => (pCallRN n m ds).out ŝ
theorem jN_callA (f : Cal X.prog X.w X.K X.mg X.base j x n [] m) (C : Ctx X W k) (ha : JA X E W (e :: es) cs) (hj : j ≤ k := by decide) (hg : Gl X x := by rfl) (hdb : (x == ("__debug__" : Str)) = false := by decide)
    (he : starEach (e :: es) X.env = (false, eval e X.env) :: starEach es X.env := by rfl) (hpl : (backTo pos (starEach es X.env)).any (·.1) = false := by rfl) : JN X E W (.Call (.Name x p) (e :: es) [] pos) (iCallAN n m cs) := by
  obtain ⟨f, fd, ps, hps, hf, hm, hk, hb⟩ := f.ex
  exact PE_imp (pe_callS hf (C.room.mono hj) hg hm hk hb (fun σ => passAt C.tk σ) ha hdb he hpl) fun σ H Q ⟨ŝ, F, own, S, k⟩ => ⟨ŝ, F, own, S, k.bind.imp fun ds ŝ1 q vs H1 F1 own1 S1 f1 r1 =>
    call_ow S1 (Post.refl S1.fh) r1 (q.res.imp fun xs q a us F' H' P ha hf hh r => q a us H' F' own1 (S1.grow P) (f1.trans P.FF) (mine_of S1 P ha hf hh r))⟩
/-- f(x, ..), x a list of one's own that f changes; the answer a new list -/
def iCallRN (n : Nat) (m : FM) (i : Nat) (ds : List D) (ŝ : AS) : Out (List D) := match get ŝ i with
  | some (.ow xs) => if ds.length + 1 = n then (match m (.ow xs :: ds.map .fz) with
    | .rt (.ow zs) [.ow ys] => .ok zs (ŝ.set i (some (.ow ys)))
    | .exn x [.ow ys] => .exn x (ŝ.set i (some (.ow ys)))
    | _ => .stuck) else .stuck
  | _ => .stuck
def iCallN (n : Nat) (m : FM) (i : Nat) (cs : IL) : IL := fun ŝ => match get ŝ i with
  | some (.ow _) => (cs ŝ).bind fun ds ŝ => iCallRN n m i ds ŝ
  | _ => .stuck
theorem jN_call (f : Cal X.prog X.w X.K X.mg X.base j x n [0] m) (C : Ctx X W k) (i : Nat) (ha : JA X E W es cs) (hN : X.N[i]? = some y := by rfl) (hv : Vis X.env.scope y := by first | exact Or.inl rfl | exact Or.inr (Or.inl rfl) | exact Or.inr (Or.inr rfl)) (hd : (y == ("__debug__" : Str)) = false := by decide)
    (hcd : (y == ("__classdict__" : Str)) = false := by decide) (hj : j ≤ k := by decide) (hg : Gl X x := by rfl) (hdb : (x == ("__debug__" : Str)) = false := by decide)
    (he : starEach (.Name y py :: es) X.env = (false, eval (.Name y py) X.env) :: starEach es X.env := by rfl) (hpl : (backTo pos (starEach es X.env)).any (·.1) = false := by rfl) : JN X E W (.Call (.Name x p) (.Name y py :: es) [] pos) (iCallN n m i cs) := by
  obtain ⟨f, fd, ps, hps, hf, hm, hk, hb⟩ := f.ex
  refine PE_imp (pe_callS hf (C.room.mono hj) hg hm hk hb (fun σ => passAt C.tk σ) (pa_cons (pe_var hN hv hd hcd) ha he) hdb he hpl) fun σ H Q ⟨ŝ, F, own, S, k⟩ => ?_
  unfold iCallN at k
  split at k
  · rename_i xs0 e0
    obtain ⟨a, vs0, hσ, ho0, hh0, _, _⟩ := S.ow e0
    refine ⟨.ref a, hσ, ŝ, F, own, S, k.bind.imp fun ds ŝ1 q vs H1 F1 own1 S1 ff r1 => ?_⟩
    unfold iCallRN at q
    split at q
    · rename_i xs e
      obtain ⟨a1, us, hσ1, ho, hh, rr, hF⟩ := S1.ow e
      rw [hσ] at hσ1
      cases hσ1
      split at q
      · rename_i hn
        refine ⟨F1, .ow xs :: ds.map .fz, [(0, a)], by simp [r1.len, hn], rfl, ⟨S1.fh, by simp [r1.len], by simp, by simp, fun t s es ht => ?_, fun p hp => ?_⟩, ?_⟩
        · cases t with
          | zero => exact absurd (by simp) ht
          | succ t =>
            rw [List.getElem?_cons_succ, List.getElem?_map] at es
            cases q2 : ds[t]? with
            | none => rw [q2] at es; cases es
            | some d =>
              rw [q2] at es
              cases es
              obtain ⟨v, hv, rv⟩ := r1.get q2
              exact ⟨v, by simpa using hv, rfl, rv⟩
        · obtain rfl : p = (0, a) := by simpa using hp
          exact ⟨.ow xs, .ref a, rfl, rfl, ⟨a, us, rfl, rfl, hh, rr⟩, hF, _, hh⟩
        · split at q
          · rename_i zs ys e2
            rw [e2]
            refine fun v F' H' P o rv => ?_
            obtain ⟨s, r, e3, q3, hf3, e4⟩ := o
            cases e3
            have S2 := S1.io ho (lt_of_get e) hσ P q3 hf3
            obtain ⟨b, ws, rfl, M⟩ := retV_mine S1 S2 P rv
            exact q b ws H' F' own1 S2 (ff.trans P.FF) M
          · rename_i x ys e2
            rw [e2]
            refine fun cls dd F' H' P o rx => ?_
            obtain ⟨s, r, e3, q3, hf3, e4⟩ := o
            cases e3
            exact q F' H' own1 cls dd (S1.io ho (lt_of_get e) hσ P q3 hf3) rx
          · exact q.elim
      · exact q.elim
    · exact q.elim
  · exact k.elim
end
section
variable {P : Program} {w : World} {K : Fr} {mg : Str → Option Value} {base : Heap}
theorem cal_of {x qual : Str} {params : Arguments} {body : List Stmt} {scope : Scope} {N ps : List Str} {k : Nat} {ios : List Nat} {b : SC} (Fn : ∃ fd, FunD K x qual params body scope [] [] (He.ga K x) fd) (S : FnScope N ps scope) (hg : mg x = some (.ref (He.ga K x)))
    (hbd : ∀ fd, FunD K x qual params body scope [] [] (He.ga K x) fd → L2.Binds K fd ps [])
    (hb : ∀ (f : Addr) (cdv : Value) (A : Around) (outer : List Env) (s : Shared) (H : Hp) (Ex : XK) (E : Ent) (W : WX), Ctx (cxOf (L2.CX P w) P w K mg base N qual scope f cdv A outer s H Ex) W k → Ios E (inL ios) → E.n = N.length → JSs (cxOf (L2.CX P w) P w K mg base N qual scope f cdv A outer s H Ex) E W body b)
    (hp : ps.length ≤ N.length := by decide) : Cal P w K mg base (k + 1) x ps.length ios (runB N.length ios b) := by
  obtain ⟨fd, F⟩ := Fn
  exact ⟨_, fd, ps, rfl, fn_ok F S hp fun cdv A outer s H Ex E W C hE hn => hb _ cdv A outer s H Ex E W C hE hn, hg, F.kp, hbd fd F⟩
end
end FL

set_option maxHeartbeats 4000000
/-! FL13: comparisons by name. -/
namespace FL
open PySem PySem.Spec PyProof.Rows L2
section
variable {X : Cx} {E : Ent} {W : WX} {a b c : Expr} {pos : Pos} {k : Nat} {c1 c2 c3 : IC}
theorem r_leS {K : Fr} : ROp K (fun x y H Q => ∃ i j, x = .str i ∧ y = .str j ∧ Q (.bl (!decide (j.cps.toList < i.cps.toList))) H) (oS fun x y => !decide (y < x)) := by
  intro a b d F H v u Q e s ra rb q
  cases a <;> cases b <;> simp [oS] at e
  subst e
  simp only [Rep] at ra rb; subst ra; subst rb
  exact ⟨_, _, rfl, rfl, flat_q q s (by simp only [Rep]; simp)⟩
theorem r_inS {K : Fr} : ROp K (fun x y H Q => ∃ c j, x = .str ⟨#[c]⟩ ∧ y = .str j ∧ Q (.bl (decide (c ∈ j.cps.toList))) H) (oInS fun z => z) := by
  intro a b d F H v u Q e s ra rb q
  cases a <;> cases b <;> simp only [oInS, reduceCtorEq] at e
  split at e
  · rename_i c hc
    cases e
    simp only [Rep] at ra rb; subst ra; subst rb
    exact ⟨c, _, by rw [one_sign hc], rfl, flat_q q s (by simp only [Rep])⟩
  · cases e
theorem r_ninS {K : Fr} : ROp K (fun x y H Q => ∃ c j, x = .str ⟨#[c]⟩ ∧ y = .str j ∧ Q (.bl (!decide (c ∈ j.cps.toList))) H) (oInS fun z => !z) := by
  intro a b d F H v u Q e s ra rb q
  cases a <;> cases b <;> simp only [oInS, reduceCtorEq] at e
  split at e
  · rename_i c hc
    cases e
    simp only [Rep] at ra rb; subst ra; subst rb
    exact ⟨c, _, by rw [one_sign hc], rfl, flat_q q s (by simp only [Rep])⟩
  · cases e
theorem r_inL {K : Fr} : ROp K (rInD K) (oInL fun z => z) := by
  intro a b d F H v u Q e s ra rb q
  obtain ⟨x, ys, ds, e1, rfl, e2, d1, d2, rfl⟩ := oInL_of e
  exact ⟨x, ds, toPy_dp a v x e1 ra, toPy_dp _ u _ (toPy_lst e2) rb, shaped_of e1 d1, shaped_of (toPy_lst e2) d2, flat_q q s (by simp only [Rep])⟩
theorem r_ninL {K : Fr} : ROp K (rNotInD K) (oInL fun z => !z) := by
  intro a b d F H v u Q e s ra rb q
  obtain ⟨x, ys, ds, e1, rfl, e2, d1, d2, rfl⟩ := oInL_of e
  exact ⟨x, ds, toPy_dp a v x e1 ra, toPy_dp _ u _ (toPy_lst e2) rb, shaped_of e1 d1, shaped_of (toPy_lst e2) d2, flat_q q s (by simp only [Rep])⟩
theorem r_inT {K : Fr} : ROp K (rIn K false) (oInT fun z => z) := by
  intro a b d F H v u Q e s ra rb q
  obtain ⟨x, ys, vs, e1, rfl, e2, rfl⟩ := oInT_of e
  obtain ⟨rfl, f1⟩ := flV_rep e1 ra
  simp only [Rep] at rb
  obtain ⟨p, us, rfl, h1, h2⟩ := rb
  obtain ⟨rfl, f2⟩ := flVs_rep e2 h2
  exact ⟨p, us, rfl, .inr h1, f1, f2, flat_q q s (by simp only [Rep]; simp)⟩
theorem r_ninT {K : Fr} : ROp K (rIn K true) (oInT fun z => !z) := by
  intro a b d F H v u Q e s ra rb q
  obtain ⟨x, ys, vs, e1, rfl, e2, rfl⟩ := oInT_of e
  obtain ⟨rfl, f1⟩ := flV_rep e1 ra
  simp only [Rep] at rb
  obtain ⟨p, us, rfl, h1, h2⟩ := rb
  obtain ⟨rfl, f2⟩ := flVs_rep e2 h2
  exact ⟨p, us, rfl, .inr h1, f1, f2, flat_q q s (by simp only [Rep]; simp)⟩
theorem jF_eq (C : Ctx X W k) (h1 : JF X E W a c1) (h2 : JF X E W b c2) : JF X E W (.Compare a [.Eq] [b] pos) (iBin oEq c1 c2) := jF_cmp (op_eqD (by have := C.hu; omega)) r_eq h1 h2 (nomark _)
theorem jT_eq (C : Ctx X W k) (h1 : JF X E W a c1) (h2 : JF X E W b c2) : JT X E W (.Compare a [.Eq] [b] pos) (iBl (iBin oEq c1 c2)) := jT_cmp (op_eqD (by have := C.hu; omega)) r_eq h1 h2 (nomark _)
theorem jF_ne (C : Ctx X W k) (h1 : JF X E W a c1) (h2 : JF X E W b c2) : JF X E W (.Compare a [.NotEq] [b] pos) (iBin oNe c1 c2) := jF_cmp (op_neD (by have := C.hu; omega)) r_ne h1 h2 (nomark _)
theorem jT_ne (C : Ctx X W k) (h1 : JF X E W a c1) (h2 : JF X E W b c2) : JT X E W (.Compare a [.NotEq] [b] pos) (iBl (iBin oNe c1 c2)) := jT_cmp (op_neD (by have := C.hu; omega)) r_ne h1 h2 (nomark _)
theorem jF_lt (h1 : JF X E W a c1) (h2 : JF X E W b c2) : JF X E W (.Compare a [.Lt] [b] pos) (iBin oLt c1 c2) := jF_cmp op_lt (r_oI _) h1 h2 (nomark _)
theorem jT_lt (h1 : JF X E W a c1) (h2 : JF X E W b c2) : JT X E W (.Compare a [.Lt] [b] pos) (iBl (iBin oLt c1 c2)) := jT_cmp op_lt (r_oI _) h1 h2 (nomark _)
theorem jF_le (h1 : JF X E W a c1) (h2 : JF X E W b c2) : JF X E W (.Compare a [.LtE] [b] pos) (iBin oLe c1 c2) := jF_cmp op_le (r_oI _) h1 h2 (nomark _)
theorem jT_le (h1 : JF X E W a c1) (h2 : JF X E W b c2) : JT X E W (.Compare a [.LtE] [b] pos) (iBl (iBin oLe c1 c2)) := jT_cmp op_le (r_oI _) h1 h2 (nomark _)
theorem jF_gt (h1 : JF X E W a c1) (h2 : JF X E W b c2) : JF X E W (.Compare a [.Gt] [b] pos) (iBin oGt c1 c2) := jF_cmp op_gt (r_oI _) h1 h2 (nomark _)
theorem jT_gt (h1 : JF X E W a c1) (h2 : JF X E W b c2) : JT X E W (.Compare a [.Gt] [b] pos) (iBl (iBin oGt c1 c2)) := jT_cmp op_gt (r_oI _) h1 h2 (nomark _)
theorem jF_ge (h1 : JF X E W a c1) (h2 : JF X E W b c2) : JF X E W (.Compare a [.GtE] [b] pos) (iBin oGe c1 c2) := jF_cmp op_ge (r_oI _) h1 h2 (nomark _)
theorem jT_ge (h1 : JF X E W a c1) (h2 : JF X E W b c2) : JT X E W (.Compare a [.GtE] [b] pos) (iBl (iBin oGe c1 c2)) := jT_cmp op_ge (r_oI _) h1 h2 (nomark _)
theorem jF_leS (h1 : JF X E W a c1) (h2 : JF X E W b c2) : JF X E W (.Compare a [.LtE] [b] pos) (iBin (oS fun x y => !decide (y < x)) c1 c2) := jF_cmp op_le_str r_leS h1 h2 (nomark _)
theorem jT_leS (h1 : JF X E W a c1) (h2 : JF X E W b c2) : JT X E W (.Compare a [.LtE] [b] pos) (iBl (iBin (oS fun x y => !decide (y < x)) c1 c2)) := jT_cmp op_le_str r_leS h1 h2 (nomark _)
theorem jF_inS (h1 : JF X E W a c1) (h2 : JF X E W b c2) (hm : behindInMarks .In b = false := by rfl) : JF X E W (.Compare a [.In] [b] pos) (iBin (oInS fun z => z) c1 c2) := jF_cmp op_in_sign r_inS h1 h2 hm
theorem jT_inS (h1 : JF X E W a c1) (h2 : JF X E W b c2) (hm : behindInMarks .In b = false := by rfl) : JT X E W (.Compare a [.In] [b] pos) (iBl (iBin (oInS fun z => z) c1 c2)) := jT_cmp op_in_sign r_inS h1 h2 hm
theorem jF_ninS (h1 : JF X E W a c1) (h2 : JF X E W b c2) (hm : behindInMarks .NotIn b = false := by rfl) : JF X E W (.Compare a [.NotIn] [b] pos) (iBin (oInS fun z => !z) c1 c2) := jF_cmp op_notIn_sign r_ninS h1 h2 hm
theorem jT_ninS (h1 : JF X E W a c1) (h2 : JF X E W b c2) (hm : behindInMarks .NotIn b = false := by rfl) : JT X E W (.Compare a [.NotIn] [b] pos) (iBl (iBin (oInS fun z => !z) c1 c2)) := jT_cmp op_notIn_sign r_ninS h1 h2 hm
theorem jF_inL (C : Ctx X W k) (h1 : JF X E W a c1) (h2 : JF X E W b c2) (hm : behindInMarks .In b = false := by rfl) : JF X E W (.Compare a [.In] [b] pos) (iBin (oInL fun z => z) c1 c2) := jF_cmp (op_inD C.hu) r_inL h1 h2 hm
theorem jT_inL (C : Ctx X W k) (h1 : JF X E W a c1) (h2 : JF X E W b c2) (hm : behindInMarks .In b = false := by rfl) : JT X E W (.Compare a [.In] [b] pos) (iBl (iBin (oInL fun z => z) c1 c2)) := jT_cmp (op_inD C.hu) r_inL h1 h2 hm
theorem jF_ninL (C : Ctx X W k) (h1 : JF X E W a c1) (h2 : JF X E W b c2) (hm : behindInMarks .NotIn b = false := by rfl) : JF X E W (.Compare a [.NotIn] [b] pos) (iBin (oInL fun z => !z) c1 c2) := jF_cmp (op_notInD C.hu) r_ninL h1 h2 hm
theorem jT_ninL (C : Ctx X W k) (h1 : JF X E W a c1) (h2 : JF X E W b c2) (hm : behindInMarks .NotIn b = false := by rfl) : JT X E W (.Compare a [.NotIn] [b] pos) (iBl (iBin (oInL fun z => !z) c1 c2)) := jT_cmp (op_notInD C.hu) r_ninL h1 h2 hm
theorem jF_inT (h1 : JF X E W a c1) (h2 : JF X E W b c2) (hm : behindInMarks .In b = false := by rfl) : JF X E W (.Compare a [.In] [b] pos) (iBin (oInT fun z => z) c1 c2) := jF_cmp op_in_seq r_inT h1 h2 hm
theorem jT_inT (h1 : JF X E W a c1) (h2 : JF X E W b c2) (hm : behindInMarks .In b = false := by rfl) : JT X E W (.Compare a [.In] [b] pos) (iBl (iBin (oInT fun z => z) c1 c2)) := jT_cmp op_in_seq r_inT h1 h2 hm
theorem jF_ninT (h1 : JF X E W a c1) (h2 : JF X E W b c2) (hm : behindInMarks .NotIn b = false := by rfl) : JF X E W (.Compare a [.NotIn] [b] pos) (iBin (oInT fun z => !z) c1 c2) := jF_cmp op_notIn_seq r_ninT h1 h2 hm
theorem jT_ninT (h1 : JF X E W a c1) (h2 : JF X E W b c2) (hm : behindInMarks .NotIn b = false := by rfl) : JT X E W (.Compare a [.NotIn] [b] pos) (iBl (iBin (oInT fun z => !z) c1 c2)) := jT_cmp op_notIn_seq r_ninT h1 h2 hm
/-- frozen operands -/
theorem jF_opF {op : Operator} {r : R2} {f : D → D → Option D} (ho : OpR X (binaryOp op) r) (hr : ROpF X.K r f) (h1 : JF X E W a c1) (h2 : JF X E W b c2) : JF X E W (.BinOp a op b pos) (iBin f c1 c2) :=
  PE_imp (pe_op ho h1 h2) fun σ H Q ⟨ŝ, F, own, S, k⟩ => by
    refine ⟨ŝ, F, own, S, k.bind.imp fun a ŝ1 ka v H1 F1 own1 S1 f1 r1 => ⟨ŝ1, F1, own1, S1, ka.bind.imp fun b ŝ2 kb u H2 F2 own2 S2 f2 r2 => ?_⟩⟩
    obtain ⟨d, hf, q⟩ := (OutP.res kb).opt
    exact hr hf S2.fh (r1.mono f2) r2 fun z F3 H3 P3 rz => q z H3 F3 own2 (S2.grow P3) ((f1.trans f2).trans P3.FF) rz
def oNeg : D → Option D
  | .int i => some (.int (-i))
  | _ => none
theorem jF_neg (h : JF X E W a c1) : JF X E W (.UnaryOp .USub a pos) (iUn oNeg c1) := PE_imp (pe_un un_neg h) fun σ H Q ⟨ŝ, F, own, S, k⟩ => ⟨ŝ, F, own, S, k.bind.imp fun d ŝ1 q v H1 F1 own1 S1 f1 r => by
  obtain ⟨z, hf, q2⟩ := (OutP.res q).opt
  cases d <;> simp only [oNeg, reduceCtorEq] at hf
  cases hf
  simp only [Rep] at r
  subst r
  exact ⟨_, rfl, q2 _ H1 F1 own1 S1 f1 (by simp only [Rep])⟩⟩
theorem js_augAdd {e : Expr} {y : Str} {pos' : Pos} {ios : Nat → Bool} (i : Nat) (h : JF X E W e c1) (hn : X.N.Nodup) (hE : Ios E ios) (hio : ios i = false := by rfl) (hN : X.N[i]? = some y := by rfl) (hx : Loc X.env.scope y := by first | exact .inl rfl | exact .inr rfl)
    (hf : X.fn y = true ∨ X.env.scope.names.lookup y = some .local := by first | exact .inl rfl | exact .inr rfl | assumption) : JS X E W (.AugAssign (.Name y pos') .Add e pos) (sAug i (fun a b => match a, b with
      | .int i, .int j => some (.int (i + j))
      | _, _ => none) c1) :=
  js_aug i h iop_add (fun {a b d F H v u Q} e s ra rb q => by
    cases a <;> cases b <;> simp only [reduceCtorEq, Option.some.injEq] at e
    subst e
    simp only [Rep] at ra rb
    subst ra
    subst rb
    exact ⟨_, _, rfl, rfl, q _ (by simp only [Rep])⟩) hn hE hio hN hx hf
end
end FL
set_option maxHeartbeats 4000000
/-! FL14: short names for the printed programs. -/
namespace FL
open PySem PySem.Spec PyProof.Rows L2
def iC (d : D) : IC := fun ŝ => (pC d ŝ).out ŝ
def iVar (i : Nat) : IC := fun ŝ => (pVar i ŝ).out ŝ
def iLenO (i : Nat) : IC := fun ŝ => (pLenO (pOwn i) ŝ).out ŝ
def oAddI : D → D → Option D := fun a b => match a, b with
  | .int i, .int j => some (.int (i + j))
  | _, _ => none
end FL

set_option maxHeartbeats 4000000
/-! FLG: answer = f(text); if not same(answer, due): return False; for order in answer: for entry in order: if isinstance(entry, list): entry.append(7); answer.append(('back',)) -/
namespace FL
open PySem PySem.Spec PyProof.Rows L2
def okEnt : D → Bool
  | .non => true
  | .bl _ => true
  | .int _ => true
  | .str _ => true
  | .lst ws => decide (ws.length ≤ 1000)
  | _ => false
def okItem : D → Bool
  | .tup es => decide (es.length ≤ 1000) && es.all okEnt
  | _ => false
def sSpoil (ia io ie it ir : Nat) (m1 m2 : FM) (c : SC) : SC := fun ŝ => match get ŝ it, get ŝ ir with
  | some (.fz (.str t)), some (.fz d) => (match m1 [.fz (.str t)] with
    | .rt (.ow xs) _ => if xs.length ≤ 1000 ∧ xs.all okItem = true then (match m2 [.fz (.lst xs), .fz d] with
      | .rt (.fz (.bl true)) _ => c (((ŝ.set ia none).set io none).set ie none)
      | .rt (.fz (.bl false)) _ => .rt (.fz (.bl false)) (((ŝ.set ia none).set io none).set ie none)
      | _ => .stuck) else .stuck
    | _ => .stuck)
  | _, _ => .stuck
structure Sp (H0 F : Hp) (a : Addr) (vs : List V) (k : Nat) (H : Hp) : Prop where
  old : ∀ c o, H0 c = some o → H c = some o
  top : H a = some (.lst vs)
  fr : ∀ c o, F c = some o → H c = some o ∨ ∃ ws ws', o = .lst ws ∧ H c = some (.lst ws') ∧ ws'.length ≤ ws.length + k
section
variable {K : Fr} {H0 F H : Hp} {a c : Addr} {vs ws : List V} {k k' : Nat}
theorem Sp.mono (S : Sp H0 F a vs k H) (h : k ≤ k') : Sp H0 F a vs k' H := ⟨S.old, S.top, fun c o e => by
  rcases S.fr c o e with z | ⟨ws, ws', h1, h2, h3⟩
  · exact .inl z
  · exact .inr ⟨ws, ws', h1, h2, by omega⟩⟩
theorem Sp.at (S : Sp H0 F a vs k H) (e : F c = some (.lst ws)) : ∃ ws', H c = some (.lst ws') ∧ ws'.length ≤ ws.length + k := by
  rcases S.fr c _ e with z | ⟨u, ws', h1, h2, h3⟩
  · exact ⟨ws, z, by omega⟩
  · cases h1
    exact ⟨ws', h2, h3⟩
theorem Sp.app (S : Sp H0 F a vs k H) (e : F c = some (.lst ws)) (h0 : H0 c = none) (ha : F a = none) {ws' : List V} (hc : H c = some (.lst ws')) (hl : ws'.length ≤ ws.length + k) (x : V) : Sp H0 F a vs (k + 1) (L2.upd H c (.lst (ws' ++ [x]))) := by
  refine ⟨fun d o ed => ?_, ?_, fun d o ed => ?_⟩
  · rw [upd_ne (ne_of_none ed h0)]
    exact S.old d o ed
  · have ne : a ≠ c := fun z => by rw [z, e] at ha; cases ha
    rw [upd_ne ne]
    exact S.top
  · by_cases hd : d = c
    · subst hd
      rw [e] at ed
      cases ed
      exact .inr ⟨ws, ws' ++ [x], rfl, upd_same, by simp; omega⟩
    · rw [upd_ne hd]
      exact (S.mono (Nat.le_succ k)).fr d o ed
theorem Sp.sqT (S : Sp H0 F a vs k H) {b : Addr} {us : List V} (h : SqT K F b us) : SqT K H b us := by
  rcases h with (h | ⟨o, h⟩) | h
  · rcases S.fr b _ h with z | ⟨_, _, z, _⟩
    · exact .inl (.inl z)
    · cases z
  · rcases S.fr b _ h with z | ⟨_, _, z, _⟩
    · exact .inl (.inr ⟨o, z⟩)
    · cases z
  · exact .inr h
/-- the slots but for three -/
def But3 (x y z : Nat) (σ σ' : L2.St) : Prop := σ'.length = σ.length ∧ ∀ j, j ≠ x → j ≠ y → j ≠ z → σ'[j]? = σ[j]?
theorem But3.set {x y z i : Nat} {σ σ' : L2.St} (h : But3 x y z σ σ') (v : Option V) (hi : i = x ∨ i = y ∨ i = z) : But3 x y z σ (σ'.set i v) :=
  ⟨by rw [List.length_set]; exact h.1, fun j h1 h2 h3 => by
    have ne : i ≠ j := by rcases hi with e | e | e <;> (subst e; first | exact Ne.symm h1 | exact Ne.symm h2 | exact Ne.symm h3)
    rw [List.getElem?_set_ne ne]
    exact h.2 j h1 h2 h3⟩
theorem But3.P {E : Ent} {x y z : Nat} {σ σ' : L2.St} (h : But3 x y z σ σ') (h1 : Free E x) (h2 : Free E y) (h3 : Free E z) (p : E.P σ F) : E.P σ' F := by
  have e : σ' = ((σ.set x ((σ'[x]?).getD none)).set y ((σ'[y]?).getD none)).set z ((σ'[z]?).getD none) := by
    refine List.ext_getElem? fun j => ?_
    by_cases hj : j < σ.length
    · have hj' : j < σ'.length := by rw [h.1]; exact hj
      by_cases hz : j = z
      · subst hz
        rw [List.getElem?_set_self (by simpa using hj), List.getElem?_eq_getElem hj']
        rfl
      · rw [List.getElem?_set_ne (Ne.symm hz)]
        by_cases hy : j = y
        · subst hy
          rw [List.getElem?_set_self (by simpa using hj), List.getElem?_eq_getElem hj']
          rfl
        · rw [List.getElem?_set_ne (Ne.symm hy)]
          by_cases hx : j = x
          · subst hx
            rw [List.getElem?_set_self hj, List.getElem?_eq_getElem hj']
            rfl
          · rw [List.getElem?_set_ne (Ne.symm hx)]
            exact h.2 j hx hy hz
    · rw [List.getElem?_eq_none (by rw [h.1]; omega), List.getElem?_eq_none (by simp; omega)]
  rw [e]
  exact h3.P _ _ _ (h2.P _ _ _ (h1.P _ _ _ p))
end
section
variable {X : Cx} {E : Ent} {W : WX} {ia io ie it ir : Nat} {m1 m2 : FM} {c : SC} {st1 st2 st3 st4 : Stmt} {rest : List Stmt}
theorem js_spoil (p1 : PS X st1 (tAsg (tCallS (spF X.K 1 [] m1) (WE W) (tCons (tVar it) tNil)) (gName ia))) (p2 : PS X st2 (tIfS (tNot (tB (tCallS (spF X.K 2 [] m2) (WE W) (tCons (tVar ia) (tCons (tVar ir) tNil))))) (tRet (tC (.bl false))) tNext))
    (p3 : PS X st3 (tFor (L2.iList X.K (tVar ia)) (gName io) (tFor (L2.iTup X.K (tVar io)) (gName ie) (tIfS (tB (tCB (rIsi X.K) (tCons (tVar ie) (tCons (tC (.ty "list")) tNil)))) (tDrop (tBM X.K "list" rAppend (tVar ie) (tCons (tC (.int 7)) tNil))) tNext))))
    (p4 : PS X st4 (tDrop (tBM X.K "list" rAppend (tVar ia) (tCons (tTup (tCons (tC (.str "back")) tNil)) tNil)))) (hr : JSs X E W rest c)
    (fa : Free E ia) (fo : Free E io) (fe : Free E ie) (hne : ia ≠ io ∧ ia ≠ ie ∧ io ≠ ie ∧ it ≠ ia ∧ ir ≠ ia) (hlt : ∀ σ F, E.P σ F → ia < σ.length ∧ io < σ.length ∧ ie < σ.length) :
    JSs X E W (st1 :: st2 :: st3 :: st4 :: rest) (sSpoil ia io ie it ir m1 m2 c) :=
  PSs_imp (pss_cons p1 (pss_cons p2 (pss_cons p3 (pss_cons p4 hr)))) fun D σ H ⟨ŝ, F, own, S, k⟩ => by
    obtain ⟨n1, n2, n3, n4, n5⟩ := hne
    obtain ⟨la, lo, le⟩ := hlt _ _ S.inv
    unfold sSpoil at k
    split at k
    · rename_i t d e1 e2
      obtain ⟨v1, hv1, r1⟩ := S.sl _ _ (get_some e1)
      obtain ⟨v2, hv2, r2⟩ := S.sl _ _ (get_some e2)
      have r1 := r1.2
      have r2 := r2.2
      simp only [Rep] at r1
      subst r1
      refine ⟨.str t, hv1, ?_⟩
      refine ⟨fun _ => none, [.fz (.str t)], [], rfl, rfl, argR_fz (ds := [.str t]) (fun _ _ z => nomatch z) (Reps.cons (by simp only [Rep]) Reps.nil), ?_⟩
      split at k
      · rename_i xs o1 e3
        rw [e3]
        intro v F1 H1 P1 _ ⟨a, vs, ev, h0, hf, hh, rr⟩
        subst ev
        split at k
        · rename_i hok
          have hh1 : Same H H1 := P1.hh
          -- the second statement
          refine ⟨.ref a, by rw [List.getElem?_set_self la], v2, by rw [List.getElem?_set_ne (Ne.symm n5)]; exact hv2, ?_⟩
          have rA : Rep X.K H1 (.lst xs) (.ref a) := by
            simp only [Rep]
            exact ⟨a, vs, rfl, hh, rr.mono P1.FH⟩
          refine ⟨H1, [.fz (.lst xs), .fz d], [], rfl, rfl, argR_fz (ds := [.lst xs, d]) (Same.refl _) (Reps.cons rA (Reps.cons (r2.mono (S.fh.trans hh1)) Reps.nil)), ?_⟩
          have grow : ∀ {σ4 : L2.St} {H4 : Hp}, But3 ia io ie σ σ4 → (∀ c o, H c = some o → H4 c = some o) → ∃ own', StR X.K E F (((ŝ.set ia none).set io none).set ie none) σ4 H4 own' := fun {σ4 H4} hb hh4 => by
            have P4 : Post F H [] F H4 := ⟨fun b o q => hh4 b o (S.fh b o q), Same.refl _, fun _ _ q => .inl q, fun b o q _ => hh4 b o q⟩
            refine ⟨own, (S.grow P4).weak (by simp [S.len, hb.1]) (fun i s es => ?_) (hb.P fa fo fe S.inv)⟩
            by_cases h3 : i = ie
            · subst h3
              obtain ⟨_, z⟩ := get_set_eq es
              cases z
            · rw [List.getElem?_set_ne (Ne.symm h3)] at es
              by_cases h2 : i = io
              · subst h2
                obtain ⟨_, z⟩ := get_set_eq es
                cases z
              · rw [List.getElem?_set_ne (Ne.symm h2)] at es
                by_cases h1 : i = ia
                · subst h1
                  obtain ⟨_, z⟩ := get_set_eq es
                  cases z
                · rw [List.getElem?_set_ne (Ne.symm h1)] at es
                  exact ⟨es, hb.2 i h1 h2 h3⟩
          have b0 : But3 ia io ie σ (σ.set ia (some (.ref a))) := But3.set ⟨rfl, fun _ _ _ _ => rfl⟩ _ (.inl rfl)
          split at k
          · rename_i o4 e4
            rw [e4]
            intro v F2 H2 P2 _ rv
            have rv : Rep X.K F2 (.bl true) v := rv
            simp only [Rep] at rv
            subst rv
            refine ⟨true, rfl, ?_⟩
            have hh2 := P2.hh
            simp only [Bool.not_true, Bool.false_eq_true, if_false]
            -- the loops
            have S0 : Sp H F1 a vs 0 H2 := ⟨fun c o q => hh2 c o (hh1 c o q), hh2 _ _ hh, fun c o q => .inl (hh2 c o (P1.FH c o q))⟩
            have fresh : ∀ c o, F1 c = some o → H c = none := fun c o q => by
              rcases P1.new c o q with z | z
              · cases z
              · exact z
            have hxl : xs.length ≤ 1000 := hok.1
            have hvl : vs.length = xs.length := rr.len
            refine ⟨.ref a, by rw [List.getElem?_set_self la], a, rfl, ⟨vs, SqL.of S0.top⟩, ?_⟩
            refine for_it walk_list (fun i σ' H' => But3 ia io ie σ σ' ∧ σ'[ia]? = some (some (.ref a)) ∧ Sp H F1 a vs (i * 1000) H') ⟨b0, by rw [List.getElem?_set_self la], by simpa using S0⟩ (fun i σ' H' _ q => SqL.of q.2.2.top) (fun i x σ' H' H'' hi ⟨hb, ha, sp⟩ y => ?_) fun σ' H' ⟨hb, ha, sp⟩ => ?_
            · obtain ⟨rfl, hx⟩ := y
              have hi' : i < xs.length := by rw [← hvl]; exact hi
              obtain ⟨x', hx', rx⟩ := rr.get (List.getElem?_eq_getElem hi')
              rw [hx] at hx'
              cases hx'
              have oki := List.all_eq_true.mp hok.2 xs[i] (List.getElem_mem hi')
              cases hxi : xs[i] <;> rw [hxi] at oki rx <;> first | (cases oki; done) | skip
              rename_i es
              simp only [okItem, Bool.and_eq_true, decide_eq_true_eq] at oki
              simp only [Rep] at rx
              obtain ⟨b, us, rfl, hT, hus⟩ := rx
              have hul : us.length = es.length := hus.len
              have lo' : io < σ'.length := by rw [hb.1]; exact lo
              have le' : ie < σ'.length := by rw [hb.1]; exact le
              refine ⟨.ref b, by rw [List.getElem?_set_self lo'], b, rfl, ⟨us, sp.sqT hT⟩, ?_⟩
              refine for_it walk_tup (fun j σ2 H2' => But3 ia io ie σ σ2 ∧ σ2[ia]? = some (some (.ref a)) ∧ Sp H F1 a vs (i * 1000 + j) H2') ⟨hb.set _ (.inr (.inl rfl)), by rw [List.getElem?_set_ne (Ne.symm n1)]; exact ha, sp⟩ (fun j σ2 H2' _ q => q.2.2.sqT hT) (fun j u σ2 H3 H3' hj ⟨hb2, ha2, sp2⟩ y2 => ?_) fun σ2 H3 ⟨hb2, ha2, sp2⟩ => ⟨hb2, ha2, sp2.mono (by rw [hul]; have := oki.1; omega)⟩
              obtain ⟨rfl, hu⟩ := y2
              have hj' : j < es.length := by rw [← hul]; exact hj
              obtain ⟨u', hu', ru⟩ := hus.get (List.getElem?_eq_getElem hj')
              rw [hu] at hu'
              cases hu'
              have oke := List.all_eq_true.mp oki.2 es[j] (List.getElem_mem hj')
              have le2 : ie < σ2.length := by rw [hb2.1]; exact le
              have hb3 := hb2.set (some u) (.inr (.inr rfl) : ie = ia ∨ ie = io ∨ ie = ie)
              have ha3 : (σ2.set ie (some u))[ia]? = some (some (.ref a)) := by rw [List.getElem?_set_ne (Ne.symm n2)]; exact ha2
              refine ⟨u, by rw [List.getElem?_set_self le2], ?_⟩
              have no : ∀ (nm : String) {Q : VK}, TyX X.K H3' u (.type nm) → kitB nm "list" = some false → Q (.bl false) H3' → rIsi X.K [u, .ty "list"] H3' Q := fun nm Q ty kb q =>
                ⟨u, .ty "list", .type nm, .type "list", false, rfl, .ty "list", ty, kit_ty kb, q⟩
              simp only [tCons, tC, tNil]
              cases hej : es[j] <;> rw [hej] at oke ru <;> first | (cases oke; done) | skip
              · simp only [Rep] at ru; subst ru; refine no "NoneType" (.base .non) (by decide +kernel) ?_; refine ⟨false, rfl, ?_⟩; simp only [Bool.false_eq_true, if_false]; exact ⟨hb3, ha3, sp2.mono (by omega)⟩
              · simp only [Rep] at ru; subst ru; refine no "bool" (.base (.bl _)) (by decide +kernel) ?_; refine ⟨false, rfl, ?_⟩; simp only [Bool.false_eq_true, if_false]; exact ⟨hb3, ha3, sp2.mono (by omega)⟩
              · simp only [Rep] at ru; subst ru; refine no "int" (.base (.int _)) (by decide +kernel) ?_; refine ⟨false, rfl, ?_⟩; simp only [Bool.false_eq_true, if_false]; exact ⟨hb3, ha3, sp2.mono (by omega)⟩
              · simp only [Rep] at ru; subst ru; refine no "str" (.base (.str _)) (by decide +kernel) ?_; refine ⟨false, rfl, ?_⟩; simp only [Bool.false_eq_true, if_false]; exact ⟨hb3, ha3, sp2.mono (by omega)⟩
              · rename_i ws
                have hw := ru.mono (Same.refl F1)
                simp only [Rep] at ru
                obtain ⟨cc, ws0, rfl, hc, hrw⟩ := ru
                obtain ⟨ws', hc', hl'⟩ := sp2.at hc
                have hwl : ws.length ≤ 1000 := by simpa [okEnt] using oke
                have hw0 : ws0.length = ws.length := hrw.len
                refine ⟨.ref cc, .ty "list", .type "list", .type "list", true, rfl, .ty "list", .base (.lst hc'), kit_ty (by decide +kernel), true, rfl, ?_⟩
                simp only [if_true]
                refine ⟨.ref cc, by rw [List.getElem?_set_self le2], .inl ⟨rfl, ws', SqL.of hc'⟩, cc, ws', .int 7, rfl, rfl, hc', ?_, ?_⟩
                · rw [sizeLine_eq]
                  have := oki.1
                  omega
                · exact ⟨hb3, ha3, sp2.app hc (fresh _ _ hc) hf hc' hl' _⟩
            · -- the last append
              refine ⟨.ref a, ha, .inl ⟨rfl, vs, SqL.of sp.top⟩, by rw [sizeLine_eq]; exact (by decide : 1 ≤ 16777216), fun p hp => ?_⟩
              have hpa : a ≠ p := fun z => by rw [← z, sp.top] at hp; cases hp
              refine ⟨a, vs, .ref p, rfl, rfl, by rw [upd_ne hpa]; exact sp.top, by rw [sizeLine_eq, hvl]; omega, ?_⟩
              obtain ⟨own', S4⟩ := grow (H4 := L2.upd (L2.upd H' p (.tup [.str "back"])) a (.lst (vs ++ [.ref p]))) hb fun c o q => by
                have h1 : c ≠ a := ne_of_none q h0
                have h2 := sp.old c o q
                rw [upd_ne h1, upd_ne (ne_of_none h2 hp)]
                exact h2
              exact ⟨_, F, own', S4, k⟩
          · rename_i o4 e4
            rw [e4]
            intro v F2 H2 P2 _ rv
            have rv : Rep X.K F2 (.bl false) v := rv
            simp only [Rep] at rv
            subst rv
            refine ⟨false, rfl, ?_⟩
            have hh2 := P2.hh
            simp only [Bool.not_false, if_true]
            obtain ⟨own', S4⟩ := grow (H4 := H2) b0 fun c o q => hh2 c o (hh1 c o q)
            exact k (.bl false) _ H2 F own' S4 (by simp only [RetR, Rep])
          · exact k.elim
        · exact k.elim
      · exact k.elim
    · exact k.elim
end
end FL

set_option maxHeartbeats 4000000
/-! FL15: what is a list or a tuple, gone through. -/
namespace FL
open PySem PySem.Spec PyProof.Rows L2
section
variable {X : Cx} {E : Ent} {W : WX} {tg e : Expr}
def iSq (c : IC) : IL := fun ŝ => (c ŝ).bind fun d ŝ => match d with
  | .lst xs => .ok xs ŝ
  | .scr xs => .ok xs ŝ
  | .tup xs => .ok xs ŝ
  | _ => .stuck
theorem ji_sq {c : IC} (h : JF X E W e c) : Ji X E W tg e (iSq c) := ⟨fun pins s σ H R I ⟨ŝ, F, own, S, k⟩ => by
  by_cases ht : ∃ xs ŝ', c ŝ = .ok (.tup xs) ŝ'
  · obtain ⟨xs, ŝ', e⟩ := ht
    refine (ji_tup h).run pins s σ H R I ⟨ŝ, F, own, S, ?_⟩
    simp only [iSq, iTup, e, Out.bind_ok] at k ⊢
    exact k
  · refine (ji_list h).run pins s σ H R I ⟨ŝ, F, own, S, ?_⟩
    simp only [iSq, iLst] at k ⊢
    cases q : c ŝ with
    | ok d ŝ' =>
      rw [q] at k
      cases d with
      | tup xs => exact absurd ⟨xs, ŝ', q⟩ ht
      | _ => exact k
    | exn x ŝ' => rw [q] at k; exact k
    | stuck => rw [q] at k; exact k⟩
/-! the length of a list and an entry of it, own or frozen -/
def iLenE (i : Nat) : IC := fun ŝ => match FL.get ŝ i with
  | some (.ow xs) => .ok (.int xs.length) ŝ
  | some (.fz (.lst xs)) => .ok (.int xs.length) ŝ
  | _ => .stuck
def iIxE (i : Nat) (c : IC) : IC := fun ŝ => match FL.get ŝ i with
  | some (.ow _) => iIxO i c ŝ
  | _ => iBin oIx (iVar i) c ŝ
theorem jF_ixE {y : Str} {b : Expr} {py pos : Pos} {c1 : IC} {i : Nat} (h1 : JF X E W (.Subscript (.Name y py) b pos) (iIxO i c1)) (h2 : JF X E W (.Subscript (.Name y py) b pos) (iBin oIx (iVar i) c1)) : JF X E W (.Subscript (.Name y py) b pos) (iIxE i c1) :=
  ⟨fun pins s σ H Q I ⟨ŝ, F, own, S, k⟩ => by
    unfold iIxE at k
    split at k
    · exact h1.run pins s σ H Q I ⟨ŝ, F, own, S, k⟩
    · exact h2.run pins s σ H Q I ⟨ŝ, F, own, S, k⟩⟩
theorem jF_lenE {e : Expr} {i : Nat} (h1 : JF X E W e (iLenO i)) (h2 : JF X E W e (iFn oLen (iCons (iVar i) iNil))) : JF X E W e (iLenE i) :=
  ⟨fun pins s σ H Q I ⟨ŝ, F, own, S, k⟩ => by
    unfold iLenE at k
    split at k
    · rename_i xs h
      refine h1.run pins s σ H Q I ⟨ŝ, F, own, S, ?_⟩
      simp only [iLenO, pLenO, pOwn, h, Res.bind_ok, Res.out_ok]
      exact k
    · rename_i xs h
      refine h2.run pins s σ H Q I ⟨ŝ, F, own, S, ?_⟩
      simp only [iFn, iCons, iNil, iVar, pVar, h, Res.out_ok, Out.bind_ok, oLen, Res.opt_some]
      exact k
    · exact k.elim⟩
end
end FL

set_option maxHeartbeats 4000000
/-! FLH: the head's facts, read by a Hook of one's own: a part of the heap by a span of addresses; a test of one's own; written dicts. -/
namespace FL
open PySem PySem.Spec PyProof.Rows L2
def keyS : Value → Option Str
  | .str x _ => some x
  | _ => none
abbrev DkV : Type := Option (List (Option Str × Int))
def dkObs (K : Fr) (x : Str) : DkV := match K.lookup (He.ga K x) with
  | some ⟨.type c, none, .dict es _, sl⟩ => if c = "dict" ∧ sl.isEmpty = true then some (es.toList.map fun e => (keyS e.key, e.hash)) else none
  | _ => none
def dkVal (w : World) (ks : List Str) : DkV := some (ks.map fun z => (some z, PyData.keyHash w.params z))
/-! ### tests -/
section
variable {K : Fr} {w : World}
/-- a tuple of texts and ints in the written part -/
def dv : D → Option V
  | .non => some .non
  | .bl b => some (.bl b)
  | .int i => some (.int i)
  | .str s => some (.str s)
  | _ => none
def dvs : List D → Option (List V)
  | [] => some []
  | d :: ds => match dv d, dvs ds with
    | some v, some vs => some (v :: vs)
    | _, _ => none
theorem dvs_reps {F : Hp} : ∀ {ds : List D} {vs : List V}, dvs ds = some vs → Reps K F ds vs
  | [], vs, h => by
    simp only [dvs, Option.some.injEq] at h
    subst h
    exact Reps.nil
  | d :: ds, vs, h => by
    simp only [dvs] at h
    split at h
    · rename_i v us e1 e2
      cases h
      refine Reps.cons ?_ (dvs_reps e2)
      cases d <;> simp only [dv, Option.some.injEq, reduceCtorEq] at e1 <;> (subst e1; simp only [Rep])
    · cases h
/-- the object at a is a tuple of these -/
def tupAt (K : Fr) (a : Addr) (ds : List D) : Bool := match K.lookup a with
  | some ⟨.type c, _, .seq its _, _⟩ => decide (c = "tuple") && (decide (its.size ≤ sizeLine) && (match dvs ds with
    | some vs => He.relAll vs its.toList
    | none => false))
  | _ => false
theorem tupAt_ok {a : Addr} {ds : List D} (h : tupAt K a ds = true) : ∃ vs, dvs ds = some vs ∧ ∀ H : Hp, SqT K H a vs := by
  unfold tupAt at h
  split at h
  · rename_i c dd its n sl q
    simp only [Bool.and_eq_true, decide_eq_true_eq] at h
    obtain ⟨h1, h2, h3⟩ := h
    split at h3
    · rename_i vs e
      exact ⟨vs, e, fun H => .inr ⟨_, its, n, q, congrArg Value.type h1, rfl, h2, He.relAll_ok h3⟩⟩
    · cases h3
  · cases h
theorem tupAt_rep {a : Addr} {ds : List D} (h : tupAt K a ds = true) (F : Hp) : Rep K F (.tup ds) (.ref a) := by
  obtain ⟨vs, e, hs⟩ := tupAt_ok h
  simp only [Rep]
  exact ⟨a, vs, rfl, hs F, dvs_reps e⟩
/-- a value stands for a scalar or a tuple of scalars -/
def valB (K : Fr) (d : D) (u : Value) : Bool := match d with
  | .tup ds => (match u with
    | .ref a => tupAt K a ds
    | _ => false)
  | _ => (match dv d with
    | some v => He.relB v u
    | none => false)
theorem valB_ok {d : D} {u : Value} (h : valB K d u = true) : ∃ v, RelV v u ∧ ∀ F, Rep K F d v := by
  unfold valB at h
  split at h
  · split at h
    · rename_i a
      exact ⟨.ref a, rfl, tupAt_rep h⟩
    · cases h
  · split at h
    · rename_i v e
      refine ⟨v, He.relB_ok h, fun F => ?_⟩
      have := dvs_reps (K := K) (F := F) (ds := [d]) (vs := [v]) (by simp [dvs, e])
      simp only [Reps] at this
      obtain ⟨v', r, e1, r1, _⟩ := this
      simp only [List.cons.injEq] at e1
      rw [e1.1]
      exact r1
    · cases h
/-- a written dict: keys, values -/
def dentB (K : Fr) : List DictEntry → List (Str × D) → Bool
  | [], [] => true
  | e :: es, (z, d) :: tab => (match e.key with
    | .str y _ => decide (y = z)
    | _ => false) && (!e.refKey && (valB K d e.val && dentB K es tab))
  | _, _ => false
theorem dentB_ok : ∀ {es : List DictEntry} {tab : List (Str × D)}, dentB K es tab = true → Dents K es tab
  | [], [], _ => trivial
  | e :: es, (z, d) :: tab, h => by
    simp only [dentB, Bool.and_eq_true, Bool.not_eq_true'] at h
    obtain ⟨h1, h2, h3, h4⟩ := h
    refine ⟨?_, h2, valB_ok h3, dentB_ok h4⟩
    split at h1
    · rename_i y t e1
      exact ⟨t, by rw [e1, of_decide_eq_true h1]⟩
    · cases h1
  | [], _ :: _, h => by simp [dentB] at h
  | _ :: _, [], h => by simp [dentB] at h
def gdicB (K : Fr) (x : Str) (tab : List (Str × D)) : Bool := !(He.ga K x == sysModules) && (match K.lookup (He.ga K x) with
  | some ⟨.type c, none, .dict es _, sl⟩ => decide (c = "dict") && (sl.isEmpty && dentB K es.toList tab)
  | _ => false)
theorem keysLit_of : ∀ {es : List DictEntry} {ks : List Str}, es.map (fun e => (keyS e.key, e.hash)) = ks.map (fun z => (some z, PyData.keyHash w.params z)) → PySem.W.KeysLit w.params es
  | [], _, _ => trivial
  | e :: es, [], h => by simp at h
  | e :: es, z :: ks, h => by
    simp only [List.map_cons, List.cons.injEq, Prod.mk.injEq] at h
    obtain ⟨⟨h1, h2⟩, h3⟩ := h
    refine ⟨?_, keysLit_of h3⟩
    unfold keyS at h1
    split at h1
    · rename_i y t e1
      cases h1
      exact ⟨z, t, e1, h2⟩
    · cases h1
theorem gdic_ok {x : Str} {tab : List (Str × D)} {ks : List Str} (h : gdicB K x tab = true) (hk : dkObs K x = dkVal w ks) : GDic K w (He.ga K x) tab := by
  unfold gdicB at h
  simp only [Bool.and_eq_true, Bool.not_eq_true'] at h
  obtain ⟨h1, h2⟩ := h
  unfold dkObs dkVal at hk
  split at h2
  · rename_i c es n sl q
    simp only [Bool.and_eq_true, decide_eq_true_eq] at h2
    obtain ⟨rfl, h3, h4⟩ := h2
    have e : sl = #[] := by simpa using h3
    subst e
    rw [q] at hk
    simp only [Array.isEmpty_empty, and_self, if_true, Option.some.injEq] at hk
    exact ⟨es, n, ⟨q, keysLit_of hk, h1⟩, dentB_ok h4⟩
  · cases h2
/-! exceptions -/
def xclsB (K : Fr) (x : Str) : Bool := (He.Fa.exc x).ok K
theorem xcls_ok {mg : Str → Option Value} {x : Str} (h : xclsB K x = true) (hg : mg x = some (.ref (He.ga K x))) : XCls K mg x := by
  obtain ⟨h1, h2, h3, h4⟩ := He.exc_ok h
  exact ⟨⟨_, _, _, _, F.excBase_ValueError, h1⟩, hg, h2, h3, h4⟩
def xisB (K : Fr) (x : Str) : Bool := He.eqO (PySem.W.findIn K (.ref (He.ga K x)) "__getattribute__") (some (some (.builtin "BaseException.__getattribute__"))) && (He.eqO (PySem.W.findIn K (.ref (He.ga K x)) "__getattr__") (some none) &&
  (decide (PySem.W.subIn K (.ref (He.ga K x)) (.type "BaseException") = some true) && (PySem.W.hasDictIn K (He.ga K x) && (He.eqO (PySem.W.findIn K (.ref (He.ga K x)) "__class__") (some (some (.builtin "object.__class__"))) &&
  (He.eqO (PySem.W.specialIn K (.builtin "object.__class__") "__get__") (some (some (.builtin "getset_descriptor.__get__"))) && (decide (PySem.W.takesIn K (.builtin "object.__class__") = some true) && decide (PySem.W.mroIn K (He.ga K x) (.type "object") = some true)))))))
theorem xis_ok {x : Str} (h : xisB K x = true) : XIs K (He.ga K x) := by
  unfold xisB at h
  simp only [Bool.and_eq_true, decide_eq_true_eq] at h
  obtain ⟨h1, h2, h3, h4, h5, h6, h7, h8⟩ := h
  exact ⟨He.eqO_ok h1, He.eqO_ok h2, h3, h4, He.eqO_ok h5, He.eqO_ok h6, h7, h8⟩
def kitC (K : Fr) (x y : Str) (b : Bool) : Bool := decide (PySem.W.kitOne K (.ref (He.ga K x)) (.ref (He.ga K y)) = some b)
theorem kitC_ok {x y : Str} {b : Bool} (h : kitC K x y b = true) : PySem.W.kitOne K (.ref (He.ga K x)) (.ref (He.ga K y)) = some b := of_decide_eq_true h
/-! an error class with super().__init__(..) -/
abbrev SuV : Type := Option (Str × Str × Arguments × FuncBody × Scope × Addr × List Str × Value × Value × Addr)
def suObs (K : Fr) (x : Str) : SuV := match K.lookup (He.ma K (He.ga K x) "__init__") with
  | some ⟨_, _, .func fd, _⟩ => some (fd.name, fd.qualname, fd.params, fd.body, fd.scope, fd.globals, fd.closure.map (·.1), fd.defaults, fd.kwdefaults, fd.builtins)
  | _ => none
def suVal (qual : Str) (m : Stmt) : SuV := some ("__init__", qual, defArgs m, .stmts (defBody m), defScope m, mainGlobals, ["__class__"], .none, .none, builtinsNs)
def clsVE (K : Fr) (C : Addr) : Bool := match K.lookup C with
  | some ⟨.type t, _, .cls cd, sl⟩ => decide (t = "type") && (match cd.mro, sl.toList with
    | .ref C' :: bm, [_, _, _, _, some (.builtin n), _] => decide (C' = C) && (decide (n = "ValueError.__new__") && (!cd.hasDel && (cd.hasDict && PySem.HandSPX.refsVE bm)))
    | _, _ => false)
  | _ => false
theorem clsVE_ok {C : Addr} (h : clsVE K C = true) : ∃ nm q N bs bm sn sub ab col dd k0 k1 k2 k3 k5, K.lookup C = some (excClassObj nm q C N bs bm true sn sub ab col dd k0 k1 k2 k3 k5 "ValueError.__new__") ∧ PySem.HandSPX.refsVE bm = true := by
  unfold clsVE at h
  split at h
  · rename_i t dd cd sl ho
    simp only [Bool.and_eq_true, decide_eq_true_eq] at h
    obtain ⟨rfl, h⟩ := h
    split at h
    · rename_i C' bm k0 k1 k2 k3 n k5 hm hs
      simp only [Bool.and_eq_true, decide_eq_true_eq, Bool.not_eq_true'] at h
      obtain ⟨rfl, rfl, hd, hh, hb⟩ := h
      obtain ⟨nm, bs, mro, ns, qn, hdict, sn, sub, ab, col, del⟩ := cd
      dsimp only at hm hd hh
      subst hm
      subst hd
      subst hh
      have hsl : sl = #[k0, k1, k2, k3, some (.builtin "ValueError.__new__"), k5] := by
        obtain ⟨l⟩ := sl
        simp only at hs
        rw [hs]
      subst hsl
      exact ⟨nm, qn, ns, bs, bm, sn, sub, ab, col, dd, k0, k1, k2, k3, k5, ho, hb⟩
    · cases h
  · cases h
/-- the code object, the class's cell -/
def suCode (prog : Program) (K : Fr) (C : Addr) (qual : Str) (fd : FuncData) : Bool := (match fd.code with
  | .ref c => PySem.W.codeIn K (.ref c) qual && (match K.lookup c with
    | some ⟨_, _, .fields vs, _⟩ => (match vs.toList with
      | _ :: _ :: .str file _ :: _ => (prog.main.file : Str) == file
      | _ => false)
    | _ => false)
  | _ => false) && (match fd.closure with
  | [(_, cc)] => (match K.lookup cc with
    | some ⟨_, _, .cell (some (.ref D)), _⟩ => decide (D = C)
    | _ => false)
  | _ => false)
def supB (prog : Program) (K : Fr) (x f qual : Str) : Bool :=
  clsVE K (He.ga K x) && (He.eqO (PySem.W.findIn K (.ref (He.ga K x)) "__setattr__") (some (some (.builtin "object.__setattr__"))) && (He.eqO (PySem.W.findIn K (.ref (He.ga K x)) f) (some none) &&
  (He.eqO (PySem.W.findIn K (.ref (He.ga K x)) "__init__") (some (some (.ref (He.ma K (He.ga K x) "__init__")))) && (decide (PySem.W.typeIn K (.ref (He.ma K (He.ga K x) "__init__")) = some (.type "function")) &&
  (PySem.W.keepIn K (.ref (He.ga K x)) && (decide (PySem.W.subIn K (.ref (He.ga K x)) (.type "BaseException") = some true) && (decide (PySem.W.typeIn K (.ref (He.ga K x)) = some (.type "type")) &&
  (decide (PySem.W.subIn K (.ref (He.ga K x)) (.type "ValueError") = some true) && (decide (PySem.W.mroIn K (He.ga K x) (.ref (He.ga K x)) = some true) && (He.eqO (PySem.W.ks_superIn K (He.ga K x) (He.ga K x) "__init__") (some (some (.builtin "ValueError.__init__"))) &&
  (He.eqO (PySem.W.nsIn K cStatics "thirdparty.any") (some none) && (match K.lookup (He.ma K (He.ga K x) "__init__") with
    | some ⟨_, _, .func fd, _⟩ => suCode prog K (He.ga K x) qual fd
    | _ => false))))))))))))
theorem sup_ok {prog : Program} {mg : Str → Option Value} {x f u1 u2 qual : Str} {m : Stmt} {P : XPos} {p1 p2 : Pos} (h : supB prog K x f qual = true) (ho : suObs K x = suVal qual m) (hg : mg x = some (.ref (He.ga K x))) (hs : mg "super" = none) (ht : (prog.main.scope.names.lookup ("super" : Str)).isSome = false)
    (ha : defArgs m = xiA f p1 p2) (hb : defBody m = xiB u1 u2 f P) (hsc : defScope m = xiS f) : SupTxt prog K mg x f u1 u2 qual P (He.ga K x) (He.ma K (He.ga K x) "__init__") := by
  unfold supB at h
  simp only [Bool.and_eq_true, decide_eq_true_eq] at h
  obtain ⟨h1, h2, h3, h4, h5, h6, h7, h8, h9, h10, h11, h12, h13⟩ := h
  refine ⟨hg, clsVE_ok h1, He.eqO_ok h2, He.eqO_ok h3, He.eqO_ok h4, h5, h6, h7, h8, h9, h10, He.eqO_ok h11, hs, He.eqO_ok h12, ht, ?_⟩
  unfold suObs suVal at ho
  split at h13
  · rename_i oc od fd osl q
    rw [q] at ho
    obtain ⟨n1, n2, n3, n4, n5, n6, n7, n8, n9, n10, n11, n12, n13, n14, n15⟩ := fd
    simp only [Option.some.injEq, Prod.mk.injEq] at ho
    obtain ⟨rfl, rfl, rfl, rfl, rfl, rfl, e7, rfl, rfl, rfl⟩ := ho
    unfold suCode at h13
    simp only [Bool.and_eq_true] at h13
    obtain ⟨k1, k2⟩ := h13
    rw [ha, hb, hsc] at q
    split at k1
    · rename_i c
      simp only [Bool.and_eq_true] at k1
      obtain ⟨k3, k4⟩ := k1
      split at k4
      · rename_i vs _ hc
        split at k4
        · rename_i v0 v1 file tf rest hv
          split at k2
          · rename_i nn cc
            split at k2
            · rename_i _ hcc
              have e := of_decide_eq_true k2
              subst e
              simp only [List.map_cons, List.map_nil, List.cons.injEq, and_true] at e7
              subst e7
              exact ⟨oc, od, _, _, _, c, cc, _, osl, p1, p2, q, k3, ⟨_, _, vs, _, file, tf, hc, by rw [← Array.getElem?_toList, hv]; rfl, k4⟩, _, _, _, hcc⟩
            · cases k2
          · cases k2
        · cases k4
      · cases k4
    · cases k1
  · cases h13
end
/-! ### the Hook -/
structure HSpec where
  lo : Nat
  n : Nat
  fa : List He.Fa
  fn : List He.DefD
  bs : Fr → List Bool
  dk : List (Str × List Str)
  su : List (Str × Str × Stmt)
def asO (S : HSpec) : List Addr := mainGlobals :: PySem.cStatics :: List.range' S.lo S.n
abbrev AlO : Type := He.AlD × List Bool × List DkV × List SuV
def obsO (S : HSpec) (K : Fr) : AlO := (He.obsD S.fa S.fn K, S.bs K, S.dk.map (fun d => dkObs K d.1), S.su.map fun d => suObs K d.1)
def valO (S : HSpec) (nb : Nat) (w : World) : AlO := (He.valD S.fn, List.replicate nb true, S.dk.map (fun d => dkVal w d.2), S.su.map fun d => suVal d.2.1 d.2.2)
structure SaysO (S : HSpec) (nb : Nat) (w : World) (K : Fr) : Prop where
  says : He.SaysD S.fa S.fn K
  bs : S.bs K = List.replicate nb true
  dk : ∀ d ∈ S.dk, dkObs K d.1 = dkVal w d.2
  su : ∀ d ∈ S.su, suObs K d.1 = suVal d.2.1 d.2.2
theorem SaysO.b {S : HSpec} {nb : Nat} {w : World} {K : Fr} (c : SaysO S nb w K) (i : Nat) {b : Bool} (h : (S.bs K)[i]? = some b := by rfl) : b = true := by
  rw [c.bs] at h
  obtain ⟨_, h⟩ := List.getElem?_eq_some_iff.mp h
  simpa using h.symm
theorem map_eq_mem {α β : Type} {f g : α → β} : ∀ {l : List α}, l.map f = l.map g → ∀ a ∈ l, f a = g a
  | a :: l, h, b, hb => by
    simp only [List.map_cons, List.cons.injEq] at h
    rcases List.mem_cons.mp hb with rfl | hb
    · exact h.1
    · exact map_eq_mem h.2 b hb
theorem saysO_of {S : HSpec} {nb : Nat} {w : World} {K : Fr} (h : obsO S K = valO S nb w) : SaysO S nb w K := by
  unfold obsO valO at h
  simp only [Prod.mk.injEq] at h
  exact ⟨h.1, h.2.1, fun d hd => map_eq_mem h.2.2.1 d hd, fun d hd => map_eq_mem h.2.2.2 d hd⟩
def hookO (S : HSpec) (nb : Nat) : PySem.W.Hook where
  α := AlO
  obs := fun s => obsO S (He.frG s.heap.get? (asO S))
  val := fun w => valO S nb w
  says := fun w h => ∃ K : Fr, K.In h ∧ SaysO S nb w K
  of := fun _ _ e => ⟨_, He.frG_in, saysO_of e⟩
  keeps := fun _ _ _ ⟨K, hK, c⟩ k => ⟨K, PySem.W.Frag.In.keeps hK k, c⟩
theorem obsO_eq {S : HSpec} {nb : Nat} {g : Addr → Option Obj} {s : Shared} (h : ∀ a, g a = s.heap.get? a) : obsO S (He.frG g (asO S)) = (hookO S nb).obs s := by
  have e : g = s.heap.get? := funext h
  rw [e] <;> rfl
def obO (S : HSpec) (s : PySem.W.SharedT) : AlO := obsO S (He.frG (HandSHeadRun.getT s) (asO S))
theorem obO_eq (S : HSpec) (nb : Nat) (s : PySem.W.SharedT) : obO S s = (hookO S nb).obs s.abs := obsO_eq (HandSHeadRun.getT_eq s)
end FL
namespace FL
open PySem PySem.Spec PyProof.Rows L2
/-- the first statement of a class's body -/
def clsM (st : Stmt) : Stmt := match st with
  | .ClassDef _ _ _ (m :: _) .. => m
  | s => s
def p0 : Pos := ⟨0, 0, 0, 0⟩
def xposOf (m : Stmt) : XPos := match defBody m with
  | [.Expr (.Call (.Attribute (.Call (.Name _ p6) [] [] p7) _ p8) [.JoinedStr [.Constant _ j1 p1, .FormattedValue (.Name _ p2) _ _ p3, .Constant _ j2 p4] p5] [] p9) p10, .Assign [.Attribute (.Name _ p11) _ p12] (.Name _ p13) p14] => ⟨p1, p2, p3, p4, p5, p6, p7, p8, p9, p10, p11, p12, p13, p14, j1, j2⟩
  | _ => ⟨p0, p0, p0, p0, p0, p0, p0, p0, p0, p0, p0, p0, p0, p0, 0, 0⟩
theorem tupG_ok {K : Fr} {a : Addr} {ds : List D} {vs : List V} {b : Bool} (hb : tupAt K a ds = b) (h : b = true) (e : dvs ds = some vs := by rfl) : (∀ H : Hp, SqT K H a vs) ∧ ∀ F : Hp, Reps K F ds vs := by
  subst hb
  obtain ⟨vs', e', hs⟩ := tupAt_ok h
  rw [e] at e'
  cases e'
  exact ⟨hs, fun F => dvs_reps e⟩
end FL

set_option maxHeartbeats 4000000
namespace K31
open PySem PySem.Spec PyProof.Rows L2 FL
def top (i : Nat) : Stmt := PySem.Challenge.pw_figurelinks_k31_script_lines_at_their_bo.main.body.getD i (.Pass ⟨0, 0, 0, 0⟩)

def k_DIGITS : Str := "0123456789"
def k_KINDS : List D := [.str "all", .str "roads", .str "trees"]
def v_KINDS : List V := [.str "all", .str "roads", .str "trees"]
def k_LETTERS : Str := "abcdefghijklmnopqrstuvwxyzABCDEFGHIJKLMNOPQRSTUVWXYZ"
def k_TAILS : List D := [.str "text", .str "names", .str "numbers"]
def v_TAILS : List V := [.str "text", .str "names", .str "numbers"]
def k_FORMS : List (Str × D) := [("table", .tup [.str "name", .str "text"]),
 ("figure", .tup [.str "name", .str "text"]),
 ("rule", .tup [.str "name", .str "text"]),
 ("book", .tup [.str "name", .str "names"]),
 ("groups", .tup [.str "name", .str "name", .str "number"]),
 ("tree", .tup [.str "name", .str "name"]),
 ("chain", .tup [.str "name", .str "name", .str "number", .str "number", .str "number"]),
 ("compare", .tup [.str "name", .str "name", .str "kind"]),
 ("least", .tup [.str "name", .str "kind"]),
 ("price", .tup [.str "name", .str "name", .str "number"]),
 ("steady", .tup [.str "name"]),
 ("keep", .tup [.str "name", .str "name", .str "number"]),
 ("put", .tup [.str "number", .str "number", .str "number"]),
 ("grow", .tup [.str "numbers"]),
 ("drop", .tup [.str "number"]),
 ("scale", .tup [.str "number"]),
 ("lay", .tup [.str "name"]),
 ("back", .tup []),
 ("sample", .tup [.str "name", .str "number", .str "text"]),
 ("learn", .tup [.str "number", .str "number"]),
 ("axioms", .tup [.str "name", .str "number", .str "number"]),
 ("wide", .tup [.str "name", .str "name", .str "number", .str "number"])]
def exm_BadPaper (cl : Str) : Option Bool :=
 if cl = "BadPaper" then some true else if cl = "TextBad" then some false else none
def exm_TextBad (cl : Str) : Option Bool :=
 if cl = "BadPaper" then some false else if cl = "TextBad" then some true else none
def isE_BadCount (cl : Str) : Option Bool :=
 if cl = "BadPaper" then some false else if cl = "TextBad" then some false else none
def isE_BadPaper (cl : Str) : Option Bool :=
 if cl = "BadPaper" then some true else if cl = "TextBad" then some false else none
def isE_FigureError (cl : Str) : Option Bool :=
 if cl = "BadPaper" then some true else if cl = "TextBad" then some true else none
def isE_TextBad (cl : Str) : Option Bool :=
 if cl = "BadPaper" then some false else if cl = "TextBad" then some true else none
structure Facts (P : Program) (w : World) (K : Fr) (mg : Str → Option Value) : Prop where
  d__law_down : ∃ fd, FunD K "_law_down" "_law_down" (defArgs (top 29)) (defBody (top 29)) (defScope (top 29)) [] [] (He.ga K "_law_down") fd
  g__law_down : mg "_law_down" = some (.ref (He.ga K "_law_down"))
  d__law_store : ∃ fd, FunD K "_law_store" "_law_store" (defArgs (top 30)) (defBody (top 30)) (defScope (top 30)) [] [] (He.ga K "_law_store") fd
  g__law_store : mg "_law_store" = some (.ref (He.ga K "_law_store"))
  d__law_mixed : ∃ fd, FunD K "_law_mixed" "_law_mixed" (defArgs (top 31)) (defBody (top 31)) (defScope (top 31)) [] [] (He.ga K "_law_mixed") fd
  g__law_mixed : mg "_law_mixed" = some (.ref (He.ga K "_law_mixed"))
  d__law_take : ∃ fd, FunD K "_law_take" "_law_take" (defArgs (top 32)) (defBody (top 32)) (defScope (top 32)) [] [] (He.ga K "_law_take") fd
  g__law_take : mg "_law_take" = some (.ref (He.ga K "_law_take"))
  d__law_pick : ∃ fd, FunD K "_law_pick" "_law_pick" (defArgs (top 34)) (defBody (top 34)) (defScope (top 34)) [] [] (He.ga K "_law_pick") fd
  g__law_pick : mg "_law_pick" = some (.ref (He.ga K "_law_pick"))
  d__law_shuffled : ∃ fd, FunD K "_law_shuffled" "_law_shuffled" (defArgs (top 35)) (defBody (top 35)) (defScope (top 35)) [] [] (He.ga K "_law_shuffled") fd
  g__law_shuffled : mg "_law_shuffled" = some (.ref (He.ga K "_law_shuffled"))
  d__law_names : ∃ fd, FunD K "_law_names" "_law_names" (defArgs (top 40)) (defBody (top 40)) (defScope (top 40)) [] [] (He.ga K "_law_names") fd
  g__law_names : mg "_law_names" = some (.ref (He.ga K "_law_names"))
  d__law_word : ∃ fd, FunD K "_law_word" "_law_word" (defArgs (top 37)) (defBody (top 37)) (defScope (top 37)) [] [] (He.ga K "_law_word") fd
  g__law_word : mg "_law_word" = some (.ref (He.ga K "_law_word"))
  d__law_order_number : ∃ fd, FunD K "_law_order_number" "_law_order_number" (defArgs (top 42)) (defBody (top 42)) (defScope (top 42)) [] [] (He.ga K "_law_order_number") fd
  g__law_order_number : mg "_law_order_number" = some (.ref (He.ga K "_law_order_number"))
  d__law_free_text : ∃ fd, FunD K "_law_free_text" "_law_free_text" (defArgs (top 41)) (defBody (top 41)) (defScope (top 41)) [] [] (He.ga K "_law_free_text") fd
  g__law_free_text : mg "_law_free_text" = some (.ref (He.ga K "_law_free_text"))
  d__law_third : ∃ fd, FunD K "_law_third" "_law_third" (defArgs (top 33)) (defBody (top 33)) (defScope (top 33)) [] [] (He.ga K "_law_third") fd
  g__law_third : mg "_law_third" = some (.ref (He.ga K "_law_third"))
  d__law_size : ∃ fd, FunD K "_law_size" "_law_size" (defArgs (top 36)) (defBody (top 36)) (defScope (top 36)) [] [] (He.ga K "_law_size") fd
  g__law_size : mg "_law_size" = some (.ref (He.ga K "_law_size"))
  d__law_order : ∃ fd, FunD K "_law_order" "_law_order" (defArgs (top 43)) (defBody (top 43)) (defScope (top 43)) [] [] (He.ga K "_law_order") fd
  g__law_order : mg "_law_order" = some (.ref (He.ga K "_law_order"))
  d__law_order_line : ∃ fd, FunD K "_law_order_line" "_law_order_line" (defArgs (top 44)) (defBody (top 44)) (defScope (top 44)) [] [] (He.ga K "_law_order_line") fd
  g__law_order_line : mg "_law_order_line" = some (.ref (He.ga K "_law_order_line"))
  d__law_long_order : ∃ fd, FunD K "_law_long_order" "_law_long_order" (defArgs (top 45)) (defBody (top 45)) (defScope (top 45)) [] [] (He.ga K "_law_long_order") fd
  g__law_long_order : mg "_law_long_order" = some (.ref (He.ga K "_law_long_order"))
  d__law_orders_drawn : ∃ fd, FunD K "_law_orders_drawn" "_law_orders_drawn" (defArgs (top 46)) (defBody (top 46)) (defScope (top 46)) [] [] (He.ga K "_law_orders_drawn") fd
  g__law_orders_drawn : mg "_law_orders_drawn" = some (.ref (He.ga K "_law_orders_drawn"))
  d__law_first_bad : ∃ fd, FunD K "_law_first_bad" "_law_first_bad" (defArgs (top 51)) (defBody (top 51)) (defScope (top 51)) [] [] (He.ga K "_law_first_bad") fd
  g__law_first_bad : mg "_law_first_bad" = some (.ref (He.ga K "_law_first_bad"))
  d_is_kind : ∃ fd, FunD K "is_kind" "is_kind" (defArgs (top 17)) (defBody (top 17)) (defScope (top 17)) [] [] (He.ga K "is_kind") fd
  g_is_kind : mg "is_kind" = some (.ref (He.ga K "is_kind"))
  d_is_number_word : ∃ fd, FunD K "is_number_word" "is_number_word" (defArgs (top 16)) (defBody (top 16)) (defScope (top 16)) [] [] (He.ga K "is_number_word") fd
  g_is_number_word : mg "is_number_word" = some (.ref (He.ga K "is_number_word"))
  d_is_name : ∃ fd, FunD K "is_name" "is_name" (defArgs (top 15)) (defBody (top 15)) (defScope (top 15)) [] [] (He.ga K "is_name") fd
  g_is_name : mg "is_name" = some (.ref (He.ga K "is_name"))
  d_word_value : ∃ fd, FunD K "word_value" "word_value" (defArgs (top 19)) (defBody (top 19)) (defScope (top 19)) [] [] (He.ga K "word_value") fd
  g_word_value : mg "word_value" = some (.ref (He.ga K "word_value"))
  d_is_free_text : ∃ fd, FunD K "is_free_text" "is_free_text" (defArgs (top 18)) (defBody (top 18)) (defScope (top 18)) [] [] (He.ga K "is_free_text") fd
  g_is_free_text : mg "is_free_text" = some (.ref (He.ga K "is_free_text"))
  d_tail_value : ∃ fd, FunD K "tail_value" "tail_value" (defArgs (top 20)) (defBody (top 20)) (defScope (top 20)) [] [] (He.ga K "tail_value") fd
  g_tail_value : mg "tail_value" = some (.ref (He.ga K "tail_value"))
  d_order_of : ∃ fd, FunD K "order_of" "order_of" (defArgs (top 21)) (defBody (top 21)) (defScope (top 21)) [] [] (He.ga K "order_of") fd
  g_order_of : mg "order_of" = some (.ref (He.ga K "order_of"))
  d_read_script : ∃ fd, FunD K "read_script" "read_script" (defArgs (top 22)) (defBody (top 22)) (defScope (top 22)) [] [] (He.ga K "read_script") fd
  g_read_script : mg "read_script" = some (.ref (He.ga K "read_script"))
  d__law_read : ∃ fd, FunD K "_law_read" "_law_read" (defArgs (top 49)) (defBody (top 49)) (defScope (top 49)) [] [] (He.ga K "_law_read") fd
  g__law_read : mg "_law_read" = some (.ref (He.ga K "_law_read"))
  d__law_same_here : ∃ fd, FunD K "_law_same_here" "_law_same_here" (defArgs (top 38)) (defBody (top 38)) (defScope (top 38)) [] [] (He.ga K "_law_same_here") fd
  g__law_same_here : mg "_law_same_here" = some (.ref (He.ga K "_law_same_here"))
  d__law_same : ∃ fd, FunD K "_law_same" "_law_same" (defArgs (top 39)) (defBody (top 39)) (defScope (top 39)) [] [] (He.ga K "_law_same") fd
  g__law_same : mg "_law_same" = some (.ref (He.ga K "_law_same"))
  d__law_spoilt_line : ∃ fd, FunD K "_law_spoilt_line" "_law_spoilt_line" (defArgs (top 47)) (defBody (top 47)) (defScope (top 47)) [] [] (He.ga K "_law_spoilt_line") fd
  g__law_spoilt_line : mg "_law_spoilt_line" = some (.ref (He.ga K "_law_spoilt_line"))
  d_number_told : ∃ fd, FunD K "number_told" "number_told" (defArgs (top 23)) (defBody (top 23)) (defScope (top 23)) [] [] (He.ga K "number_told") fd
  g_number_told : mg "number_told" = some (.ref (He.ga K "number_told"))
  d_word_told : ∃ fd, FunD K "word_told" "word_told" (defArgs (top 24)) (defBody (top 24)) (defScope (top 24)) [] [] (He.ga K "word_told") fd
  g_word_told : mg "word_told" = some (.ref (He.ga K "word_told"))
  d_words_told : ∃ fd, FunD K "words_told" "words_told" (defArgs (top 25)) (defBody (top 25)) (defScope (top 25)) [] [] (He.ga K "words_told") fd
  g_words_told : mg "words_told" = some (.ref (He.ga K "words_told"))
  d_line_of : ∃ fd, FunD K "line_of" "line_of" (defArgs (top 26)) (defBody (top 26)) (defScope (top 26)) [] [] (He.ga K "line_of") fd
  g_line_of : mg "line_of" = some (.ref (He.ga K "line_of"))
  d_tell_script : ∃ fd, FunD K "tell_script" "tell_script" (defArgs (top 27)) (defBody (top 27)) (defScope (top 27)) [] [] (He.ga K "tell_script") fd
  g_tell_script : mg "tell_script" = some (.ref (He.ga K "tell_script"))
  d__law_good_script : ∃ fd, FunD K "_law_good_script" "_law_good_script" (defArgs (top 52)) (defBody (top 52)) (defScope (top 52)) [] [] (He.ga K "_law_good_script") fd
  g__law_good_script : mg "_law_good_script" = some (.ref (He.ga K "_law_good_script"))
  d__law_refused : ∃ fd, FunD K "_law_refused" "_law_refused" (defArgs (top 50)) (defBody (top 50)) (defScope (top 50)) [] [] (He.ga K "_law_refused") fd
  g__law_refused : mg "_law_refused" = some (.ref (He.ga K "_law_refused"))
  d__law_bad_order : ∃ fd, FunD K "_law_bad_order" "_law_bad_order" (defArgs (top 48)) (defBody (top 48)) (defScope (top 48)) [] [] (He.ga K "_law_bad_order") fd
  g__law_bad_order : mg "_law_bad_order" = some (.ref (He.ga K "_law_bad_order"))
  d_law : ∃ fd, FunD K "law" "law" (defArgs (top 53)) (defBody (top 53)) (defScope (top 53)) [] [] (He.ga K "law") fd
  g_law : mg "law" = some (.ref (He.ga K "law"))
  b_abs : mg "abs" = none
  b_all : mg "all" = none
  b_any : mg "any" = none
  b_bool : mg "bool" = none
  k_DIGITS : ∃ t, mg "DIGITS" = some (.str k_DIGITS t)
  g_KINDS : mg "KINDS" = some (.ref (He.ga K "KINDS"))
  k_KINDS : (∀ H : Hp, SqT K H (He.ga K "KINDS") v_KINDS) ∧ ∀ F : Hp, Reps K F k_KINDS v_KINDS
  k_LETTERS : ∃ t, mg "LETTERS" = some (.str k_LETTERS t)
  k_LINES : ∃ t, mg "LINES" = some (.int 60 t)
  k_LINE_SIGNS : ∃ t, mg "LINE_SIGNS" = some (.int 200 t)
  k_NAME_SIGNS : ∃ t, mg "NAME_SIGNS" = some (.int 8 t)
  g_TAILS : mg "TAILS" = some (.ref (He.ga K "TAILS"))
  k_TAILS : (∀ H : Hp, SqT K H (He.ga K "TAILS") v_TAILS) ∧ ∀ F : Hp, Reps K F k_TAILS v_TAILS
  k_WORD_SIGNS : ∃ t, mg "WORD_SIGNS" = some (.int 12 t)
  g_FORMS : mg "FORMS" = some (.ref (He.ga K "FORMS"))
  k_FORMS : GDic K w (He.ga K "FORMS") k_FORMS
  b_int : mg "int" = none
  b_isinstance : mg "isinstance" = none
  b_len : mg "len" = none
  b_list : mg "list" = none
  b_min : mg "min" = none
  b_range : mg "range" = none
  b_str : mg "str" = none
  b_tuple : mg "tuple" = none
  x_BadPaper : XCls K mg "BadPaper"
  xs_TextBad : SupOk P K mg "TextBad" "line"
  gc_BadPaper : mg "BadPaper" = some (.ref (He.ga K "BadPaper"))
  exm_BadPaper : ∀ cl z, exm_BadPaper cl = some z → PySem.W.exmOne K (.ref (He.ga K cl)) (.ref (He.ga K "BadPaper")) = some z
  gc_TextBad : mg "TextBad" = some (.ref (He.ga K "TextBad"))
  exm_TextBad : ∀ cl z, exm_TextBad cl = some z → PySem.W.exmOne K (.ref (He.ga K cl)) (.ref (He.ga K "TextBad")) = some z
  isE_BadCount : ∀ cl z, isE_BadCount cl = some z → XIs K (He.ga K cl) ∧ PySem.W.kitOne K (.ref (He.ga K cl)) (.ref (He.ga K "BadCount")) = some z
  gc_BadCount : mg "BadCount" = some (.ref (He.ga K "BadCount"))
  isE_BadPaper : ∀ cl z, isE_BadPaper cl = some z → XIs K (He.ga K cl) ∧ PySem.W.kitOne K (.ref (He.ga K cl)) (.ref (He.ga K "BadPaper")) = some z
  isE_FigureError : ∀ cl z, isE_FigureError cl = some z → XIs K (He.ga K cl) ∧ PySem.W.kitOne K (.ref (He.ga K cl)) (.ref (He.ga K "FigureError")) = some z
  gc_FigureError : mg "FigureError" = some (.ref (He.ga K "FigureError"))
  isE_TextBad : ∀ cl z, isE_TextBad cl = some z → XIs K (He.ga K cl) ∧ PySem.W.kitOne K (.ref (He.ga K cl)) (.ref (He.ga K "TextBad")) = some z
  xf_TextBad : XfC K (He.ga K "TextBad") ∧ PySem.W.findIn K (.ref (He.ga K "TextBad")) "line" = some none
section
variable {P : Program} {w : World} {K : Fr} {mg : Str → Option Value} {base : Heap}
/-! _law_down -/
abbrev N__law_down : List Str := ["cell", "number", "limit"]
def b__law_down : SC :=
 (sSeq (sSet 1 (iFn oInt (iCons (iVar 0) iNil)))
 (sSeq (sIf (iBl (iChain oLt oLt (iUn oNeg (iBin oPow (iC (.int 10)) (iC (.int 18)))) (iVar 1) (iBin oPow (iC (.int 10)) (iC (.int 18)))))
 (sRet (iVar 1))
 sSkip)
 (sSeq (sSet 2 (iBin oPow (iC (.int 10)) (iC (.int 60))))
 (sSeq (sSet 2 (iBin oMul (iBin oMul (iBin oMul (iBin oMul (iVar 2) (iVar 2)) (iVar 2)) (iVar 2)) (iVar 2)))
 (sSeq (sIf (iBl (iBin oLt (iFn oAbs (iCons (iVar 1) iNil)) (iVar 2)))
 (sRet (iFn oAbs (iCons (iVar 1) iNil)))
 sSkip)
 (sRet (iBin oAdd (iVar 2) (iBin oMod (iFn oAbs (iCons (iVar 1) iNil)) (iVar 2)))))))))
def m__law_down : FM := runB 3 [] b__law_down
theorem s__law_down : FnScope N__law_down ["cell"] (defScope (top 29)) := ⟨rfl, rfl, rfl, by decide +kernel, rfl, by decide +kernel, by decide +kernel⟩
theorem ok__law_down (c : Facts P w K mg) : Cal P w K mg base 1 "_law_down" 1 [] m__law_down :=
 cal_of c.d__law_down s__law_down c.g__law_down (fun fd F => F.bindsN fun _ _ _ _ _ _ us hl => match us, hl with | [_], _ => rfl) fun f cdv A outer s H Ex E W C hE hn =>
 (show JSs _ E W _ b__law_down from
 (jss_cons (js_set 1 (jF_callTy call_intX r_int c.b_int (jA_cons (f_F (jf_var 0)) jA_nil) PyProof.Rows.Boot.«int») C.nd hE)
 (jss_cons (js_if (jT_chain op_lt op_lt (r_oI _) (r_oI _) (jF_neg (jF_op op_pow r_pow (f_F jf_int) (f_F jf_int))) (f_F (jf_var 1)) (jF_op op_pow r_pow (f_F jf_int) (f_F jf_int)))
 (jss_one (js_ret (f_F (jf_var 1))))
 jss_nil)
 (jss_cons (js_set 2 (jF_op op_pow r_pow (f_F jf_int) (f_F jf_int)) C.nd hE)
 (jss_cons (js_set 2 (jF_op op_mulX r_mul (jF_op op_mulX r_mul (jF_op op_mulX r_mul (jF_op op_mulX r_mul (f_F (jf_var 2)) (f_F (jf_var 2))) (f_F (jf_var 2))) (f_F (jf_var 2))) (f_F (jf_var 2))) C.nd hE)
 (jss_cons (js_if (jT_lt (jF_callB call_abs r_abs c.b_abs (jA_cons (f_F (jf_var 1)) jA_nil) PyProof.Rows.Boot.«abs») (f_F (jf_var 2)))
 (jss_one (js_ret (jF_callB call_abs r_abs c.b_abs (jA_cons (f_F (jf_var 1)) jA_nil) PyProof.Rows.Boot.«abs»)))
 jss_nil)
 (jss_one (js_ret (jF_op op_addX r_add (f_F (jf_var 2)) (jF_op op_mod r_mod (jF_callB call_abs r_abs c.b_abs (jA_cons (f_F (jf_var 1)) jA_nil) PyProof.Rows.Boot.«abs») (f_F (jf_var 2))))))))))))
/-! _law_store -/
abbrev N__law_store : List Str := ["script", "cells", "seed", "cell"]
def b__law_store : SC :=
 (sSeq (sSet 1 (iFz (iLc [3] (iLst (iFz (iSlL (iVar 0) iqNone (iqSome (iC (.int 63)))))) (gSlot 3) (fun ŝ => .ok true ŝ)
 (iCallA 1 m__law_down (iCons (iVar 3) iNil)))))
 (sSeq (sSet 2 (iC (.int 2000000011)))
 (sSeq (sFor (iLst (iVar 1)) (gSlot 3)
 (sSet 2 (iBin oMod (iBin oAdd (iBin oAdd (iBin oMul (iVar 2) (iC (.int 31))) (iBin oMod (iFn oInt (iCons (iVar 3) iNil)) (iC (.int 2147483563)))) (iC (.int 1))) (iC (.int 2147483563)))))
 (sRetO (iLs (iCons (iVar 1) (iCons (iC (.int 0)) (iCons (iC (.int 0)) (iCons (iC (.int 0)) (iCons (iC (.int 0)) (iCons (iVar 2) iNil)))))))))))
def m__law_store : FM := runB 4 [] b__law_store
theorem s__law_store : FnScope N__law_store ["script"] (defScope (top 30)) := ⟨rfl, rfl, rfl, by decide +kernel, rfl, by decide +kernel, by decide +kernel⟩
theorem ok__law_store (c : Facts P w K mg) : Cal P w K mg base 2 "_law_store" 1 [] m__law_store :=
 cal_of c.d__law_store s__law_store c.g__law_store (fun fd F => F.bindsN fun _ _ _ _ _ _ us hl => match us, hl with | [_], _ => rfl) fun f cdv A outer s H Ex E W C hE hn =>
 (show JSs _ E W _ b__law_store from
 (jss_cons (js_lc 1 [("cell", 3)] [3] C hE (ji_list (N_F (jN_slice (f_F (jf_var 0)) jQ_none (jQ_some (f_F jf_int))))) (blkOk_by (by kernel_rfl)) (fun _ _ _ _ _ _ C1 hE1 => (jg_name 3 C1.nd hE1)) (fun _ _ _ _ _ _ C1 hE1 => jts_nil)
 (fun _ _ _ _ _ _ C1 hE1 => (jF_callA (ok__law_down c) C1 (jA_cons (f_F (jf_var 3)) jA_nil))) (sw_true rfl rfl rfl (by decide +kernel)))
 (jss_cons (js_set 2 (f_F jf_int) C.nd hE)
 (jss_cons (js_for (vs := [3]) C (ji_list (f_F (jf_var 1))) (jg_name 3 C.nd hE)
 (jss_one (js_set 2 (jF_op op_mod r_mod (jF_op op_addX r_add (jF_op op_addX r_add (jF_op op_mulX r_mul (f_F (jf_var 2)) (f_F jf_int)) (jF_op op_mod r_mod (jF_callTy call_intX r_int c.b_int (jA_cons (f_F (jf_var 3)) jA_nil) PyProof.Rows.Boot.«int») (f_F jf_int))) (f_F jf_int)) (f_F jf_int)) C.nd hE)))
 (jss_one (js_retO (jN_lst (jA_cons (f_F (jf_var 1)) (jA_cons (f_F jf_int) (jA_cons (f_F jf_int) (jA_cons (f_F jf_int) (jA_cons (f_F jf_int) (jA_cons (f_F (jf_var 2)) jA_nil)))))))))))))
/-! _law_mixed -/
abbrev N__law_mixed : List Str := ["cell", "turn", "number", "step", "one", "two", "three"]
def b__law_mixed : SC :=
 (sSeq (sSet 2 (iFn oInt (iCons (iVar 0) iNil)))
 (sSeq (sSet 3 (iFn oInt (iCons (iVar 1) iNil)))
 (sSeq (sSet 4 (iBin oMod (iBin oAdd (iBin oAdd (iBin oMul (iBin oMod (iVar 2) (iC (.int 2147483647))) (iC (.int 48271))) (iBin oMul (iVar 3) (iC (.int 69621)))) (iC (.int 40692))) (iC (.int 2147483647))))
 (sSeq (sSet 4 (iBin oMod (iBin oAdd (iBin oAdd (iBin oMul (iVar 4) (iBin oAdd (iBin oMod (iVar 4) (iC (.int 65521))) (iC (.int 257)))) (iBin oMod (iBin oDiv (iVar 2) (iC (.int 2147483647))) (iC (.int 2147483629)))) (iC (.int 11))) (iC (.int 2147483647))))
 (sSeq (sSet 5 (iBin oMod (iBin oAdd (iBin oAdd (iBin oMul (iVar 4) (iBin oAdd (iBin oDiv (iVar 4) (iC (.int 4096))) (iC (.int 129)))) (iBin oMul (iVar 3) (iC (.int 16807)))) (iC (.int 7))) (iC (.int 2147483629))))
 (sSeq (sSet 6 (iBin oMod (iBin oAdd (iBin oMul (iVar 5) (iBin oAdd (iBin oDiv (iVar 5) (iC (.int 1024))) (iC (.int 521)))) (iVar 4)) (iC (.int 2147483587))))
 (sRet (iBin oAdd (iBin oMul (iVar 6) (iC (.int 2147483629))) (iVar 5)))))))))
def m__law_mixed : FM := runB 7 [] b__law_mixed
theorem s__law_mixed : FnScope N__law_mixed ["cell", "turn"] (defScope (top 31)) := ⟨rfl, rfl, rfl, by decide +kernel, rfl, by decide +kernel, by decide +kernel⟩
theorem ok__law_mixed (c : Facts P w K mg) : Cal P w K mg base 1 "_law_mixed" 2 [] m__law_mixed :=
 cal_of c.d__law_mixed s__law_mixed c.g__law_mixed (fun fd F => F.bindsN fun _ _ _ _ _ _ us hl => match us, hl with | [_, _], _ => rfl) fun f cdv A outer s H Ex E W C hE hn =>
 (show JSs _ E W _ b__law_mixed from
 (jss_cons (js_set 2 (jF_callTy call_intX r_int c.b_int (jA_cons (f_F (jf_var 0)) jA_nil) PyProof.Rows.Boot.«int») C.nd hE)
 (jss_cons (js_set 3 (jF_callTy call_intX r_int c.b_int (jA_cons (f_F (jf_var 1)) jA_nil) PyProof.Rows.Boot.«int») C.nd hE)
 (jss_cons (js_set 4 (jF_op op_mod r_mod (jF_op op_addX r_add (jF_op op_addX r_add (jF_op op_mulX r_mul (jF_op op_mod r_mod (f_F (jf_var 2)) (f_F jf_int)) (f_F jf_int)) (jF_op op_mulX r_mul (f_F (jf_var 3)) (f_F jf_int))) (f_F jf_int)) (f_F jf_int)) C.nd hE)
 (jss_cons (js_set 4 (jF_op op_mod r_mod (jF_op op_addX r_add (jF_op op_addX r_add (jF_op op_mulX r_mul (f_F (jf_var 4)) (jF_op op_addX r_add (jF_op op_mod r_mod (f_F (jf_var 4)) (f_F jf_int)) (f_F jf_int))) (jF_op op_mod r_mod (jF_op op_fdivW r_div (f_F (jf_var 2)) (f_F jf_int)) (f_F jf_int))) (f_F jf_int)) (f_F jf_int)) C.nd hE)
 (jss_cons (js_set 5 (jF_op op_mod r_mod (jF_op op_addX r_add (jF_op op_addX r_add (jF_op op_mulX r_mul (f_F (jf_var 4)) (jF_op op_addX r_add (jF_op op_fdivW r_div (f_F (jf_var 4)) (f_F jf_int)) (f_F jf_int))) (jF_op op_mulX r_mul (f_F (jf_var 3)) (f_F jf_int))) (f_F jf_int)) (f_F jf_int)) C.nd hE)
 (jss_cons (js_set 6 (jF_op op_mod r_mod (jF_op op_addX r_add (jF_op op_mulX r_mul (f_F (jf_var 5)) (jF_op op_addX r_add (jF_op op_fdivW r_div (f_F (jf_var 5)) (f_F jf_int)) (f_F jf_int))) (f_F (jf_var 4))) (f_F jf_int)) C.nd hE)
 (jss_one (js_ret (jF_op op_addX r_add (jF_op op_mulX r_mul (f_F (jf_var 6)) (f_F jf_int)) (f_F (jf_var 5))))))))))))
/-! _law_take -/
abbrev N__law_take : List Str := ["store", "many", "limit", "cell", "rest"]
def b__law_take : SC :=
 (sSeq (sSet 2 (iFn oInt (iCons (iVar 1) iNil)))
 (sSeq (sIf (iBl (iBin oLe (iVar 2) (iC (.int 1))))
 (sRet (iC (.int 0)))
 sSkip)
 (sSeq (sSetAt 0 (iBin oAdd (iIxO 0 (iC (.int 4))) (iC (.int 1))) (iC (.int 4)))
 (sSeq (sIf (ibAnd (iBl (iBin oLe (iIxO 0 (iC (.int 2))) (iC (.int 1)))) (ibAnd (iBl (iBin oLe (iIxO 0 (iC (.int 3))) (iC (.int 0)))) (iBl (iBin oLt (iIxO 0 (iC (.int 1))) (iFn oLen (iCons (iIxO 0 (iC (.int 0))) iNil))))))
 (sSeq (sSet 3 (iFn oInt (iCons (iBin oIx (iIxO 0 (iC (.int 0))) (iIxO 0 (iC (.int 1)))) iNil)))
 (sSeq (sSetAt 0 (iBin oAdd (iIxO 0 (iC (.int 1))) (iC (.int 1))) (iC (.int 1)))
 (sIf (iBl (iBin oGe (iVar 3) (iBin oPow (iC (.int 10)) (iC (.int 18)))))
 (sSetAt 0 (iVar 3) (iC (.int 2)))
 (sSetAt 0 (iC (.int 3)) (iC (.int 3))))))
 sSkip)
 (sSeq (sIf (iBl (iBin oGt (iIxO 0 (iC (.int 2))) (iC (.int 1))))
 (sSeq (sSet 4 (iFn oInt (iCons (iIxO 0 (iC (.int 2))) iNil)))
 (sSeq (sSetAt 0 (iBin oDiv (iVar 4) (iVar 2)) (iC (.int 2)))
 (sRet (iBin oMod (iVar 4) (iVar 2)))))
 sSkip)
 (sSeq (sIf (iBl (iBin oGt (iIxO 0 (iC (.int 3))) (iC (.int 0))))
 (sSeq (sSetAt 0 (iBin oSub (iIxO 0 (iC (.int 3))) (iC (.int 1))) (iC (.int 3)))
 (sRet (iBin oMod (iFn oInt (iCons (iCallA 2 m__law_mixed (iCons (iBin oIx (iIxO 0 (iC (.int 0))) (iBin oSub (iIxO 0 (iC (.int 1))) (iC (.int 1)))) (iCons (iIxO 0 (iC (.int 4))) iNil))) iNil)) (iVar 2))))
 sSkip)
 (sRet (iBin oMod (iFn oInt (iCons (iCallA 2 m__law_mixed (iCons (iIxO 0 (iC (.int 5))) (iCons (iIxO 0 (iC (.int 4))) iNil))) iNil)) (iVar 2)))))))))
def m__law_take : FM := runB 5 [0] b__law_take
theorem s__law_take : FnScope N__law_take ["store", "many"] (defScope (top 32)) := ⟨rfl, rfl, rfl, by decide +kernel, rfl, by decide +kernel, by decide +kernel⟩
theorem ok__law_take (c : Facts P w K mg) : Cal P w K mg base 2 "_law_take" 2 [0] m__law_take :=
 cal_of c.d__law_take s__law_take c.g__law_take (fun fd F => F.bindsN fun _ _ _ _ _ _ us hl => match us, hl with | [_, _], _ => rfl) fun f cdv A outer s H Ex E W C hE hn =>
 (show JSs _ E W _ b__law_take from
 (jss_cons (js_set 2 (jF_callTy call_intX r_int c.b_int (jA_cons (f_F (jf_var 1)) jA_nil) PyProof.Rows.Boot.«int») C.nd hE)
 (jss_cons (js_if (jT_le (f_F (jf_var 2)) (f_F jf_int))
 (jss_one (js_ret (f_F jf_int)))
 jss_nil)
 (jss_cons (js_setAt 0 (jF_op op_addX r_add (jF_ixO 0 (f_F jf_int)) (f_F jf_int)) (f_F jf_int))
 (jss_cons (js_if (jW_and (jT_le (jF_ixO 0 (f_F jf_int)) (f_F jf_int)) (jW_and (jT_le (jF_ixO 0 (f_F jf_int)) (f_F jf_int)) (jW_and1 (jT_lt (jF_ixO 0 (f_F jf_int)) (jF_callB call_len r_len c.b_len (jA_cons (jF_ixO 0 (f_F jf_int)) jA_nil) PyProof.Rows.Boot.«len»))))).pt
 (jss_cons (js_set 3 (jF_callTy call_intX r_int c.b_int (jA_cons (jF_ix (jF_ixO 0 (f_F jf_int)) (jF_ixO 0 (f_F jf_int))) jA_nil) PyProof.Rows.Boot.«int») C.nd hE)
 (jss_cons (js_setAt 0 (jF_op op_addX r_add (jF_ixO 0 (f_F jf_int)) (f_F jf_int)) (f_F jf_int))
 (jss_one (js_if (jT_ge (f_F (jf_var 3)) (jF_op op_pow r_pow (f_F jf_int) (f_F jf_int)))
 (jss_one (js_setAt 0 (f_F (jf_var 3)) (f_F jf_int)))
 (jss_one (js_setAt 0 (f_F jf_int) (f_F jf_int)))))))
 jss_nil)
 (jss_cons (js_if (jT_gt (jF_ixO 0 (f_F jf_int)) (f_F jf_int))
 (jss_cons (js_set 4 (jF_callTy call_intX r_int c.b_int (jA_cons (jF_ixO 0 (f_F jf_int)) jA_nil) PyProof.Rows.Boot.«int») C.nd hE)
 (jss_cons (js_setAt 0 (jF_op op_fdivW r_div (f_F (jf_var 4)) (f_F (jf_var 2))) (f_F jf_int))
 (jss_one (js_ret (jF_op op_mod r_mod (f_F (jf_var 4)) (f_F (jf_var 2)))))))
 jss_nil)
 (jss_cons (js_if (jT_gt (jF_ixO 0 (f_F jf_int)) (f_F jf_int))
 (jss_cons (js_setAt 0 (jF_op op_sub r_sub (jF_ixO 0 (f_F jf_int)) (f_F jf_int)) (f_F jf_int))
 (jss_one (js_ret (jF_op op_mod r_mod (jF_callTy call_intX r_int c.b_int (jA_cons (jF_callA (ok__law_mixed c) C (jA_cons (jF_ix (jF_ixO 0 (f_F jf_int)) (jF_op op_sub r_sub (jF_ixO 0 (f_F jf_int)) (f_F jf_int))) (jA_cons (jF_ixO 0 (f_F jf_int)) jA_nil))) jA_nil) PyProof.Rows.Boot.«int») (f_F (jf_var 2))))))
 jss_nil)
 (jss_one (js_ret (jF_op op_mod r_mod (jF_callTy call_intX r_int c.b_int (jA_cons (jF_callA (ok__law_mixed c) C (jA_cons (jF_ixO 0 (f_F jf_int)) (jA_cons (jF_ixO 0 (f_F jf_int)) jA_nil))) jA_nil) PyProof.Rows.Boot.«int») (f_F (jf_var 2))))))))))))
/-! _law_pick -/
abbrev N__law_pick : List Str := ["store", "row"]
def b__law_pick : SC :=
 (sRet (iBin oIx (iVar 1) (iCall 2 m__law_take 0 (iCons (iFn oLen (iCons (iVar 1) iNil)) iNil))))
def m__law_pick : FM := runB 2 [0] b__law_pick
theorem s__law_pick : FnScope N__law_pick ["store", "row"] (defScope (top 34)) := ⟨rfl, rfl, rfl, by decide +kernel, rfl, by decide +kernel, by decide +kernel⟩
theorem ok__law_pick (c : Facts P w K mg) : Cal P w K mg base 3 "_law_pick" 2 [0] m__law_pick :=
 cal_of c.d__law_pick s__law_pick c.g__law_pick (fun fd F => F.bindsN fun _ _ _ _ _ _ us hl => match us, hl with | [_, _], _ => rfl) fun f cdv A outer s H Ex E W C hE hn =>
 (show JSs _ E W _ b__law_pick from
 (jss_one (js_ret (jF_ix (f_F (jf_var 1)) (jF_call (ok__law_take c) C 0 (jA_cons (jF_callB call_len r_len c.b_len (jA_cons (f_F (jf_var 1)) jA_nil) PyProof.Rows.Boot.«len») jA_nil))))))
/-! _law_shuffled -/
abbrev N__law_shuffled : List Str := ["store", "row", "found", "k"]
def b__law_shuffled : SC :=
 (sSeq (sSetO 2 (iLs iNil))
 (sSeq (sFor (iRng1 (iFn oLen (iCons (iVar 1) iNil))) (gSlot 3)
 (sDrop (iOwn 2 gInsert (iCons (iCall 2 m__law_take 0 (iCons (iBin oAdd (iVar 3) (iC (.int 1))) iNil)) (iCons (iBin oIx (iVar 1) (iVar 3)) iNil)))))
 (sRetO (iMove 2))))
def m__law_shuffled : FM := runB 4 [0] b__law_shuffled
theorem s__law_shuffled : FnScope N__law_shuffled ["store", "row"] (defScope (top 35)) := ⟨rfl, rfl, rfl, by decide +kernel, rfl, by decide +kernel, by decide +kernel⟩
theorem ok__law_shuffled (c : Facts P w K mg) : Cal P w K mg base 3 "_law_shuffled" 2 [0] m__law_shuffled :=
 cal_of c.d__law_shuffled s__law_shuffled c.g__law_shuffled (fun fd F => F.bindsN fun _ _ _ _ _ _ us hl => match us, hl with | [_, _], _ => rfl) fun f cdv A outer s H Ex E W C hE hn =>
 (show JSs _ E W _ b__law_shuffled from
 (jss_cons (js_setO 2 (jN_lst jA_nil) C.nd hE)
 (jss_cons (js_for (vs := [3]) C (ji_range1 (jF_callB call_len r_len c.b_len (jA_cons (f_F (jf_var 1)) jA_nil) PyProof.Rows.Boot.«len») c.b_range) (jg_name 3 C.nd hE)
 (jss_one (js_expr (jF_mt r_insert 2 PySem.F.slot_list_insert PySem.F.type_list_insert mt_insert (jA_cons (jF_call (ok__law_take c) C 0 (jA_cons (jF_op op_addX r_add (f_F (jf_var 3)) (f_F jf_int)) jA_nil)) (jA_cons (jF_ix (f_F (jf_var 1)) (f_F (jf_var 3))) jA_nil))))))
 (jss_one (js_retO (jN_move 2 hE))))))
/-! _law_names -/
abbrev N__law_names : List Str := ["store", "count", "letters", "way", "start", "words", "stem", "at", "k"]
def b__law_names : SC :=
 (sSeq (sSet 2 (iC (.str "abcdefghijklmnopqrstuvwxyzABCDEFGHIJKLMNOPQRSTUVWXYZ")))
 (sSeq (sSet 3 (iCall 2 m__law_take 0 (iCons (iC (.int 4)) iNil)))
 (sSeq (sSet 4 (iCall 2 m__law_take 0 (iCons (iC (.int 52)) iNil)))
 (sSeq (sIf (iBl (iBin oEq (iVar 3) (iC (.int 0))))
 (sSeq (sSet 5 (iCall 2 m__law_shuffled 0 (iCons (iFz (iLs (iCons (iC (.str "table")) (iCons (iC (.str "figure")) (iCons (iC (.str "book")) (iCons (iC (.str "groups")) (iCons (iC (.str "keep")) (iCons (iC (.str "none")) (iCons (iC (.str "all")) iNil))))))))) iNil)))
 (sRetO (iSlL (iVar 5) iqNone (iqSome (iVar 1)))))
 sSkip)
 (sSeq (sIf (iBl (iBin oEq (iVar 3) (iC (.int 1))))
 (sRetO (iLc [8] (iRng1 (iVar 1)) (gSlot 8) (fun ŝ => .ok true ŝ)
 (iBin oMulS (iBin oIx (iVar 2) (iVar 4)) (iBin oSub (iVar 1) (iVar 8)))))
 sSkip)
 (sSeq (sSet 6 (iMt oJoin (iC (.str "")) (iCons (iFz (iLc [8] (iRng1 (iCall 2 m__law_take 0 (iCons (iC (.int 8)) iNil))) (gSlot 8) (fun ŝ => .ok true ŝ)
 (iCall 2 m__law_pick 0 (iCons (iVar 2) iNil)))) iNil)))
 (sSeq (sSet 7 (iCall 2 m__law_take 0 (iCons (iBin oAdd (iFn oLen (iCons (iVar 6) iNil)) (iC (.int 1))) iNil)))
 (sRetO (iLc [8] (iRng1 (iVar 1)) (gSlot 8) (fun ŝ => .ok true ŝ)
 (iBin oAdd (iBin oAdd (iSlT (iVar 6) iqNone (iqSome (iVar 7))) (iBin oIx (iVar 2) (iBin oMod (iFn oInt (iCons (iBin oAdd (iVar 4) (iVar 8)) iNil)) (iC (.int 52))))) (iSlT (iVar 6) (iqSome (iVar 7)) iqNone)))))))))))
def m__law_names : FM := runB 9 [0] b__law_names
theorem s__law_names : FnScope N__law_names ["store", "count"] (defScope (top 40)) := ⟨rfl, rfl, rfl, by decide +kernel, rfl, by decide +kernel, by decide +kernel⟩
theorem ok__law_names (c : Facts P w K mg) : Cal P w K mg base 4 "_law_names" 2 [0] m__law_names :=
 cal_of c.d__law_names s__law_names c.g__law_names (fun fd F => F.bindsN fun _ _ _ _ _ _ us hl => match us, hl with | [_, _], _ => rfl) fun f cdv A outer s H Ex E W C hE hn =>
 (show JSs _ E W _ b__law_names from
 (jss_cons (js_set 2 (f_F jf_str) C.nd hE)
 (jss_cons (js_set 3 (jF_call (ok__law_take c) C 0 (jA_cons (f_F jf_int) jA_nil)) C.nd hE)
 (jss_cons (js_set 4 (jF_call (ok__law_take c) C 0 (jA_cons (f_F jf_int) jA_nil)) C.nd hE)
 (jss_cons (js_if (jT_eq C (f_F (jf_var 3)) (f_F jf_int))
 (jss_cons (js_set 5 (jF_call (ok__law_shuffled c) C 0 (jA_cons (N_F (jN_lst (jA_cons (f_F jf_str) (jA_cons (f_F jf_str) (jA_cons (f_F jf_str) (jA_cons (f_F jf_str) (jA_cons (f_F jf_str) (jA_cons (f_F jf_str) (jA_cons (f_F jf_str) jA_nil))))))))) jA_nil)) C.nd hE)
 (jss_one (js_retO (jN_slice (f_F (jf_var 5)) jQ_none (jQ_some (f_F (jf_var 1)))))))
 jss_nil)
 (jss_cons (js_if (jT_eq C (f_F (jf_var 3)) (f_F jf_int))
 (jss_one (js_retO (jN_lc [("k", 8)] [8] C hE (ji_range1 (f_F (jf_var 1)) c.b_range) (blkOk_by (by kernel_rfl)) (fun _ _ _ _ _ _ C1 hE1 => (jg_name 8 C1.nd hE1)) (fun _ _ _ _ _ _ C1 hE1 => jts_nil)
 (fun _ _ _ _ _ _ C1 hE1 => (jF_op op_mulS r_mulS (jF_ix (f_F (jf_var 2)) (f_F (jf_var 4))) (jF_op op_sub r_sub (f_F (jf_var 1)) (f_F (jf_var 8))))))))
 jss_nil)
 (jss_cons (js_set 6 (jF_mts r_join PySem.F.slot_str_join PySem.F.type_str_join mt_join (f_F jf_str) (jA_cons (N_F (jN_lc [("k", 8)] [8] C hE (ji_range1 (jF_call (ok__law_take c) C 0 (jA_cons (f_F jf_int) jA_nil)) c.b_range) (blkOk_by (by kernel_rfl)) (fun _ _ _ _ _ _ C1 hE1 => (jg_name 8 C1.nd hE1)) (fun _ _ _ _ _ _ C1 hE1 => jts_nil)
 (fun _ _ _ _ _ _ C1 hE1 => (jF_call (ok__law_pick c) C1 0 (jA_cons (f_F (jf_var 2)) jA_nil))))) jA_nil)) C.nd hE)
 (jss_cons (js_set 7 (jF_call (ok__law_take c) C 0 (jA_cons (jF_op op_addX r_add (jF_callB call_len r_len c.b_len (jA_cons (f_F (jf_var 6)) jA_nil) PyProof.Rows.Boot.«len») (f_F jf_int)) jA_nil)) C.nd hE)
 (jss_one (js_retO (jN_lc [("k", 8)] [8] C hE (ji_range1 (f_F (jf_var 1)) c.b_range) (blkOk_by (by kernel_rfl)) (fun _ _ _ _ _ _ C1 hE1 => (jg_name 8 C1.nd hE1)) (fun _ _ _ _ _ _ C1 hE1 => jts_nil)
 (fun _ _ _ _ _ _ C1 hE1 => (jF_op op_addX r_add (jF_op op_addX r_add (jF_slice (f_F (jf_var 6)) jQ_none (jQ_some (f_F (jf_var 7)))) (jF_ix (f_F (jf_var 2)) (jF_op op_mod r_mod (jF_callTy call_intX r_int c.b_int (jA_cons (jF_op op_addX r_add (f_F (jf_var 4)) (f_F (jf_var 8))) jA_nil) PyProof.Rows.Boot.«int») (f_F jf_int)))) (jF_slice (f_F (jf_var 6)) (jQ_some (f_F (jf_var 7))) jQ_none))))))))))))))
/-! _law_word -/
abbrev N__law_word : List Str := ["store"]
def b__law_word : SC :=
 (sRet (iCall 2 m__law_pick 0 (iCons (iFz (iLs (iCons (iC (.str "all")) (iCons (iC (.str "roads")) (iCons (iC (.str "trees")) iNil))))) iNil)))
def m__law_word : FM := runB 1 [0] b__law_word
theorem s__law_word : FnScope N__law_word ["store"] (defScope (top 37)) := ⟨rfl, rfl, rfl, by decide +kernel, rfl, by decide +kernel, by decide +kernel⟩
theorem ok__law_word (c : Facts P w K mg) : Cal P w K mg base 4 "_law_word" 1 [0] m__law_word :=
 cal_of c.d__law_word s__law_word c.g__law_word (fun fd F => F.bindsN fun _ _ _ _ _ _ us hl => match us, hl with | [_], _ => rfl) fun f cdv A outer s H Ex E W C hE hn =>
 (show JSs _ E W _ b__law_word from
 (jss_one (js_ret (jF_call (ok__law_pick c) C 0 (jA_cons (N_F (jN_lst (jA_cons (f_F jf_str) (jA_cons (f_F jf_str) (jA_cons (f_F jf_str) jA_nil))))) jA_nil)))))
/-! _law_order_number -/
abbrev N__law_order_number : List Str := ["store"]
def b__law_order_number : SC :=
 (sSeq (sIf (iBl (iBin oEq (iCall 2 m__law_take 0 (iCons (iC (.int 5)) iNil)) (iC (.int 0))))
 (sRet (iCall 2 m__law_pick 0 (iCons (iFz (iLs (iCons (iC (.int 0)) (iCons (iC (.int 10)) (iCons (iBin oPow (iC (.int 10)) (iC (.int 9))) (iCons (iBin oAdd (iBin oPow (iC (.int 10)) (iC (.int 9))) (iC (.int 1))) (iCons (iBin oSub (iBin oPow (iC (.int 10)) (iC (.int 12))) (iC (.int 1))) (iCons (iCall 2 m__law_take 0 (iCons (iBin oPow (iC (.int 10)) (iC (.int 12))) iNil)) iNil)))))))) iNil)))
 sSkip)
 (sRet (iCall 2 m__law_take 0 (iCons (iC (.int 5)) iNil))))
def m__law_order_number : FM := runB 1 [0] b__law_order_number
theorem s__law_order_number : FnScope N__law_order_number ["store"] (defScope (top 42)) := ⟨rfl, rfl, rfl, by decide +kernel, rfl, by decide +kernel, by decide +kernel⟩
theorem ok__law_order_number (c : Facts P w K mg) : Cal P w K mg base 4 "_law_order_number" 1 [0] m__law_order_number :=
 cal_of c.d__law_order_number s__law_order_number c.g__law_order_number (fun fd F => F.bindsN fun _ _ _ _ _ _ us hl => match us, hl with | [_], _ => rfl) fun f cdv A outer s H Ex E W C hE hn =>
 (show JSs _ E W _ b__law_order_number from
 (jss_cons (js_if (jT_eq C (jF_call (ok__law_take c) C 0 (jA_cons (f_F jf_int) jA_nil)) (f_F jf_int))
 (jss_one (js_ret (jF_call (ok__law_pick c) C 0 (jA_cons (N_F (jN_lst (jA_cons (f_F jf_int) (jA_cons (f_F jf_int) (jA_cons (jF_op op_pow r_pow (f_F jf_int) (f_F jf_int)) (jA_cons (jF_op op_addX r_add (jF_op op_pow r_pow (f_F jf_int) (f_F jf_int)) (f_F jf_int)) (jA_cons (jF_op op_sub r_sub (jF_op op_pow r_pow (f_F jf_int) (f_F jf_int)) (f_F jf_int)) (jA_cons (jF_call (ok__law_take c) C 0 (jA_cons (jF_op op_pow r_pow (f_F jf_int) (f_F jf_int)) jA_nil)) jA_nil)))))))) jA_nil))))
 jss_nil)
 (jss_one (js_ret (jF_call (ok__law_take c) C 0 (jA_cons (f_F jf_int) jA_nil))))))
/-! _law_free_text -/
abbrev N__law_free_text : List Str := ["store", "signs", "words", "k", "m"]
def b__law_free_text : SC :=
 (sSeq (sSet 1 (iC (.str "!\"#$&'()*+,-./0123456789:;<=>?@ABCDEFGHIJKLMNOPQRSTUVWXYZ[\\]^_`")))
 (sSeq (sSet 1 (iBin oAdd (iVar 1) (iC (.str "abcdefghijklmnopqrstuvwxyz{|}~"))))
 (sSeq (sIf (iBl (iBin oEq (iCall 2 m__law_take 0 (iCons (iC (.int 8)) iNil)) (iC (.int 0))))
 (sRet (iBin oMulS (iCall 2 m__law_pick 0 (iCons (iVar 1) iNil)) (iBin oAdd (iC (.int 1)) (iCall 2 m__law_take 0 (iCons (iC (.int 150)) iNil)))))
 sSkip)
 (sSeq (sSetO 2 (iLs iNil))
 (sSeq (sFor (iRng1 (iBin oAdd (iC (.int 1)) (iCall 2 m__law_take 0 (iCons (iC (.int 5)) iNil)))) (gSlot 3)
 (sDrop (iOwn 2 gAppend (iCons (iMt oJoin (iC (.str "")) (iCons (iFz (iLc [4] (iRng1 (iBin oAdd (iC (.int 1)) (iCall 2 m__law_take 0 (iCons (iC (.int 6)) iNil)))) (gSlot 4) (fun ŝ => .ok true ŝ)
 (iCall 2 m__law_pick 0 (iCons (iVar 1) iNil)))) iNil)) iNil))))
 (sPre 2 (sRet (iMt oJoin (iC (.str " ")) (iCons (iVar 2) iNil)))))))))
def m__law_free_text : FM := runB 5 [0] b__law_free_text
theorem s__law_free_text : FnScope N__law_free_text ["store"] (defScope (top 41)) := ⟨rfl, rfl, rfl, by decide +kernel, rfl, by decide +kernel, by decide +kernel⟩
theorem ok__law_free_text (c : Facts P w K mg) : Cal P w K mg base 4 "_law_free_text" 1 [0] m__law_free_text :=
 cal_of c.d__law_free_text s__law_free_text c.g__law_free_text (fun fd F => F.bindsN fun _ _ _ _ _ _ us hl => match us, hl with | [_], _ => rfl) fun f cdv A outer s H Ex E W C hE hn =>
 (show JSs _ E W _ b__law_free_text from
 (jss_cons (js_set 1 (f_F jf_str) C.nd hE)
 (jss_cons (js_set 1 (jF_op op_addX r_add (f_F (jf_var 1)) (f_F jf_str)) C.nd hE)
 (jss_cons (js_if (jT_eq C (jF_call (ok__law_take c) C 0 (jA_cons (f_F jf_int) jA_nil)) (f_F jf_int))
 (jss_one (js_ret (jF_op op_mulS r_mulS (jF_call (ok__law_pick c) C 0 (jA_cons (f_F (jf_var 1)) jA_nil)) (jF_op op_addX r_add (f_F jf_int) (jF_call (ok__law_take c) C 0 (jA_cons (f_F jf_int) jA_nil))))))
 jss_nil)
 (jss_cons (js_setO 2 (jN_lst jA_nil) C.nd hE)
 (jss_cons (js_for (vs := [3]) C (ji_range1 (jF_op op_addX r_add (f_F jf_int) (jF_call (ok__law_take c) C 0 (jA_cons (f_F jf_int) jA_nil))) c.b_range) (jg_name 3 C.nd hE)
 (jss_one (js_expr (jF_mt r_append 2 PySem.F.slot_list_append PySem.F.type_list_append mt_append (jA_cons (jF_mts r_join PySem.F.slot_str_join PySem.F.type_str_join mt_join (f_F jf_str) (jA_cons (N_F (jN_lc [("m", 4)] [4] C hE (ji_range1 (jF_op op_addX r_add (f_F jf_int) (jF_call (ok__law_take c) C 0 (jA_cons (f_F jf_int) jA_nil))) c.b_range) (blkOk_by (by kernel_rfl)) (fun _ _ _ _ _ _ C1 hE1 => (jg_name 4 C1.nd hE1)) (fun _ _ _ _ _ _ C1 hE1 => jts_nil)
 (fun _ _ _ _ _ _ C1 hE1 => (jF_call (ok__law_pick c) C1 0 (jA_cons (f_F (jf_var 1)) jA_nil))))) jA_nil)) jA_nil)))))
 (jss_one (js_pre 2 hE (js_ret (jF_mts r_join PySem.F.slot_str_join PySem.F.type_str_join mt_join (f_F jf_str) (jA_cons (f_F (jf_var 2)) jA_nil)))))))))))
/-! _law_third -/
abbrev N__law_third : List Str := ["store"]
def b__law_third : SC :=
 (sRet (iBin oEq (iCall 2 m__law_take 0 (iCons (iC (.int 3)) iNil)) (iC (.int 0))))
def m__law_third : FM := runB 1 [0] b__law_third
theorem s__law_third : FnScope N__law_third ["store"] (defScope (top 33)) := ⟨rfl, rfl, rfl, by decide +kernel, rfl, by decide +kernel, by decide +kernel⟩
theorem ok__law_third (c : Facts P w K mg) : Cal P w K mg base 3 "_law_third" 1 [0] m__law_third :=
 cal_of c.d__law_third s__law_third c.g__law_third (fun fd F => F.bindsN fun _ _ _ _ _ _ us hl => match us, hl with | [_], _ => rfl) fun f cdv A outer s H Ex E W C hE hn =>
 (show JSs _ E W _ b__law_third from
 (jss_one (js_ret (jF_eq C (jF_call (ok__law_take c) C 0 (jA_cons (f_F jf_int) jA_nil)) (f_F jf_int)))))
/-! _law_size -/
abbrev N__law_size : List Str := ["store", "most"]
def b__law_size : SC :=
 (sSeq (sIf (iBl (iCall 1 m__law_third 0 iNil))
 (sRet (iFn oMin (iCons (iVar 1) (iCons (iCall 2 m__law_pick 0 (iCons (iFz (iLs (iCons (iC (.int 0)) (iCons (iC (.int 1)) (iCons (iC (.int 2)) (iCons (iVar 1) iNil)))))) iNil)) iNil))))
 sSkip)
 (sRet (iCall 2 m__law_take 0 (iCons (iBin oAdd (iVar 1) (iC (.int 1))) iNil))))
def m__law_size : FM := runB 2 [0] b__law_size
theorem s__law_size : FnScope N__law_size ["store", "most"] (defScope (top 36)) := ⟨rfl, rfl, rfl, by decide +kernel, rfl, by decide +kernel, by decide +kernel⟩
theorem ok__law_size (c : Facts P w K mg) : Cal P w K mg base 4 "_law_size" 2 [0] m__law_size :=
 cal_of c.d__law_size s__law_size c.g__law_size (fun fd F => F.bindsN fun _ _ _ _ _ _ us hl => match us, hl with | [_, _], _ => rfl) fun f cdv A outer s H Ex E W C hE hn =>
 (show JSs _ E W _ b__law_size from
 (jss_cons (js_if (jT_pv (jF_call (ok__law_third c) C 0 jA_nil))
 (jss_one (js_ret (jF_callB (call_minX C.calm) r_min c.b_min (jA_cons (f_F (jf_var 1)) (jA_cons (jF_call (ok__law_pick c) C 0 (jA_cons (N_F (jN_lst (jA_cons (f_F jf_int) (jA_cons (f_F jf_int) (jA_cons (f_F jf_int) (jA_cons (f_F (jf_var 1)) jA_nil)))))) jA_nil)) jA_nil)) PyProof.Rows.Boot.«min»)))
 jss_nil)
 (jss_one (js_ret (jF_call (ok__law_take c) C 0 (jA_cons (jF_op op_addX r_add (f_F (jf_var 1)) (f_F jf_int)) jA_nil))))))
/-! _law_order -/
abbrev N__law_order : List Str := ["store", "names", "numbers", "word", "rows", "way", "k"]
def b__law_order : SC :=
 (sSeq (sSet 1 (iCall 2 m__law_names 0 (iCons (iC (.int 3)) iNil)))
 (sSeq (sSet 2 (iFz (iLc [6] (iRng1 (iC (.int 4))) (gSlot 6) (fun ŝ => .ok true ŝ)
 (iCall 1 m__law_order_number 0 iNil))))
 (sSeq (sSet 3 (iCall 1 m__law_word 0 iNil))
 (sSeq (sSet 4 (iFz (iLs (iCons (iTupD (iCons (iC (.str "back")) iNil)) (iCons (iTupD (iCons (iC (.str "drop")) (iCons (iBin oIx (iVar 2) (iC (.int 0))) iNil))) (iCons (iTupD (iCons (iC (.str "scale")) (iCons (iBin oIx (iVar 2) (iC (.int 0))) iNil))) (iCons (iTupD (iCons (iC (.str "put")) (iCons (iBin oIx (iVar 2) (iC (.int 0))) (iCons (iBin oIx (iVar 2) (iC (.int 1))) (iCons (iBin oIx (iVar 2) (iC (.int 2))) iNil))))) iNil)))))))
 (sSeq (sSet 4 (iFz (iBinN oCatD (iVar 4) (iFz (iLs (iCons (iTupD (iCons (iC (.str "tree")) (iCons (iBin oIx (iVar 1) (iC (.int 0))) (iCons (iBin oIx (iVar 1) (iC (.int 1))) iNil)))) (iCons (iTupD (iCons (iC (.str "steady")) (iCons (iBin oIx (iVar 1) (iC (.int 0))) iNil))) (iCons (iTupD (iCons (iC (.str "lay")) (iCons (iBin oIx (iVar 1) (iC (.int 0))) iNil))) (iCons (iTupD (iCons (iC (.str "least")) (iCons (iBin oIx (iVar 1) (iC (.int 0))) (iCons (iVar 3) iNil)))) iNil)))))))))
 (sSeq (sSet 4 (iFz (iBinN oCatD (iVar 4) (iFz (iLs (iCons (iTupD (iCons (iC (.str "groups")) (iCons (iBin oIx (iVar 1) (iC (.int 0))) (iCons (iBin oIx (iVar 1) (iC (.int 1))) (iCons (iBin oIx (iVar 2) (iC (.int 0))) iNil))))) (iCons (iTupD (iCons (iC (.str "keep")) (iCons (iBin oIx (iVar 1) (iC (.int 0))) (iCons (iBin oIx (iVar 1) (iC (.int 1))) (iCons (iBin oIx (iVar 2) (iC (.int 0))) iNil))))) iNil)))))))
 (sSeq (sSet 4 (iFz (iBinN oCatD (iVar 4) (iFz (iLs (iCons (iTupD (iCons (iC (.str "chain")) (iCons (iBin oIx (iVar 1) (iC (.int 0))) (iCons (iBin oIx (iVar 1) (iC (.int 1))) (iCons (iBin oIx (iVar 2) (iC (.int 0))) (iCons (iBin oIx (iVar 2) (iC (.int 1))) (iCons (iBin oIx (iVar 2) (iC (.int 2))) iNil))))))) iNil))))))
 (sSeq (sSet 4 (iFz (iBinN oCatD (iVar 4) (iFz (iLs (iCons (iTupD (iCons (iC (.str "compare")) (iCons (iBin oIx (iVar 1) (iC (.int 0))) (iCons (iBin oIx (iVar 1) (iC (.int 1))) (iCons (iVar 3) iNil))))) (iCons (iTupD (iCons (iC (.str "price")) (iCons (iBin oIx (iVar 1) (iC (.int 0))) (iCons (iBin oIx (iVar 1) (iC (.int 1))) (iCons (iBin oIx (iVar 2) (iC (.int 0))) iNil))))) iNil)))))))
 (sSeq (sSet 4 (iFz (iBinN oCatD (iVar 4) (iFz (iLs (iCons (iTupD (iCons (iC (.str "learn")) (iCons (iBin oIx (iVar 2) (iC (.int 0))) (iCons (iBin oIx (iVar 2) (iC (.int 1))) iNil)))) (iCons (iTupD (iCons (iC (.str "axioms")) (iCons (iBin oIx (iVar 1) (iC (.int 0))) (iCons (iBin oIx (iVar 2) (iC (.int 0))) (iCons (iBin oIx (iVar 2) (iC (.int 1))) iNil))))) iNil)))))))
 (sSeq (sSet 4 (iFz (iBinN oCatD (iVar 4) (iFz (iLs (iCons (iTupD (iCons (iC (.str "wide")) (iCons (iBin oIx (iVar 1) (iC (.int 0))) (iCons (iBin oIx (iVar 1) (iC (.int 1))) (iCons (iBin oIx (iVar 2) (iC (.int 0))) (iCons (iBin oIx (iVar 2) (iC (.int 1))) iNil)))))) iNil))))))
 (sSeq (sSet 5 (iCall 2 m__law_take 0 (iCons (iBin oAdd (iFn oLen (iCons (iVar 4) iNil)) (iC (.int 8))) iNil)))
 (sSeq (sIf (iBl (iBin oLt (iVar 5) (iFn oLen (iCons (iVar 4) iNil))))
 (sRet (iBin oIx (iVar 4) (iVar 5)))
 sSkip)
 (sSeq (sIf (iBl (iBin oLt (iVar 5) (iBin oAdd (iFn oLen (iCons (iVar 4) iNil)) (iC (.int 3)))))
 (sRet (iTupD (iCons (iBin oIx (iFz (iLs (iCons (iC (.str "table")) (iCons (iC (.str "figure")) (iCons (iC (.str "rule")) iNil))))) (iBin oSub (iVar 5) (iFn oLen (iCons (iVar 4) iNil)))) (iCons (iBin oIx (iVar 1) (iC (.int 0))) (iCons (iCall 1 m__law_free_text 0 iNil) iNil)))))
 sSkip)
 (sSeq (sIf (iBl (iBin oLt (iVar 5) (iBin oAdd (iFn oLen (iCons (iVar 4) iNil)) (iC (.int 5)))))
 (sRet (iTupD (iCons (iC (.str "sample")) (iCons (iBin oIx (iVar 1) (iC (.int 0))) (iCons (iBin oIx (iVar 2) (iC (.int 0))) (iCons (iCall 1 m__law_free_text 0 iNil) iNil))))))
 sSkip)
 (sSeq (sIf (iBl (iBin oEq (iVar 5) (iBin oAdd (iFn oLen (iCons (iVar 4) iNil)) (iC (.int 5)))))
 (sRet (iTupD (iCons (iC (.str "grow")) (iCons (iFz (iLc [6] (iRng1 (iCall 2 m__law_size 0 (iCons (iC (.int 11)) iNil))) (gSlot 6) (fun ŝ => .ok true ŝ)
 (iCall 1 m__law_order_number 0 iNil))) iNil))))
 sSkip)
 (sRet (iTupD (iCons (iC (.str "book")) (iCons (iBin oIx (iVar 1) (iC (.int 0))) (iCons (iFz (iLc [6] (iRng1 (iCall 2 m__law_size 0 (iCons (iC (.int 18)) iNil))) (gSlot 6) (fun ŝ => .ok true ŝ)
 (iCall 2 m__law_pick 0 (iCons (iVar 1) iNil)))) iNil))))))))))))))))))))
def m__law_order : FM := runB 7 [0] b__law_order
theorem s__law_order : FnScope N__law_order ["store"] (defScope (top 43)) := ⟨rfl, rfl, rfl, by decide +kernel, rfl, by decide +kernel, by decide +kernel⟩
theorem ok__law_order (c : Facts P w K mg) : Cal P w K mg base 5 "_law_order" 1 [0] m__law_order :=
 cal_of c.d__law_order s__law_order c.g__law_order (fun fd F => F.bindsN fun _ _ _ _ _ _ us hl => match us, hl with | [_], _ => rfl) fun f cdv A outer s H Ex E W C hE hn =>
 (show JSs _ E W _ b__law_order from
 (jss_cons (js_set 1 (jF_call (ok__law_names c) C 0 (jA_cons (f_F jf_int) jA_nil)) C.nd hE)
 (jss_cons (js_lc 2 [("k", 6)] [6] C hE (ji_range1 (f_F jf_int) c.b_range) (blkOk_by (by kernel_rfl)) (fun _ _ _ _ _ _ C1 hE1 => (jg_name 6 C1.nd hE1)) (fun _ _ _ _ _ _ C1 hE1 => jts_nil)
 (fun _ _ _ _ _ _ C1 hE1 => (jF_call (ok__law_order_number c) C1 0 jA_nil)) (sw_true rfl rfl rfl (by decide +kernel)))
 (jss_cons (js_set 3 (jF_call (ok__law_word c) C 0 jA_nil) C.nd hE)
 (jss_cons (js_set 4 (N_F (jN_lst (jA_cons (jF_tup (jA_cons (f_F jf_str) jA_nil)) (jA_cons (jF_tup (jA_cons (f_F jf_str) (jA_cons (jF_ix (f_F (jf_var 2)) (f_F jf_int)) jA_nil))) (jA_cons (jF_tup (jA_cons (f_F jf_str) (jA_cons (jF_ix (f_F (jf_var 2)) (f_F jf_int)) jA_nil))) (jA_cons (jF_tup (jA_cons (f_F jf_str) (jA_cons (jF_ix (f_F (jf_var 2)) (f_F jf_int)) (jA_cons (jF_ix (f_F (jf_var 2)) (f_F jf_int)) (jA_cons (jF_ix (f_F (jf_var 2)) (f_F jf_int)) jA_nil))))) jA_nil)))))) C.nd hE)
 (jss_cons (js_set 4 (N_F (jN_cat (f_F (jf_var 4)) (N_F (jN_lst (jA_cons (jF_tup (jA_cons (f_F jf_str) (jA_cons (jF_ix (f_F (jf_var 1)) (f_F jf_int)) (jA_cons (jF_ix (f_F (jf_var 1)) (f_F jf_int)) jA_nil)))) (jA_cons (jF_tup (jA_cons (f_F jf_str) (jA_cons (jF_ix (f_F (jf_var 1)) (f_F jf_int)) jA_nil))) (jA_cons (jF_tup (jA_cons (f_F jf_str) (jA_cons (jF_ix (f_F (jf_var 1)) (f_F jf_int)) jA_nil))) (jA_cons (jF_tup (jA_cons (f_F jf_str) (jA_cons (jF_ix (f_F (jf_var 1)) (f_F jf_int)) (jA_cons (f_F (jf_var 3)) jA_nil)))) jA_nil)))))))) C.nd hE)
 (jss_cons (js_set 4 (N_F (jN_cat (f_F (jf_var 4)) (N_F (jN_lst (jA_cons (jF_tup (jA_cons (f_F jf_str) (jA_cons (jF_ix (f_F (jf_var 1)) (f_F jf_int)) (jA_cons (jF_ix (f_F (jf_var 1)) (f_F jf_int)) (jA_cons (jF_ix (f_F (jf_var 2)) (f_F jf_int)) jA_nil))))) (jA_cons (jF_tup (jA_cons (f_F jf_str) (jA_cons (jF_ix (f_F (jf_var 1)) (f_F jf_int)) (jA_cons (jF_ix (f_F (jf_var 1)) (f_F jf_int)) (jA_cons (jF_ix (f_F (jf_var 2)) (f_F jf_int)) jA_nil))))) jA_nil)))))) C.nd hE)
 (jss_cons (js_set 4 (N_F (jN_cat (f_F (jf_var 4)) (N_F (jN_lst (jA_cons (jF_tup (jA_cons (f_F jf_str) (jA_cons (jF_ix (f_F (jf_var 1)) (f_F jf_int)) (jA_cons (jF_ix (f_F (jf_var 1)) (f_F jf_int)) (jA_cons (jF_ix (f_F (jf_var 2)) (f_F jf_int)) (jA_cons (jF_ix (f_F (jf_var 2)) (f_F jf_int)) (jA_cons (jF_ix (f_F (jf_var 2)) (f_F jf_int)) jA_nil))))))) jA_nil))))) C.nd hE)
 (jss_cons (js_set 4 (N_F (jN_cat (f_F (jf_var 4)) (N_F (jN_lst (jA_cons (jF_tup (jA_cons (f_F jf_str) (jA_cons (jF_ix (f_F (jf_var 1)) (f_F jf_int)) (jA_cons (jF_ix (f_F (jf_var 1)) (f_F jf_int)) (jA_cons (f_F (jf_var 3)) jA_nil))))) (jA_cons (jF_tup (jA_cons (f_F jf_str) (jA_cons (jF_ix (f_F (jf_var 1)) (f_F jf_int)) (jA_cons (jF_ix (f_F (jf_var 1)) (f_F jf_int)) (jA_cons (jF_ix (f_F (jf_var 2)) (f_F jf_int)) jA_nil))))) jA_nil)))))) C.nd hE)
 (jss_cons (js_set 4 (N_F (jN_cat (f_F (jf_var 4)) (N_F (jN_lst (jA_cons (jF_tup (jA_cons (f_F jf_str) (jA_cons (jF_ix (f_F (jf_var 2)) (f_F jf_int)) (jA_cons (jF_ix (f_F (jf_var 2)) (f_F jf_int)) jA_nil)))) (jA_cons (jF_tup (jA_cons (f_F jf_str) (jA_cons (jF_ix (f_F (jf_var 1)) (f_F jf_int)) (jA_cons (jF_ix (f_F (jf_var 2)) (f_F jf_int)) (jA_cons (jF_ix (f_F (jf_var 2)) (f_F jf_int)) jA_nil))))) jA_nil)))))) C.nd hE)
 (jss_cons (js_set 4 (N_F (jN_cat (f_F (jf_var 4)) (N_F (jN_lst (jA_cons (jF_tup (jA_cons (f_F jf_str) (jA_cons (jF_ix (f_F (jf_var 1)) (f_F jf_int)) (jA_cons (jF_ix (f_F (jf_var 1)) (f_F jf_int)) (jA_cons (jF_ix (f_F (jf_var 2)) (f_F jf_int)) (jA_cons (jF_ix (f_F (jf_var 2)) (f_F jf_int)) jA_nil)))))) jA_nil))))) C.nd hE)
 (jss_cons (js_set 5 (jF_call (ok__law_take c) C 0 (jA_cons (jF_op op_addX r_add (jF_callB call_len r_len c.b_len (jA_cons (f_F (jf_var 4)) jA_nil) PyProof.Rows.Boot.«len») (f_F jf_int)) jA_nil)) C.nd hE)
 (jss_cons (js_if (jT_lt (f_F (jf_var 5)) (jF_callB call_len r_len c.b_len (jA_cons (f_F (jf_var 4)) jA_nil) PyProof.Rows.Boot.«len»))
 (jss_one (js_ret (jF_ix (f_F (jf_var 4)) (f_F (jf_var 5)))))
 jss_nil)
 (jss_cons (js_if (jT_lt (f_F (jf_var 5)) (jF_op op_addX r_add (jF_callB call_len r_len c.b_len (jA_cons (f_F (jf_var 4)) jA_nil) PyProof.Rows.Boot.«len») (f_F jf_int)))
 (jss_one (js_ret (jF_tup (jA_cons (jF_ix (N_F (jN_lst (jA_cons (f_F jf_str) (jA_cons (f_F jf_str) (jA_cons (f_F jf_str) jA_nil))))) (jF_op op_sub r_sub (f_F (jf_var 5)) (jF_callB call_len r_len c.b_len (jA_cons (f_F (jf_var 4)) jA_nil) PyProof.Rows.Boot.«len»))) (jA_cons (jF_ix (f_F (jf_var 1)) (f_F jf_int)) (jA_cons (jF_call (ok__law_free_text c) C 0 jA_nil) jA_nil))))))
 jss_nil)
 (jss_cons (js_if (jT_lt (f_F (jf_var 5)) (jF_op op_addX r_add (jF_callB call_len r_len c.b_len (jA_cons (f_F (jf_var 4)) jA_nil) PyProof.Rows.Boot.«len») (f_F jf_int)))
 (jss_one (js_ret (jF_tup (jA_cons (f_F jf_str) (jA_cons (jF_ix (f_F (jf_var 1)) (f_F jf_int)) (jA_cons (jF_ix (f_F (jf_var 2)) (f_F jf_int)) (jA_cons (jF_call (ok__law_free_text c) C 0 jA_nil) jA_nil)))))))
 jss_nil)
 (jss_cons (js_if (jT_eq C (f_F (jf_var 5)) (jF_op op_addX r_add (jF_callB call_len r_len c.b_len (jA_cons (f_F (jf_var 4)) jA_nil) PyProof.Rows.Boot.«len») (f_F jf_int)))
 (jss_one (js_ret (jF_tup (jA_cons (f_F jf_str) (jA_cons (N_F (jN_lc [("k", 6)] [6] C hE (ji_range1 (jF_call (ok__law_size c) C 0 (jA_cons (f_F jf_int) jA_nil)) c.b_range) (blkOk_by (by kernel_rfl)) (fun _ _ _ _ _ _ C1 hE1 => (jg_name 6 C1.nd hE1)) (fun _ _ _ _ _ _ C1 hE1 => jts_nil)
 (fun _ _ _ _ _ _ C1 hE1 => (jF_call (ok__law_order_number c) C1 0 jA_nil)))) jA_nil)))))
 jss_nil)
 (jss_one (js_ret (jF_tup (jA_cons (f_F jf_str) (jA_cons (jF_ix (f_F (jf_var 1)) (f_F jf_int)) (jA_cons (N_F (jN_lc [("k", 6)] [6] C hE (ji_range1 (jF_call (ok__law_size c) C 0 (jA_cons (f_F jf_int) jA_nil)) c.b_range) (blkOk_by (by kernel_rfl)) (fun _ _ _ _ _ _ C1 hE1 => (jg_name 6 C1.nd hE1)) (fun _ _ _ _ _ _ C1 hE1 => jts_nil)
 (fun _ _ _ _ _ _ C1 hE1 => (jF_call (ok__law_pick c) C1 0 (jA_cons (f_F (jf_var 1)) jA_nil))))) jA_nil))))))))))))))))))))))
/-! _law_order_line -/
abbrev N__law_order_line : List Str := ["order", "words", "entry", "part"]
def b__law_order_line : SC :=
 (sSeq (sSetO 1 (iLs iNil))
 (sSeq (sFor (iSq (iVar 0)) (gSlot 2)
 (sIf (iBl (iIsi (isiB "list") (iVar 2)))
 (sPre 1 (sSetO 1 (iBinN oCatD (iVar 1) (iFz (iLc [3] (iSq (iVar 2)) (gSlot 3) (fun ŝ => .ok true ŝ)
 (iFn oStr (iCons (iVar 3) iNil)))))))
 (sDrop (iOwn 1 gAppend (iCons (iFn oStr (iCons (iVar 2) iNil)) iNil)))))
 (sPre 1 (sRet (iMt oJoin (iC (.str " ")) (iCons (iVar 1) iNil))))))
def m__law_order_line : FM := runB 4 [] b__law_order_line
theorem s__law_order_line : FnScope N__law_order_line ["order"] (defScope (top 44)) := ⟨rfl, rfl, rfl, by decide +kernel, rfl, by decide +kernel, by decide +kernel⟩
theorem ok__law_order_line (c : Facts P w K mg) : Cal P w K mg base 1 "_law_order_line" 1 [] m__law_order_line :=
 cal_of c.d__law_order_line s__law_order_line c.g__law_order_line (fun fd F => F.bindsN fun _ _ _ _ _ _ us hl => match us, hl with | [_], _ => rfl) fun f cdv A outer s H Ex E W C hE hn =>
 (show JSs _ E W _ b__law_order_line from
 (jss_cons (js_setO 1 (jN_lst jA_nil) C.nd hE)
 (jss_cons (js_for (vs := [2]) C (ji_sq (f_F (jf_var 0))) (jg_name 2 C.nd hE)
 (jss_one (js_if (jT_pv (jF_isiT isi_list c.b_isinstance c.b_list (f_F (jf_var 2)) PyProof.Rows.Boot.«list»))
 (jss_one (js_pre 1 hE (js_setO 1 (jN_cat (f_F (jf_var 1)) (N_F (jN_lc [("part", 3)] [3] C hE (ji_sq (f_F (jf_var 2))) (blkOk_by (by kernel_rfl)) (fun _ _ _ _ _ _ C1 hE1 => (jg_name 3 C1.nd hE1)) (fun _ _ _ _ _ _ C1 hE1 => jts_nil)
 (fun _ _ _ _ _ _ C1 hE1 => (jF_callTy call_strX r_str c.b_str (jA_cons (f_F (jf_var 3)) jA_nil) PyProof.Rows.Boot.«str»))))) C.nd hE)))
 (jss_one (js_expr (jF_mt r_append 1 PySem.F.slot_list_append PySem.F.type_list_append mt_append (jA_cons (jF_callTy call_strX r_str c.b_str (jA_cons (f_F (jf_var 2)) jA_nil) PyProof.Rows.Boot.«str») jA_nil)))))))
 (jss_one (js_pre 1 hE (js_ret (jF_mts r_join PySem.F.slot_str_join PySem.F.type_str_join mt_join (f_F jf_str) (jA_cons (f_F (jf_var 1)) jA_nil))))))))
/-! _law_long_order -/
abbrev N__law_long_order : List Str := ["store", "length", "sign", "way", "name", "head", "rest", "cut", "k"]
def b__law_long_order : SC :=
 (sSeq (sSet 2 (iCall 2 m__law_pick 0 (iCons (iC (.str "x0A~!-")) iNil)))
 (sSeq (sSet 3 (iCall 2 m__law_take 0 (iCons (iC (.int 4)) iNil)))
 (sSeq (sIf (iBl (iBin oEq (iVar 3) (iC (.int 0))))
 (sRet (iTupD (iCons (iC (.str "grow")) (iCons (iFz (iBinN oCatD (iFz (iLc [8] (iRng1 (iC (.int 96))) (gSlot 8) (fun ŝ => .ok true ŝ)
 (iC (.int 1)))) (iBin oIx (iFz (iLs (iCons (iFz (iLs (iCons (iC (.int 12)) iNil))) (iCons (iFz (iLs (iCons (iC (.int 1)) (iCons (iC (.int 1)) iNil)))) (iCons (iFz (iLs (iCons (iC (.int 1)) (iCons (iC (.int 12)) iNil)))) iNil))))) (iBin oSub (iVar 1) (iC (.int 199)))))) iNil))))
 sSkip)
 (sSeq (sSet 4 (iCall 2 m__law_pick 0 (iCons (iFz (iLs (iCons (iC (.str "A")) (iCons (iC (.str "table")) (iCons (iC (.str "abcdefgh")) (iCons (iC (.str "Zz")) iNil)))))) iNil)))
 (sSeq (sSet 5 (iFz (iLs (iCons (iCall 2 m__law_pick 0 (iCons (iFz (iLs (iCons (iC (.str "table")) (iCons (iC (.str "figure")) (iCons (iC (.str "rule")) iNil))))) iNil)) (iCons (iVar 4) iNil)))))
 (sSeq (sIf (iBl (iBin oEq (iVar 3) (iC (.int 1))))
 (sSet 5 (iFz (iLs (iCons (iC (.str "sample")) (iCons (iVar 4) (iCons (iBin oSub (iBin oPow (iC (.int 10)) (iC (.int 12))) (iC (.int 1))) iNil))))))
 sSkip)
 (sSeq (sSet 6 (iBin oSub (iBin oSub (iVar 1) (iFn oLen (iCons (iCallA 1 m__law_order_line (iCons (iVar 5) iNil)) iNil))) (iC (.int 1))))
 (sSeq (sSet 7 (iBin oAdd (iC (.int 1)) (iCall 2 m__law_take 0 (iCons (iBin oSub (iVar 6) (iC (.int 2))) iNil))))
 (sRet (iFn oTuple (iCons (iFz (iBinN oCatD (iVar 5) (iFz (iLs (iCons (iBin oAdd (iBin oAdd (iBin oMulS (iVar 2) (iVar 7)) (iC (.str " "))) (iBin oMulS (iVar 2) (iBin oSub (iBin oSub (iVar 6) (iVar 7)) (iC (.int 1))))) iNil))))) iNil)))))))))))
def m__law_long_order : FM := runB 9 [0] b__law_long_order
theorem s__law_long_order : FnScope N__law_long_order ["store", "length"] (defScope (top 45)) := ⟨rfl, rfl, rfl, by decide +kernel, rfl, by decide +kernel, by decide +kernel⟩
theorem ok__law_long_order (c : Facts P w K mg) : Cal P w K mg base 4 "_law_long_order" 2 [0] m__law_long_order :=
 cal_of c.d__law_long_order s__law_long_order c.g__law_long_order (fun fd F => F.bindsN fun _ _ _ _ _ _ us hl => match us, hl with | [_, _], _ => rfl) fun f cdv A outer s H Ex E W C hE hn =>
 (show JSs _ E W _ b__law_long_order from
 (jss_cons (js_set 2 (jF_call (ok__law_pick c) C 0 (jA_cons (f_F jf_str) jA_nil)) C.nd hE)
 (jss_cons (js_set 3 (jF_call (ok__law_take c) C 0 (jA_cons (f_F jf_int) jA_nil)) C.nd hE)
 (jss_cons (js_if (jT_eq C (f_F (jf_var 3)) (f_F jf_int))
 (jss_one (js_ret (jF_tup (jA_cons (f_F jf_str) (jA_cons (N_F (jN_cat (N_F (jN_lc [("k", 8)] [8] C hE (ji_range1 (f_F jf_int) c.b_range) (blkOk_by (by kernel_rfl)) (fun _ _ _ _ _ _ C1 hE1 => (jg_name 8 C1.nd hE1)) (fun _ _ _ _ _ _ C1 hE1 => jts_nil)
 (fun _ _ _ _ _ _ C1 hE1 => (f_F jf_int)))) (jF_ix (N_F (jN_lst (jA_cons (N_F (jN_lst (jA_cons (f_F jf_int) jA_nil))) (jA_cons (N_F (jN_lst (jA_cons (f_F jf_int) (jA_cons (f_F jf_int) jA_nil)))) (jA_cons (N_F (jN_lst (jA_cons (f_F jf_int) (jA_cons (f_F jf_int) jA_nil)))) jA_nil))))) (jF_op op_sub r_sub (f_F (jf_var 1)) (f_F jf_int))))) jA_nil)))))
 jss_nil)
 (jss_cons (js_set 4 (jF_call (ok__law_pick c) C 0 (jA_cons (N_F (jN_lst (jA_cons (f_F jf_str) (jA_cons (f_F jf_str) (jA_cons (f_F jf_str) (jA_cons (f_F jf_str) jA_nil)))))) jA_nil)) C.nd hE)
 (jss_cons (js_set 5 (N_F (jN_lst (jA_cons (jF_call (ok__law_pick c) C 0 (jA_cons (N_F (jN_lst (jA_cons (f_F jf_str) (jA_cons (f_F jf_str) (jA_cons (f_F jf_str) jA_nil))))) jA_nil)) (jA_cons (f_F (jf_var 4)) jA_nil)))) C.nd hE)
 (jss_cons (js_if (jT_eq C (f_F (jf_var 3)) (f_F jf_int))
 (jss_one (js_set 5 (N_F (jN_lst (jA_cons (f_F jf_str) (jA_cons (f_F (jf_var 4)) (jA_cons (jF_op op_sub r_sub (jF_op op_pow r_pow (f_F jf_int) (f_F jf_int)) (f_F jf_int)) jA_nil))))) C.nd hE))
 jss_nil)
 (jss_cons (js_set 6 (jF_op op_sub r_sub (jF_op op_sub r_sub (f_F (jf_var 1)) (jF_callB call_len r_len c.b_len (jA_cons (jF_callA (ok__law_order_line c) C (jA_cons (f_F (jf_var 5)) jA_nil)) jA_nil) PyProof.Rows.Boot.«len»)) (f_F jf_int)) C.nd hE)
 (jss_cons (js_set 7 (jF_op op_addX r_add (f_F jf_int) (jF_call (ok__law_take c) C 0 (jA_cons (jF_op op_sub r_sub (f_F (jf_var 6)) (f_F jf_int)) jA_nil))) C.nd hE)
 (jss_one (js_ret (jF_callTy call_tuple_of r_tuple c.b_tuple (jA_cons (N_F (jN_cat (f_F (jf_var 5)) (N_F (jN_lst (jA_cons (jF_op op_addX r_add (jF_op op_addX r_add (jF_op op_mulS r_mulS (f_F (jf_var 2)) (f_F (jf_var 7))) (f_F jf_str)) (jF_op op_mulS r_mulS (f_F (jf_var 2)) (jF_op op_sub r_sub (jF_op op_sub r_sub (f_F (jf_var 6)) (f_F (jf_var 7))) (f_F jf_int)))) jA_nil))))) jA_nil) PyProof.Rows.Boot.«tuple»))))))))))))
/-! _law_orders_drawn -/
abbrev N__law_orders_drawn : List Str := ["store", "many", "orders", "length", "k"]
def b__law_orders_drawn : SC :=
 (sSeq (sSet 1 (iCall 2 m__law_pick 0 (iCons (iFz (iLs (iCons (iC (.int 60)) (iCons (iC (.int 3)) (iCons (iC (.int 61)) (iCons (iC (.int 1)) (iCons (iC (.int 59)) (iCons (iC (.int 8)) (iCons (iC (.int 62)) (iCons (iC (.int 2)) (iCons (iC (.int 60)) (iCons (iC (.int 5)) iNil)))))))))))) iNil)))
 (sSeq (sSetO 2 (iLc [4] (iRng1 (iFn oMin (iCons (iVar 1) (iCons (iC (.int 9)) iNil)))) (gSlot 4) (fun ŝ => .ok true ŝ)
 (iCall 1 m__law_order 0 iNil)))
 (sSeq (sPre 2 (sSetO 2 (iBinN oCatD (iVar 2) (iFz (iLc [4] (iRng1 (iBin oSub (iVar 1) (iLenE 2))) (gSlot 4) (fun ŝ => .ok true ŝ)
 (iTupD (iCons (iC (.str "drop")) (iCons (iVar 4) iNil))))))))
 (sSeq (sSet 3 (iBin oAdd (iC (.int 199)) (iCall 2 m__law_take 0 (iCons (iC (.int 3)) iNil))))
 (sSeq (sIf (iBl (iBin oEq (iCall 2 m__law_take 0 (iCons (iC (.int 2)) iNil)) (iC (.int 0))))
 (sSetAt 2 (iCall 2 m__law_long_order 0 (iCons (iVar 3) iNil)) (iCall 2 m__law_take 0 (iCons (iVar 1) iNil)))
 sSkip)
 (sRetO (iMove 2)))))))
def m__law_orders_drawn : FM := runB 5 [0] b__law_orders_drawn
theorem s__law_orders_drawn : FnScope N__law_orders_drawn ["store"] (defScope (top 46)) := ⟨rfl, rfl, rfl, by decide +kernel, rfl, by decide +kernel, by decide +kernel⟩
theorem ok__law_orders_drawn (c : Facts P w K mg) : Cal P w K mg base 6 "_law_orders_drawn" 1 [0] m__law_orders_drawn :=
 cal_of c.d__law_orders_drawn s__law_orders_drawn c.g__law_orders_drawn (fun fd F => F.bindsN fun _ _ _ _ _ _ us hl => match us, hl with | [_], _ => rfl) fun f cdv A outer s H Ex E W C hE hn =>
 (show JSs _ E W _ b__law_orders_drawn from
 (jss_cons (js_set 1 (jF_call (ok__law_pick c) C 0 (jA_cons (N_F (jN_lst (jA_cons (f_F jf_int) (jA_cons (f_F jf_int) (jA_cons (f_F jf_int) (jA_cons (f_F jf_int) (jA_cons (f_F jf_int) (jA_cons (f_F jf_int) (jA_cons (f_F jf_int) (jA_cons (f_F jf_int) (jA_cons (f_F jf_int) (jA_cons (f_F jf_int) jA_nil)))))))))))) jA_nil)) C.nd hE)
 (jss_cons (js_lcO 2 [("k", 4)] [4] C hE (ji_range1 (jF_callB (call_minX C.calm) r_min c.b_min (jA_cons (f_F (jf_var 1)) (jA_cons (f_F jf_int) jA_nil)) PyProof.Rows.Boot.«min») c.b_range) (blkOk_by (by kernel_rfl)) (fun _ _ _ _ _ _ C1 hE1 => (jg_name 4 C1.nd hE1)) (fun _ _ _ _ _ _ C1 hE1 => jts_nil)
 (fun _ _ _ _ _ _ C1 hE1 => (jF_call (ok__law_order c) C1 0 jA_nil)) (sw_true rfl rfl rfl (by decide +kernel)))
 (jss_cons (js_pre 2 hE (js_setO 2 (jN_cat (f_F (jf_var 2)) (N_F (jN_lc [("k", 4)] [4] C hE (ji_range1 (jF_op op_sub r_sub (f_F (jf_var 1)) (jF_lenE (f_F (jf_lenO c.b_len (jo_own 2))) (jF_callB call_len r_len c.b_len (jA_cons (f_F (jf_var 2)) jA_nil) PyProof.Rows.Boot.«len»))) c.b_range) (blkOk_by (by kernel_rfl)) (fun _ _ _ _ _ _ C1 hE1 => (jg_name 4 C1.nd hE1)) (fun _ _ _ _ _ _ C1 hE1 => jts_nil)
 (fun _ _ _ _ _ _ C1 hE1 => (jF_tup (jA_cons (f_F jf_str) (jA_cons (f_F (jf_var 4)) jA_nil))))))) C.nd hE))
 (jss_cons (js_set 3 (jF_op op_addX r_add (f_F jf_int) (jF_call (ok__law_take c) C 0 (jA_cons (f_F jf_int) jA_nil))) C.nd hE)
 (jss_cons (js_if (jT_eq C (jF_call (ok__law_take c) C 0 (jA_cons (f_F jf_int) jA_nil)) (f_F jf_int))
 (jss_one (js_setAt 2 (jF_call (ok__law_long_order c) C 0 (jA_cons (f_F (jf_var 3)) jA_nil)) (jF_call (ok__law_take c) C 0 (jA_cons (f_F (jf_var 1)) jA_nil))))
 jss_nil)
 (jss_one (js_retO (jN_move 2 hE)))))))))
/-! _law_first_bad -/
abbrev N__law_first_bad : List Str := ["lines", "spots", "bad", "k"]
def b__law_first_bad : SC :=
 (sSeq (sSetO 2 (iLc [3] (iLst (iVar 1)) (gSlot 3) (fun ŝ => .ok true ŝ)
 (iBin oAdd (iVar 3) (iC (.int 1)))))
 (sSeq (sIf (iBl (iBin oGt (iFn oLen (iCons (iVar 0) iNil)) (iC (.int 60))))
 (sDrop (iOwn 2 gAppend (iCons (iC (.int 61)) iNil)))
 sSkip)
 (sSeq (sFor (iRng1 (iFn oLen (iCons (iVar 0) iNil))) (gSlot 3)
 (sIf (iBl (iBin oGt (iFn oLen (iCons (iBin oIx (iVar 0) (iVar 3)) iNil)) (iC (.int 200))))
 (sDrop (iOwn 2 gAppend (iCons (iBin oAdd (iVar 3) (iC (.int 1))) iNil)))
 sSkip))
 (sSeq (sIf (ibOr (iBl (iBin oEq (iLenE 2) (iC (.int 0)))) (ibAnd (iBl (iBin oEq (iFn oLen (iCons (iVar 0) iNil)) (iC (.int 1)))) (iBl (iBin oEq (iBin oIx (iVar 0) (iC (.int 0))) (iC (.str ""))))))
 (sRet (iC (.int 0)))
 sSkip)
 (sPre 2 (sRet (iFn oMin (iCons (iVar 2) iNil))))))))
def m__law_first_bad : FM := runB 4 [] b__law_first_bad
theorem s__law_first_bad : FnScope N__law_first_bad ["lines", "spots"] (defScope (top 51)) := ⟨rfl, rfl, rfl, by decide +kernel, rfl, by decide +kernel, by decide +kernel⟩
theorem ok__law_first_bad (c : Facts P w K mg) : Cal P w K mg base 1 "_law_first_bad" 2 [] m__law_first_bad :=
 cal_of c.d__law_first_bad s__law_first_bad c.g__law_first_bad (fun fd F => F.bindsN fun _ _ _ _ _ _ us hl => match us, hl with | [_, _], _ => rfl) fun f cdv A outer s H Ex E W C hE hn =>
 (show JSs _ E W _ b__law_first_bad from
 (jss_cons (js_lcO 2 [("k", 3)] [3] C hE (ji_list (f_F (jf_var 1))) (blkOk_by (by kernel_rfl)) (fun _ _ _ _ _ _ C1 hE1 => (jg_name 3 C1.nd hE1)) (fun _ _ _ _ _ _ C1 hE1 => jts_nil)
 (fun _ _ _ _ _ _ C1 hE1 => (jF_op op_addX r_add (f_F (jf_var 3)) (f_F jf_int))) (sw_true rfl rfl rfl (by decide +kernel)))
 (jss_cons (js_if (jT_gt (jF_callB call_len r_len c.b_len (jA_cons (f_F (jf_var 0)) jA_nil) PyProof.Rows.Boot.«len») (f_F jf_int))
 (jss_one (js_expr (jF_mt r_append 2 PySem.F.slot_list_append PySem.F.type_list_append mt_append (jA_cons (f_F jf_int) jA_nil))))
 jss_nil)
 (jss_cons (js_for (vs := [3]) C (ji_range1 (jF_callB call_len r_len c.b_len (jA_cons (f_F (jf_var 0)) jA_nil) PyProof.Rows.Boot.«len») c.b_range) (jg_name 3 C.nd hE)
 (jss_one (js_if (jT_gt (jF_callB call_len r_len c.b_len (jA_cons (jF_ix (f_F (jf_var 0)) (f_F (jf_var 3))) jA_nil) PyProof.Rows.Boot.«len») (f_F jf_int))
 (jss_one (js_expr (jF_mt r_append 2 PySem.F.slot_list_append PySem.F.type_list_append mt_append (jA_cons (jF_op op_addX r_add (f_F (jf_var 3)) (f_F jf_int)) jA_nil))))
 jss_nil)))
 (jss_cons (js_if (jW_or (jT_eq C (jF_lenE (f_F (jf_lenO c.b_len (jo_own 2))) (jF_callB call_len r_len c.b_len (jA_cons (f_F (jf_var 2)) jA_nil) PyProof.Rows.Boot.«len»)) (f_F jf_int)) (jW_or1 (jW_and (jT_eq C (jF_callB call_len r_len c.b_len (jA_cons (f_F (jf_var 0)) jA_nil) PyProof.Rows.Boot.«len») (f_F jf_int)) (jW_and1 (jT_eq C (jF_ix (f_F (jf_var 0)) (f_F jf_int)) (f_F jf_str)))).pt)).pt
 (jss_one (js_ret (f_F jf_int)))
 jss_nil)
 (jss_one (js_pre 2 hE (js_ret (jF_callB (call_minX C.calm) r_min c.b_min (jA_cons (f_F (jf_var 2)) jA_nil) PyProof.Rows.Boot.«min»)))))))))
/-! is_kind -/
abbrev N_is_kind : List Str := ["word"]
def b_is_kind : SC :=
 (sRet (iAnd (iIsi (isiB "str") (iVar 0)) (iBin (oInT fun z => z) (iVar 0) (iC (.tup k_KINDS)))))
def m_is_kind : FM := runB 1 [] b_is_kind
theorem s_is_kind : FnScope N_is_kind ["word"] (defScope (top 17)) := ⟨rfl, rfl, rfl, by decide +kernel, rfl, by decide +kernel, by decide +kernel⟩
theorem ok_is_kind (c : Facts P w K mg) : Cal P w K mg base 1 "is_kind" 1 [] m_is_kind :=
 cal_of c.d_is_kind s_is_kind c.g_is_kind (fun fd F => F.bindsN fun _ _ _ _ _ _ us hl => match us, hl with | [_], _ => rfl) fun f cdv A outer s H Ex E W C hE hn =>
 (show JSs _ E W _ b_is_kind from
 (jss_one (js_ret (jF_and (jF_isiT isi_str c.b_isinstance c.b_str (f_F (jf_var 0)) PyProof.Rows.Boot.«str») (jF_one (jF_inT (f_F (jf_var 0)) (f_F (jf_gtup c.g_KINDS c.k_KINDS.1 c.k_KINDS.2))))))))
/-! is_number_word -/
abbrev N_is_number_word : List Str := ["word", "sign"]
def b_is_number_word : SC :=
 (sSeq (sIf (ibNot (iBl (iChain oLe oLe (iC (.int 1)) (iFn oLen (iCons (iVar 0) iNil)) (iC (.int 12)))))
 (sRet (iC (.bl false)))
 sSkip)
 (sSeq (sIf (ibAnd (iBl (iBin oEq (iBin oIx (iVar 0) (iC (.int 0))) (iC (.str "0")))) (iBl (iBin oGt (iFn oLen (iCons (iVar 0) iNil)) (iC (.int 1)))))
 (sRet (iC (.bl false)))
 sSkip)
 (sRet (iFn oAll (iCons (iFz (iLc [1] (iStrD (iVar 0)) (gSlot 1) (fun ŝ => .ok true ŝ)
 (iBin (oInS fun z => z) (iVar 1) (iC (.str k_DIGITS))))) iNil)))))
def m_is_number_word : FM := runB 2 [] b_is_number_word
theorem s_is_number_word : FnScope N_is_number_word ["word"] (defScope (top 16)) := ⟨rfl, rfl, rfl, by decide +kernel, rfl, by decide +kernel, by decide +kernel⟩
theorem ok_is_number_word (c : Facts P w K mg) : Cal P w K mg base 1 "is_number_word" 1 [] m_is_number_word :=
 cal_of c.d_is_number_word s_is_number_word c.g_is_number_word (fun fd F => F.bindsN fun _ _ _ _ _ _ us hl => match us, hl with | [_], _ => rfl) fun f cdv A outer s H Ex E W C hE hn =>
 (show JSs _ E W _ b_is_number_word from
 (jss_cons (js_if (jT_not (jT_chain op_le op_le (r_oI _) (r_oI _) (f_F jf_int) (jF_callB call_len r_len c.b_len (jA_cons (f_F (jf_var 0)) jA_nil) PyProof.Rows.Boot.«len») (f_F (jf_gint c.k_WORD_SIGNS))))
 (jss_one (js_ret (f_F jf_bl)))
 jss_nil)
 (jss_cons (js_if (jW_and (jT_eq C (jF_ix (f_F (jf_var 0)) (f_F jf_int)) (f_F jf_str)) (jW_and1 (jT_gt (jF_callB call_len r_len c.b_len (jA_cons (f_F (jf_var 0)) jA_nil) PyProof.Rows.Boot.«len») (f_F jf_int)))).pt
 (jss_one (js_ret (f_F jf_bl)))
 jss_nil)
 (jss_one (js_ret (jF_callB (cr_all C.calm) r_all c.b_all (jA_cons (N_F (jN_lc [("sign", 1)] [1] C hE (ji_str (f_F (jf_var 0))) (blkOk_by (by kernel_rfl)) (fun _ _ _ _ _ _ C1 hE1 => (jg_name 1 C1.nd hE1)) (fun _ _ _ _ _ _ C1 hE1 => jts_nil)
 (fun _ _ _ _ _ _ C1 hE1 => (jF_inS (f_F (jf_var 1)) (f_F (jf_gstr c.k_DIGITS)))))) jA_nil) PyProof.Rows.Boot.«all»))))))
/-! is_name -/
abbrev N_is_name : List Str := ["word", "sign"]
def b_is_name : SC :=
 (sSeq (sIf (ibOr (ibNot (iBl (iIsi (isiB "str") (iVar 0)))) (ibNot (iBl (iChain oLe oLe (iC (.int 1)) (iFn oLen (iCons (iVar 0) iNil)) (iC (.int 8))))))
 (sRet (iC (.bl false)))
 sSkip)
 (sRet (iFn oAll (iCons (iFz (iLc [1] (iStrD (iVar 0)) (gSlot 1) (fun ŝ => .ok true ŝ)
 (iBin (oInS fun z => z) (iVar 1) (iC (.str k_LETTERS))))) iNil))))
def m_is_name : FM := runB 2 [] b_is_name
theorem s_is_name : FnScope N_is_name ["word"] (defScope (top 15)) := ⟨rfl, rfl, rfl, by decide +kernel, rfl, by decide +kernel, by decide +kernel⟩
theorem ok_is_name (c : Facts P w K mg) : Cal P w K mg base 1 "is_name" 1 [] m_is_name :=
 cal_of c.d_is_name s_is_name c.g_is_name (fun fd F => F.bindsN fun _ _ _ _ _ _ us hl => match us, hl with | [_], _ => rfl) fun f cdv A outer s H Ex E W C hE hn =>
 (show JSs _ E W _ b_is_name from
 (jss_cons (js_if (jW_or (jT_not (jT_pv (jF_isiT isi_str c.b_isinstance c.b_str (f_F (jf_var 0)) PyProof.Rows.Boot.«str»))) (jW_or1 (jT_not (jT_chain op_le op_le (r_oI _) (r_oI _) (f_F jf_int) (jF_callB call_len r_len c.b_len (jA_cons (f_F (jf_var 0)) jA_nil) PyProof.Rows.Boot.«len») (f_F (jf_gint c.k_NAME_SIGNS)))))).pt
 (jss_one (js_ret (f_F jf_bl)))
 jss_nil)
 (jss_one (js_ret (jF_callB (cr_all C.calm) r_all c.b_all (jA_cons (N_F (jN_lc [("sign", 1)] [1] C hE (ji_str (f_F (jf_var 0))) (blkOk_by (by kernel_rfl)) (fun _ _ _ _ _ _ C1 hE1 => (jg_name 1 C1.nd hE1)) (fun _ _ _ _ _ _ C1 hE1 => jts_nil)
 (fun _ _ _ _ _ _ C1 hE1 => (jF_inS (f_F (jf_var 1)) (f_F (jf_gstr c.k_LETTERS)))))) jA_nil) PyProof.Rows.Boot.«all»)))))
/-! word_value -/
abbrev N_word_value : List Str := ["sort", "word"]
def b_word_value : SC :=
 (sSeq (sIf (iBl (iBin oEq (iVar 0) (iC (.str "number"))))
 (sRet (iIf (iBl (iCallA 1 m_is_number_word (iCons (iVar 1) iNil))) (iFn oInt (iCons (iVar 1) iNil)) (iC .non)))
 sSkip)
 (sSeq (sIf (iBl (iBin oEq (iVar 0) (iC (.str "name"))))
 (sRet (iIf (iBl (iCallA 1 m_is_name (iCons (iVar 1) iNil))) (iVar 1) (iC .non)))
 sSkip)
 (sRet (iIf (iBl (iCallA 1 m_is_kind (iCons (iVar 1) iNil))) (iVar 1) (iC .non)))))
def m_word_value : FM := runB 2 [] b_word_value
theorem s_word_value : FnScope N_word_value ["sort", "word"] (defScope (top 19)) := ⟨rfl, rfl, rfl, by decide +kernel, rfl, by decide +kernel, by decide +kernel⟩
theorem ok_word_value (c : Facts P w K mg) : Cal P w K mg base 2 "word_value" 2 [] m_word_value :=
 cal_of c.d_word_value s_word_value c.g_word_value (fun fd F => F.bindsN fun _ _ _ _ _ _ us hl => match us, hl with | [_, _], _ => rfl) fun f cdv A outer s H Ex E W C hE hn =>
 (show JSs _ E W _ b_word_value from
 (jss_cons (js_if (jT_eq C (f_F (jf_var 0)) (f_F jf_str))
 (jss_one (js_ret (jF_if (jT_pv (jF_callA (ok_is_number_word c) C (jA_cons (f_F (jf_var 1)) jA_nil))) (jF_callTy call_intX r_int c.b_int (jA_cons (f_F (jf_var 1)) jA_nil) PyProof.Rows.Boot.«int») (f_F jf_non))))
 jss_nil)
 (jss_cons (js_if (jT_eq C (f_F (jf_var 0)) (f_F jf_str))
 (jss_one (js_ret (jF_if (jT_pv (jF_callA (ok_is_name c) C (jA_cons (f_F (jf_var 1)) jA_nil))) (f_F (jf_var 1)) (f_F jf_non))))
 jss_nil)
 (jss_one (js_ret (jF_if (jT_pv (jF_callA (ok_is_kind c) C (jA_cons (f_F (jf_var 1)) jA_nil))) (f_F (jf_var 1)) (f_F jf_non)))))))
/-! is_free_text -/
abbrev N_is_free_text : List Str := ["text", "sign"]
def b_is_free_text : SC :=
 (sSeq (sIf (ibNot (iBl (iIsi (isiB "str") (iVar 0))))
 (sRet (iC (.bl false)))
 sSkip)
 (sSeq (sIf (ibNot (iBl (iFn oAll (iCons (iFz (iLc [1] (iStrD (iVar 0)) (gSlot 1) (fun ŝ => .ok true ŝ)
 (iChain (oS fun x y => !decide (y < x)) (oS fun x y => !decide (y < x)) (iC (.str " ")) (iVar 1) (iC (.str "~"))))) iNil))))
 (sRet (iC (.bl false)))
 sSkip)
 (sRet (iBin (oInL fun z => !z) (iC (.str "")) (iFz (iMtN oSplit (iVar 0) (iCons (iC (.str " ")) iNil)))))))
def m_is_free_text : FM := runB 2 [] b_is_free_text
theorem s_is_free_text : FnScope N_is_free_text ["text"] (defScope (top 18)) := ⟨rfl, rfl, rfl, by decide +kernel, rfl, by decide +kernel, by decide +kernel⟩
theorem ok_is_free_text (c : Facts P w K mg) : Cal P w K mg base 1 "is_free_text" 1 [] m_is_free_text :=
 cal_of c.d_is_free_text s_is_free_text c.g_is_free_text (fun fd F => F.bindsN fun _ _ _ _ _ _ us hl => match us, hl with | [_], _ => rfl) fun f cdv A outer s H Ex E W C hE hn =>
 (show JSs _ E W _ b_is_free_text from
 (jss_cons (js_if (jT_not (jT_pv (jF_isiT isi_str c.b_isinstance c.b_str (f_F (jf_var 0)) PyProof.Rows.Boot.«str»)))
 (jss_one (js_ret (f_F jf_bl)))
 jss_nil)
 (jss_cons (js_if (jT_not (jT_pv (jF_callB (cr_all C.calm) r_all c.b_all (jA_cons (N_F (jN_lc [("sign", 1)] [1] C hE (ji_str (f_F (jf_var 0))) (blkOk_by (by kernel_rfl)) (fun _ _ _ _ _ _ C1 hE1 => (jg_name 1 C1.nd hE1)) (fun _ _ _ _ _ _ C1 hE1 => jts_nil)
 (fun _ _ _ _ _ _ C1 hE1 => (jF_chain op_le_str op_le_str r_leS r_leS (f_F jf_str) (f_F (jf_var 1)) (f_F jf_str))))) jA_nil) PyProof.Rows.Boot.«all»)))
 (jss_one (js_ret (f_F jf_bl)))
 jss_nil)
 (jss_one (js_ret (jF_ninL C (f_F jf_str) (N_F (jN_mts r_split PySem.F.slot_str_split PySem.F.type_str_split mt_split (f_F (jf_var 0)) (jA_cons (f_F jf_str) jA_nil)))))))))
/-! tail_value -/
abbrev N_tail_value : List Str := ["sort", "words", "text", "one_sort", "values", "word", "value"]
def b_tail_value : SC :=
 (sSeq (sIf (iBl (iBin oEq (iVar 0) (iC (.str "text"))))
 (sSeq (sSet 2 (iMt oJoin (iC (.str " ")) (iCons (iVar 1) iNil)))
 (sRet (iIf (iBl (iCallA 1 m_is_free_text (iCons (iVar 2) iNil))) (iVar 2) (iC .non))))
 sSkip)
 (sSeq (sSet 3 (iIf (iBl (iBin oEq (iVar 0) (iC (.str "names")))) (iC (.str "name")) (iC (.str "number"))))
 (sSeq (sSet 4 (iFz (iLc [5] (iLst (iVar 1)) (gSlot 5) (fun ŝ => .ok true ŝ)
 (iCallA 2 m_word_value (iCons (iVar 3) (iCons (iVar 5) iNil))))))
 (sSeq (sIf (iBl (iFn oAny (iCons (iFz (iLc [6] (iLst (iVar 4)) (gSlot 6) (fun ŝ => .ok true ŝ)
 (iUn (fun d => some (.bl (oIsN d))) (iVar 6)))) iNil)))
 (sRet (iC .non))
 sSkip)
 (sRet (iVar 4))))))
def m_tail_value : FM := runB 7 [] b_tail_value
theorem s_tail_value : FnScope N_tail_value ["sort", "words"] (defScope (top 20)) := ⟨rfl, rfl, rfl, by decide +kernel, rfl, by decide +kernel, by decide +kernel⟩
theorem ok_tail_value (c : Facts P w K mg) : Cal P w K mg base 3 "tail_value" 2 [] m_tail_value :=
 cal_of c.d_tail_value s_tail_value c.g_tail_value (fun fd F => F.bindsN fun _ _ _ _ _ _ us hl => match us, hl with | [_, _], _ => rfl) fun f cdv A outer s H Ex E W C hE hn =>
 (show JSs _ E W _ b_tail_value from
 (jss_cons (js_if (jT_eq C (f_F (jf_var 0)) (f_F jf_str))
 (jss_cons (js_set 2 (jF_mts r_join PySem.F.slot_str_join PySem.F.type_str_join mt_join (f_F jf_str) (jA_cons (f_F (jf_var 1)) jA_nil)) C.nd hE)
 (jss_one (js_ret (jF_if (jT_pv (jF_callA (ok_is_free_text c) C (jA_cons (f_F (jf_var 2)) jA_nil))) (f_F (jf_var 2)) (f_F jf_non)))))
 jss_nil)
 (jss_cons (js_set 3 (jF_if (jT_eq C (f_F (jf_var 0)) (f_F jf_str)) (f_F jf_str) (f_F jf_str)) C.nd hE)
 (jss_cons (js_lc 4 [("word", 5)] [5] C hE (ji_list (f_F (jf_var 1))) (blkOk_by (by kernel_rfl)) (fun _ _ _ _ _ _ C1 hE1 => (jg_name 5 C1.nd hE1)) (fun _ _ _ _ _ _ C1 hE1 => jts_nil)
 (fun _ _ _ _ _ _ C1 hE1 => (jF_callA (ok_word_value c) C1 (jA_cons (f_F (jf_var 3)) (jA_cons (f_F (jf_var 5)) jA_nil)))) (sw_true rfl rfl rfl (by decide +kernel)))
 (jss_cons (js_if (jT_pv (jF_callB (cr_any C.calm) r_any c.b_any (jA_cons (N_F (jN_lc [("value", 6)] [6] C hE (ji_list (f_F (jf_var 4))) (blkOk_by (by kernel_rfl)) (fun _ _ _ _ _ _ C1 hE1 => (jg_name 6 C1.nd hE1)) (fun _ _ _ _ _ _ C1 hE1 => jts_nil)
 (fun _ _ _ _ _ _ C1 hE1 => (jF_isN (f_F (jf_var 6)))))) jA_nil) PyProof.Rows.Boot.«any»))
 (jss_one (js_ret (f_F jf_non)))
 jss_nil)
 (jss_one (js_ret (f_F (jf_var 4)))))))))
/-! order_of -/
abbrev N_order_of : List Str := ["line", "words", "found", "at", "sort", "value"]
def b_order_of : SC :=
 (sSeq (sIf (iBl (iBin oGt (iFn oLen (iCons (iVar 0) iNil)) (iC (.int 200))))
 (sRet (iC .non))
 sSkip)
 (sSeq (sSet 1 (iFz (iMtN oSplit (iVar 0) (iCons (iC (.str " ")) iNil))))
 (sSeq (sIf (iBl (iUn (oInG k_FORMS true) (iBin oIx (iVar 1) (iC (.int 0)))))
 (sRet (iC .non))
 sSkip)
 (sSeq (sSetO 2 (iLs (iCons (iBin oIx (iVar 1) (iC (.int 0))) iNil)))
 (sSeq (sSet 3 (iC (.int 1)))
 (sSeq (sFor (iSq (iUn (oIxG k_FORMS) (iBin oIx (iVar 1) (iC (.int 0))))) (gSlot 4)
 (sSeq (sIf (iBl (iBin (oInT fun z => z) (iVar 4) (iC (.tup k_TAILS))))
 (sSeq (sSet 5 (iCallA 2 m_tail_value (iCons (iVar 4) (iCons (iFz (iSlL (iVar 1) (iqSome (iVar 3)) iqNone)) iNil))))
 (sSet 3 (iFn oLen (iCons (iVar 1) iNil))))
 (sIf (iBl (iBin oLt (iVar 3) (iFn oLen (iCons (iVar 1) iNil))))
 (sSeq (sSet 5 (iCallA 2 m_word_value (iCons (iVar 4) (iCons (iBin oIx (iVar 1) (iVar 3)) iNil))))
 (sAug 3 oAddI (iC (.int 1))))
 (sSet 5 (iC .non))))
 (sSeq (sIf (iBl (iUn (fun d => some (.bl (oIsN d))) (iVar 5)))
 (sRet (iC .non))
 sSkip)
 (sDrop (iOwn 2 gAppend (iCons (iVar 5) iNil))))))
 (sPre 2 (sRet (iIf (iBl (iBin oEq (iVar 3) (iFn oLen (iCons (iVar 1) iNil)))) (iFn oTuple (iCons (iVar 2) iNil)) (iC .non))))))))))
def m_order_of : FM := runB 6 [] b_order_of
theorem s_order_of : FnScope N_order_of ["line"] (defScope (top 21)) := ⟨rfl, rfl, rfl, by decide +kernel, rfl, by decide +kernel, by decide +kernel⟩
theorem ok_order_of (c : Facts P w K mg) : Cal P w K mg base 4 "order_of" 1 [] m_order_of :=
 cal_of c.d_order_of s_order_of c.g_order_of (fun fd F => F.bindsN fun _ _ _ _ _ _ us hl => match us, hl with | [_], _ => rfl) fun f cdv A outer s H Ex E W C hE hn =>
 (show JSs _ E W _ b_order_of from
 (jss_cons (js_if (jT_gt (jF_callB call_len r_len c.b_len (jA_cons (f_F (jf_var 0)) jA_nil) PyProof.Rows.Boot.«len») (f_F (jf_gint c.k_LINE_SIGNS)))
 (jss_one (js_ret (f_F jf_non)))
 jss_nil)
 (jss_cons (js_set 1 (N_F (jN_mts r_split PySem.F.slot_str_split PySem.F.type_str_split mt_split (f_F (jf_var 0)) (jA_cons (f_F jf_str) jA_nil))) C.nd hE)
 (jss_cons (js_if (jT_ninG c.k_FORMS c.g_FORMS (jF_ix (f_F (jf_var 1)) (f_F jf_int)))
 (jss_one (js_ret (f_F jf_non)))
 jss_nil)
 (jss_cons (js_setO 2 (jN_lst (jA_cons (jF_ix (f_F (jf_var 1)) (f_F jf_int)) jA_nil)) C.nd hE)
 (jss_cons (js_set 3 (f_F jf_int) C.nd hE)
 (jss_cons (js_for (vs := [4]) C (ji_sq (jF_ixG c.k_FORMS c.g_FORMS (jF_ix (f_F (jf_var 1)) (f_F jf_int)))) (jg_name 4 C.nd hE)
 (jss_cons (js_if (jT_inT (f_F (jf_var 4)) (f_F (jf_gtup c.g_TAILS c.k_TAILS.1 c.k_TAILS.2)))
 (jss_cons (js_set 5 (jF_callA (ok_tail_value c) C (jA_cons (f_F (jf_var 4)) (jA_cons (N_F (jN_slice (f_F (jf_var 1)) (jQ_some (f_F (jf_var 3))) jQ_none)) jA_nil))) C.nd hE)
 (jss_one (js_set 3 (jF_callB call_len r_len c.b_len (jA_cons (f_F (jf_var 1)) jA_nil) PyProof.Rows.Boot.«len») C.nd hE)))
 (jss_one (js_if (jT_lt (f_F (jf_var 3)) (jF_callB call_len r_len c.b_len (jA_cons (f_F (jf_var 1)) jA_nil) PyProof.Rows.Boot.«len»))
 (jss_cons (js_set 5 (jF_callA (ok_word_value c) C (jA_cons (f_F (jf_var 4)) (jA_cons (jF_ix (f_F (jf_var 1)) (f_F (jf_var 3))) jA_nil))) C.nd hE)
 (jss_one (js_augAdd 3 (f_F jf_int) C.nd hE)))
 (jss_one (js_set 5 (f_F jf_non) C.nd hE)))))
 (jss_cons (js_if (jT_isN (f_F (jf_var 5)))
 (jss_one (js_ret (f_F jf_non)))
 jss_nil)
 (jss_one (js_expr (jF_mt r_append 2 PySem.F.slot_list_append PySem.F.type_list_append mt_append (jA_cons (f_F (jf_var 5)) jA_nil)))))))
 (jss_one (js_pre 2 hE (js_ret (jF_if (jT_eq C (f_F (jf_var 3)) (jF_callB call_len r_len c.b_len (jA_cons (f_F (jf_var 1)) jA_nil) PyProof.Rows.Boot.«len»)) (jF_callTy call_tuple_of r_tuple c.b_tuple (jA_cons (f_F (jf_var 2)) jA_nil) PyProof.Rows.Boot.«tuple») (f_F jf_non))))))))))))
/-! read_script -/
abbrev N_read_script : List Str := ["text", "orders", "at", "line", "order"]
def b_read_script : SC :=
 (sSeq (sIf (ibNot (iBl (iIsi (isiB "str") (iVar 0))))
 (sRaiseX "TextBad" "line" (iC (.int 1)))
 sSkip)
 (sSeq (sSetO 1 (iLs iNil))
 (sSeq (sIf (iBl (iBin oEq (iVar 0) (iC (.str ""))))
 (sRetO (iMove 1))
 sSkip)
 (sSeq (sSet 2 (iC (.int 0)))
 (sSeq (sFor (iLst (iFz (iMtN oSplit (iVar 0) (iCons (iC (.str "\n")) iNil)))) (gSlot 3)
 (sSeq (sAug 2 oAddI (iC (.int 1)))
 (sSeq (sIf (iBl (iBin oGt (iVar 2) (iC (.int 60))))
 (sRaiseX "TextBad" "line" (iVar 2))
 sSkip)
 (sSeq (sSet 4 (iCallA 1 m_order_of (iCons (iVar 3) iNil)))
 (sSeq (sIf (iBl (iUn (fun d => some (.bl (oIsN d))) (iVar 4)))
 (sRaiseX "TextBad" "line" (iVar 2))
 sSkip)
 (sDrop (iOwn 1 gAppend (iCons (iVar 4) iNil))))))))
 (sRetO (iMove 1)))))))
def m_read_script : FM := runB 5 [] b_read_script
theorem s_read_script : FnScope N_read_script ["text"] (defScope (top 22)) := ⟨rfl, rfl, rfl, by decide +kernel, rfl, by decide +kernel, by decide +kernel⟩
theorem ok_read_script (c : Facts P w K mg) : Cal P w K mg base 5 "read_script" 1 [] m_read_script :=
 cal_of c.d_read_script s_read_script c.g_read_script (fun fd F => F.bindsN fun _ _ _ _ _ _ us hl => match us, hl with | [_], _ => rfl) fun f cdv A outer s H Ex E W C hE hn =>
 (show JSs _ E W _ b_read_script from
 (jss_cons (js_if (jT_not (jT_pv (jF_isiT isi_str c.b_isinstance c.b_str (f_F (jf_var 0)) PyProof.Rows.Boot.«str»)))
 (jss_one (js_raiseX "line" C c.xs_TextBad (f_F jf_int)))
 jss_nil)
 (jss_cons (js_setO 1 (jN_lst jA_nil) C.nd hE)
 (jss_cons (js_if (jT_eq C (f_F (jf_var 0)) (f_F jf_str))
 (jss_one (js_retO (jN_move 1 hE)))
 jss_nil)
 (jss_cons (js_set 2 (f_F jf_int) C.nd hE)
 (jss_cons (js_for (vs := [3]) C (ji_list (N_F (jN_mts r_split PySem.F.slot_str_split PySem.F.type_str_split mt_split (f_F (jf_var 0)) (jA_cons (f_F jf_str) jA_nil)))) (jg_name 3 C.nd hE)
 (jss_cons (js_augAdd 2 (f_F jf_int) C.nd hE)
 (jss_cons (js_if (jT_gt (f_F (jf_var 2)) (f_F (jf_gint c.k_LINES)))
 (jss_one (js_raiseX "line" C c.xs_TextBad (f_F (jf_var 2))))
 jss_nil)
 (jss_cons (js_set 4 (jF_callA (ok_order_of c) C (jA_cons (f_F (jf_var 3)) jA_nil)) C.nd hE)
 (jss_cons (js_if (jT_isN (f_F (jf_var 4)))
 (jss_one (js_raiseX "line" C c.xs_TextBad (f_F (jf_var 2))))
 jss_nil)
 (jss_one (js_expr (jF_mt r_append 1 PySem.F.slot_list_append PySem.F.type_list_append mt_append (jA_cons (f_F (jf_var 4)) jA_nil)))))))))
 (jss_one (js_retO (jN_move 1 hE)))))))))
/-! _law_read -/
abbrev N__law_read : List Str := ["text", "e"]
def b__law_read : SC :=
 (sTry 1 exm_TextBad (sRetO (iLs (iCons (iC (.int 0)) (iCons (iCallA 1 m_read_script (iCons (iVar 0) iNil)) iNil))))
 (fun x => (sSeq (sIf (ibOr (iBl (iIsE isE_BadPaper x)) (iBl (iIsE isE_BadCount x)))
 (sRetO (iLs (iCons (iUn oNeg (iC (.int 1))) (iCons (iC .non) iNil))))
 sSkip)
 (sRetO (iLs (iCons (iXf "TextBad" "line" x) (iCons (iC .non) iNil)))))))
def m__law_read : FM := runB 2 [] b__law_read
theorem s__law_read : FnScope N__law_read ["text"] (defScope (top 49)) := ⟨rfl, rfl, rfl, by decide +kernel, rfl, by decide +kernel, by decide +kernel⟩
theorem ok__law_read (c : Facts P w K mg) : Cal P w K mg base 6 "_law_read" 1 [] m__law_read :=
 cal_of c.d__law_read s__law_read c.g__law_read (fun fd F => F.bindsN fun _ _ _ _ _ _ us hl => match us, hl with | [_], _ => rfl) fun f cdv A outer s H Ex E W C hE hn =>
 (show JSs _ E W _ b__law_read from
 (jss_one (js_try (i := 1) (cat := exm_TextBad) C hE ⟨rfl, by decide, .inl c.gc_TextBad⟩ c.exm_TextBad (fun _ _ _ _ C1 hE1 _ => (jss_one (js_retO (jN_lst (jA_cons (f_F jf_int) (jA_cons (jF_callA (ok_read_script c) C1 (jA_cons (f_F (jf_var 0)) jA_nil)) jA_nil))))))
 (fun _ _ _ _ x hz hf hE1s => (jss_cons (js_if (jW_or (jT_pv (jF_isE hz hf c.isE_BadPaper c.gc_BadPaper c.b_isinstance)) (jW_or1 (jT_pv (jF_isE hz hf c.isE_BadCount c.gc_BadCount c.b_isinstance)))).pt
 (jss_one (js_retO (jN_lst (jA_cons (jF_neg (f_F jf_int)) (jA_cons (f_F jf_non) jA_nil)))))
 jss_nil)
 (jss_one (js_retO (jN_lst (jA_cons (jF_xf "TextBad" c.xf_TextBad.1 c.xf_TextBad.2 hz hf) (jA_cons (f_F jf_non) jA_nil))))))) hn)))
/-! _law_same_here -/
abbrev N__law_same_here : List Str := ["actual", "expected"]
def b__law_same_here : SC :=
 (sSeq (sIf (iBl (iIsi (isiB "list") (iVar 1)))
 (sRet (iAnd (iIsi (isiB "list") (iVar 0)) (iBin oEq (iFn oLen (iCons (iVar 0) iNil)) (iFn oLen (iCons (iVar 1) iNil)))))
 sSkip)
 (sSeq (sIf (iBl (iIsi (isiB "tuple") (iVar 1)))
 (sRet (iAnd (iIsi (isiB "tuple") (iVar 0)) (iBin oEq (iFn oLen (iCons (iVar 0) iNil)) (iFn oLen (iCons (iVar 1) iNil)))))
 sSkip)
 (sSeq (sIf (iBl (iUn (fun d => some (.bl (oIsN d))) (iVar 1)))
 (sRet (iUn (fun d => some (.bl (oIsN d))) (iVar 0)))
 sSkip)
 (sSeq (sIf (iBl (iIsi (isiB "bool") (iVar 1)))
 (sRet (iAnd (iIsi (isiB "bool") (iVar 0)) (iBin oEq (iVar 0) (iVar 1))))
 sSkip)
 (sSeq (sIf (iBl (iIsi (isiB "str") (iVar 1)))
 (sRet (iAnd (iIsi (isiB "str") (iVar 0)) (iBin oEq (iVar 0) (iVar 1))))
 sSkip)
 (sRet (iAnd (iIsi (isiB "int") (iVar 0)) (iAnd (iNot (iIsi (isiB "bool") (iVar 0))) (iBin oEq (iVar 0) (iVar 1))))))))))
def m__law_same_here : FM := runB 2 [] b__law_same_here
theorem s__law_same_here : FnScope N__law_same_here ["actual", "expected"] (defScope (top 38)) := ⟨rfl, rfl, rfl, by decide +kernel, rfl, by decide +kernel, by decide +kernel⟩
theorem ok__law_same_here (c : Facts P w K mg) : Cal P w K mg base 1 "_law_same_here" 2 [] m__law_same_here :=
 cal_of c.d__law_same_here s__law_same_here c.g__law_same_here (fun fd F => F.bindsN fun _ _ _ _ _ _ us hl => match us, hl with | [_, _], _ => rfl) fun f cdv A outer s H Ex E W C hE hn =>
 (show JSs _ E W _ b__law_same_here from
 (jss_cons (js_if (jT_pv (jF_isiT isi_list c.b_isinstance c.b_list (f_F (jf_var 1)) PyProof.Rows.Boot.«list»))
 (jss_one (js_ret (jF_and (jF_isiT isi_list c.b_isinstance c.b_list (f_F (jf_var 0)) PyProof.Rows.Boot.«list») (jF_one (jF_eq C (jF_callB call_len r_len c.b_len (jA_cons (f_F (jf_var 0)) jA_nil) PyProof.Rows.Boot.«len») (jF_callB call_len r_len c.b_len (jA_cons (f_F (jf_var 1)) jA_nil) PyProof.Rows.Boot.«len»))))))
 jss_nil)
 (jss_cons (js_if (jT_pv (jF_isiT isi_tuple c.b_isinstance c.b_tuple (f_F (jf_var 1)) PyProof.Rows.Boot.«tuple»))
 (jss_one (js_ret (jF_and (jF_isiT isi_tuple c.b_isinstance c.b_tuple (f_F (jf_var 0)) PyProof.Rows.Boot.«tuple») (jF_one (jF_eq C (jF_callB call_len r_len c.b_len (jA_cons (f_F (jf_var 0)) jA_nil) PyProof.Rows.Boot.«len») (jF_callB call_len r_len c.b_len (jA_cons (f_F (jf_var 1)) jA_nil) PyProof.Rows.Boot.«len»))))))
 jss_nil)
 (jss_cons (js_if (jT_isN (f_F (jf_var 1)))
 (jss_one (js_ret (jF_isN (f_F (jf_var 0)))))
 jss_nil)
 (jss_cons (js_if (jT_pv (jF_isiT isi_bool c.b_isinstance c.b_bool (f_F (jf_var 1)) PyProof.Rows.Boot.«bool»))
 (jss_one (js_ret (jF_and (jF_isiT isi_bool c.b_isinstance c.b_bool (f_F (jf_var 0)) PyProof.Rows.Boot.«bool») (jF_one (jF_eq C (f_F (jf_var 0)) (f_F (jf_var 1)))))))
 jss_nil)
 (jss_cons (js_if (jT_pv (jF_isiT isi_str c.b_isinstance c.b_str (f_F (jf_var 1)) PyProof.Rows.Boot.«str»))
 (jss_one (js_ret (jF_and (jF_isiT isi_str c.b_isinstance c.b_str (f_F (jf_var 0)) PyProof.Rows.Boot.«str») (jF_one (jF_eq C (f_F (jf_var 0)) (f_F (jf_var 1)))))))
 jss_nil)
 (jss_one (js_ret (jF_and (jF_isiT isi_int c.b_isinstance c.b_int (f_F (jf_var 0)) PyProof.Rows.Boot.«int») (jF_and (jF_not (jF_isiT isi_bool c.b_isinstance c.b_bool (f_F (jf_var 0)) PyProof.Rows.Boot.«bool»)) (jF_one (jF_eq C (f_F (jf_var 0)) (f_F (jf_var 1))))))))))))))
/-! _law_same -/
abbrev N__law_same : List Str := ["actual", "expected", "todo", "turn", "pair", "k"]
def b__law_same : SC :=
 (sSeq (sSetO 2 (iLs (iCons (iFz (iLs (iCons (iVar 0) (iCons (iVar 1) iNil)))) iNil)))
 (sSeq (sFor (iRng1 (iC (.int 100001))) (gSlot 3)
 (sSeq (sIf (iBl (iBin oEq (iLenE 2) (iC (.int 0))))
 (sRet (iC (.bl true)))
 sSkip)
 (sSeq (sSet 4 (iOwn 2 gPop iNil))
 (sSeq (sIf (ibNot (iBl (iCallA 2 m__law_same_here (iCons (iBin oIx (iVar 4) (iC (.int 0))) (iCons (iBin oIx (iVar 4) (iC (.int 1))) iNil)))))
 (sRet (iC (.bl false)))
 sSkip)
 (sIf (ibOr (iBl (iIsi (isiB "list") (iBin oIx (iVar 4) (iC (.int 1))))) (iBl (iIsi (isiB "tuple") (iBin oIx (iVar 4) (iC (.int 1))))))
 (sFor (iRng1 (iFn oLen (iCons (iBin oIx (iVar 4) (iC (.int 1))) iNil))) (gSlot 5)
 (sDrop (iOwn 2 gAppend (iCons (iFz (iLs (iCons (iBin oIx (iBin oIx (iVar 4) (iC (.int 0))) (iVar 5)) (iCons (iBin oIx (iBin oIx (iVar 4) (iC (.int 1))) (iVar 5)) iNil)))) iNil))))
 sSkip)))))
 (sRet (iC (.bl false)))))
def m__law_same : FM := runB 6 [] b__law_same
theorem s__law_same : FnScope N__law_same ["actual", "expected"] (defScope (top 39)) := ⟨rfl, rfl, rfl, by decide +kernel, rfl, by decide +kernel, by decide +kernel⟩
theorem ok__law_same (c : Facts P w K mg) : Cal P w K mg base 2 "_law_same" 2 [] m__law_same :=
 cal_of c.d__law_same s__law_same c.g__law_same (fun fd F => F.bindsN fun _ _ _ _ _ _ us hl => match us, hl with | [_, _], _ => rfl) fun f cdv A outer s H Ex E W C hE hn =>
 (show JSs _ E W _ b__law_same from
 (jss_cons (js_setO 2 (jN_lst (jA_cons (N_F (jN_lst (jA_cons (f_F (jf_var 0)) (jA_cons (f_F (jf_var 1)) jA_nil)))) jA_nil)) C.nd hE)
 (jss_cons (js_for (vs := [3]) C (ji_range1 (f_F jf_int) c.b_range) (jg_name 3 C.nd hE)
 (jss_cons (js_if (jT_eq C (jF_lenE (f_F (jf_lenO c.b_len (jo_own 2))) (jF_callB call_len r_len c.b_len (jA_cons (f_F (jf_var 2)) jA_nil) PyProof.Rows.Boot.«len»)) (f_F jf_int))
 (jss_one (js_ret (f_F jf_bl)))
 jss_nil)
 (jss_cons (js_set 4 (jF_mt0 r_pop 2 PySem.F.slot_list_pop PySem.F.type_list_pop mt_pop) C.nd hE)
 (jss_cons (js_if (jT_not (jT_pv (jF_callA (ok__law_same_here c) C (jA_cons (jF_ix (f_F (jf_var 4)) (f_F jf_int)) (jA_cons (jF_ix (f_F (jf_var 4)) (f_F jf_int)) jA_nil)))))
 (jss_one (js_ret (f_F jf_bl)))
 jss_nil)
 (jss_one (js_if (jW_or (jT_pv (jF_isiT isi_list c.b_isinstance c.b_list (jF_ix (f_F (jf_var 4)) (f_F jf_int)) PyProof.Rows.Boot.«list»)) (jW_or1 (jT_pv (jF_isiT isi_tuple c.b_isinstance c.b_tuple (jF_ix (f_F (jf_var 4)) (f_F jf_int)) PyProof.Rows.Boot.«tuple»)))).pt
 (jss_one (js_for (vs := [5]) C (ji_range1 (jF_callB call_len r_len c.b_len (jA_cons (jF_ix (f_F (jf_var 4)) (f_F jf_int)) jA_nil) PyProof.Rows.Boot.«len») c.b_range) (jg_name 5 C.nd hE)
 (jss_one (js_expr (jF_mt r_append 2 PySem.F.slot_list_append PySem.F.type_list_append mt_append (jA_cons (N_F (jN_lst (jA_cons (jF_ix (jF_ix (f_F (jf_var 4)) (f_F jf_int)) (f_F (jf_var 5))) (jA_cons (jF_ix (jF_ix (f_F (jf_var 4)) (f_F jf_int)) (f_F (jf_var 5))) jA_nil)))) jA_nil))))))
 jss_nil))))))
 (jss_one (js_ret (f_F jf_bl))))))
/-! _law_spoilt_line -/
abbrev N__law_spoilt_line : List Str := ["store", "line", "way", "at", "spaces", "row", "k"]
def b__law_spoilt_line : SC :=
 (sSeq (sSet 2 (iCall 2 m__law_take 0 (iCons (iC (.int 10)) iNil)))
 (sSeq (sSet 3 (iCall 2 m__law_take 0 (iCons (iBin oAdd (iFn oLen (iCons (iVar 1) iNil)) (iC (.int 1))) iNil)))
 (sSeq (sSet 4 (iFz (iLc [6] (iRng1 (iFn oLen (iCons (iVar 1) iNil))) (gSlot 6) (iBl (iBin oEq (iBin oIx (iVar 1) (iVar 6)) (iC (.str " "))))
 (iVar 6))))
 (sSeq (sIf (iBl (iBin oLe (iVar 2) (iC (.int 1))))
 (sRet (iBin oAdd (iBin oAdd (iSlT (iVar 1) iqNone (iqSome (iVar 3))) (iC (.str "\t"))) (iSlT (iVar 1) (iqSome (iVar 3)) iqNone)))
 sSkip)
 (sSeq (sIf (iBl (iBin oEq (iVar 2) (iC (.int 2))))
 (sRet (iBin oAdd (iVar 1) (iC (.str " "))))
 sSkip)
 (sSeq (sIf (iBl (iBin oEq (iVar 2) (iC (.int 3))))
 (sRet (iBin oAdd (iC (.str " ")) (iVar 1)))
 sSkip)
 (sSeq (sIf (ibAnd (iBl (iBin oEq (iVar 2) (iC (.int 4)))) (iBl (iBin oGt (iFn oLen (iCons (iVar 4) iNil)) (iC (.int 0)))))
 (sSeq (sSet 3 (iCall 2 m__law_pick 0 (iCons (iVar 4) iNil)))
 (sRet (iBin oAdd (iBin oAdd (iSlT (iVar 1) iqNone (iqSome (iVar 3))) (iC (.str " "))) (iSlT (iVar 1) (iqSome (iVar 3)) iqNone))))
 sSkip)
 (sSeq (sIf (iBl (iBin oEq (iVar 2) (iC (.int 5))))
 (sRet (iC (.str "")))
 sSkip)
 (sSeq (sSet 5 (iFz (iLs (iCons (iC (.str "steady abcdefghi")) (iCons (iC (.str "drop 1234567890123")) (iCons (iC (.str "drop 01")) (iCons (iC (.str "drop 00")) (iCons (iC (.str "put 0 1")) (iCons (iC (.str "put 0 1 2 3")) (iCons (iC (.str "least B road")) iNil))))))))))
 (sSeq (sSet 5 (iFz (iBinN oCatD (iVar 5) (iFz (iLs (iCons (iC (.str "tree A")) (iCons (iC (.str "table A")) (iCons (iC (.str "book")) (iCons (iC (.str "book B f1")) (iCons (iC (.str "lay")) (iCons (iC (.str "Back")) (iCons (iC (.str "back 0")) (iCons (iC (.str "grow 1 02")) (iCons (iC (.str "paint A B")) (iCons (iC (.str "drop -1")) iNil)))))))))))))))
 (sSeq (sSet 5 (iFz (iBinN oCatD (iVar 5) (iFz (iLs (iCons (iC (.str "wide A B 1")) (iCons (iC (.str "learn 3")) (iCons (iC (.str "sample A x 0")) (iCons (iC (.str "sample A 1")) (iCons (iC (.str "axioms R 3 2 1")) (iCons (iC (.str "compare A B")) (iCons (iC (.str "keep A B one")) iNil))))))))))))
 (sSeq (sSet 5 (iFz (iBinN oCatD (iVar 5) (iFz (iLs (iCons (iC (.str "chain A B 1 2")) (iCons (iC (.str "table abcdefghi 2: 1")) (iCons (iC (.str "price A B 1000000000000")) (iCons (iC (.str "rule R1 near")) (iCons (iC (.str "figure f\t2: 1")) iNil))))))))))
 (sRet (iCall 2 m__law_pick 0 (iCons (iVar 5) iNil)))))))))))))))
def m__law_spoilt_line : FM := runB 7 [0] b__law_spoilt_line
theorem s__law_spoilt_line : FnScope N__law_spoilt_line ["store", "line"] (defScope (top 47)) := ⟨rfl, rfl, rfl, by decide +kernel, rfl, by decide +kernel, by decide +kernel⟩
theorem ok__law_spoilt_line (c : Facts P w K mg) : Cal P w K mg base 4 "_law_spoilt_line" 2 [0] m__law_spoilt_line :=
 cal_of c.d__law_spoilt_line s__law_spoilt_line c.g__law_spoilt_line (fun fd F => F.bindsN fun _ _ _ _ _ _ us hl => match us, hl with | [_, _], _ => rfl) fun f cdv A outer s H Ex E W C hE hn =>
 (show JSs _ E W _ b__law_spoilt_line from
 (jss_cons (js_set 2 (jF_call (ok__law_take c) C 0 (jA_cons (f_F jf_int) jA_nil)) C.nd hE)
 (jss_cons (js_set 3 (jF_call (ok__law_take c) C 0 (jA_cons (jF_op op_addX r_add (jF_callB call_len r_len c.b_len (jA_cons (f_F (jf_var 1)) jA_nil) PyProof.Rows.Boot.«len») (f_F jf_int)) jA_nil)) C.nd hE)
 (jss_cons (js_lc 4 [("k", 6)] [6] C hE (ji_range1 (jF_callB call_len r_len c.b_len (jA_cons (f_F (jf_var 1)) jA_nil) PyProof.Rows.Boot.«len») c.b_range) (blkOk_by (by kernel_rfl)) (fun _ _ _ _ _ _ C1 hE1 => (jg_name 6 C1.nd hE1)) (fun _ _ _ _ _ _ C1 hE1 => (jts_one (jT_eq C1 (jF_ix (f_F (jf_var 1)) (f_F (jf_var 6))) (f_F jf_str))))
 (fun _ _ _ _ _ _ C1 hE1 => (f_F (jf_var 6))) (sw_true rfl rfl rfl (by decide +kernel)))
 (jss_cons (js_if (jT_le (f_F (jf_var 2)) (f_F jf_int))
 (jss_one (js_ret (jF_op op_addX r_add (jF_op op_addX r_add (jF_slice (f_F (jf_var 1)) jQ_none (jQ_some (f_F (jf_var 3)))) (f_F jf_str)) (jF_slice (f_F (jf_var 1)) (jQ_some (f_F (jf_var 3))) jQ_none))))
 jss_nil)
 (jss_cons (js_if (jT_eq C (f_F (jf_var 2)) (f_F jf_int))
 (jss_one (js_ret (jF_op op_addX r_add (f_F (jf_var 1)) (f_F jf_str))))
 jss_nil)
 (jss_cons (js_if (jT_eq C (f_F (jf_var 2)) (f_F jf_int))
 (jss_one (js_ret (jF_op op_addX r_add (f_F jf_str) (f_F (jf_var 1)))))
 jss_nil)
 (jss_cons (js_if (jW_and (jT_eq C (f_F (jf_var 2)) (f_F jf_int)) (jW_and1 (jT_gt (jF_callB call_len r_len c.b_len (jA_cons (f_F (jf_var 4)) jA_nil) PyProof.Rows.Boot.«len») (f_F jf_int)))).pt
 (jss_cons (js_set 3 (jF_call (ok__law_pick c) C 0 (jA_cons (f_F (jf_var 4)) jA_nil)) C.nd hE)
 (jss_one (js_ret (jF_op op_addX r_add (jF_op op_addX r_add (jF_slice (f_F (jf_var 1)) jQ_none (jQ_some (f_F (jf_var 3)))) (f_F jf_str)) (jF_slice (f_F (jf_var 1)) (jQ_some (f_F (jf_var 3))) jQ_none)))))
 jss_nil)
 (jss_cons (js_if (jT_eq C (f_F (jf_var 2)) (f_F jf_int))
 (jss_one (js_ret (f_F jf_str)))
 jss_nil)
 (jss_cons (js_set 5 (N_F (jN_lst (jA_cons (f_F jf_str) (jA_cons (f_F jf_str) (jA_cons (f_F jf_str) (jA_cons (f_F jf_str) (jA_cons (f_F jf_str) (jA_cons (f_F jf_str) (jA_cons (f_F jf_str) jA_nil))))))))) C.nd hE)
 (jss_cons (js_set 5 (N_F (jN_cat (f_F (jf_var 5)) (N_F (jN_lst (jA_cons (f_F jf_str) (jA_cons (f_F jf_str) (jA_cons (f_F jf_str) (jA_cons (f_F jf_str) (jA_cons (f_F jf_str) (jA_cons (f_F jf_str) (jA_cons (f_F jf_str) (jA_cons (f_F jf_str) (jA_cons (f_F jf_str) (jA_cons (f_F jf_str) jA_nil)))))))))))))) C.nd hE)
 (jss_cons (js_set 5 (N_F (jN_cat (f_F (jf_var 5)) (N_F (jN_lst (jA_cons (f_F jf_str) (jA_cons (f_F jf_str) (jA_cons (f_F jf_str) (jA_cons (f_F jf_str) (jA_cons (f_F jf_str) (jA_cons (f_F jf_str) (jA_cons (f_F jf_str) jA_nil))))))))))) C.nd hE)
 (jss_cons (js_set 5 (N_F (jN_cat (f_F (jf_var 5)) (N_F (jN_lst (jA_cons (f_F jf_str) (jA_cons (f_F jf_str) (jA_cons (f_F jf_str) (jA_cons (f_F jf_str) (jA_cons (f_F jf_str) jA_nil))))))))) C.nd hE)
 (jss_one (js_ret (jF_call (ok__law_pick c) C 0 (jA_cons (f_F (jf_var 5)) jA_nil)))))))))))))))))
/-! number_told -/
abbrev N_number_told : List Str := ["value"]
def b_number_told : SC :=
 (sSeq (sIf (ibOr (ibNot (iBl (iIsi (isiB "int") (iVar 0)))) (iBl (iIsi (isiB "bool") (iVar 0))))
 (sRet (iC .non))
 sSkip)
 (sRet (iIf (iBl (iChain oLe oLt (iC (.int 0)) (iVar 0) (iBin oPow (iC (.int 10)) (iC (.int 12))))) (iFn oStr (iCons (iVar 0) iNil)) (iC .non))))
def m_number_told : FM := runB 1 [] b_number_told
theorem s_number_told : FnScope N_number_told ["value"] (defScope (top 23)) := ⟨rfl, rfl, rfl, by decide +kernel, rfl, by decide +kernel, by decide +kernel⟩
theorem ok_number_told (c : Facts P w K mg) : Cal P w K mg base 1 "number_told" 1 [] m_number_told :=
 cal_of c.d_number_told s_number_told c.g_number_told (fun fd F => F.bindsN fun _ _ _ _ _ _ us hl => match us, hl with | [_], _ => rfl) fun f cdv A outer s H Ex E W C hE hn =>
 (show JSs _ E W _ b_number_told from
 (jss_cons (js_if (jW_or (jT_not (jT_pv (jF_isiT isi_int c.b_isinstance c.b_int (f_F (jf_var 0)) PyProof.Rows.Boot.«int»))) (jW_or1 (jT_pv (jF_isiT isi_bool c.b_isinstance c.b_bool (f_F (jf_var 0)) PyProof.Rows.Boot.«bool»)))).pt
 (jss_one (js_ret (f_F jf_non)))
 jss_nil)
 (jss_one (js_ret (jF_if (jT_chain op_le op_lt (r_oI _) (r_oI _) (f_F jf_int) (f_F (jf_var 0)) (jF_op op_pow r_pow (f_F jf_int) (f_F jf_int))) (jF_callTy call_strX r_str c.b_str (jA_cons (f_F (jf_var 0)) jA_nil) PyProof.Rows.Boot.«str») (f_F jf_non))))))
/-! word_told -/
abbrev N_word_told : List Str := ["sort", "value"]
def b_word_told : SC :=
 (sSeq (sIf (iBl (iBin oEq (iVar 0) (iC (.str "number"))))
 (sRet (iCallA 1 m_number_told (iCons (iVar 1) iNil)))
 sSkip)
 (sSeq (sIf (iBl (iBin oEq (iVar 0) (iC (.str "name"))))
 (sRet (iIf (iBl (iCallA 1 m_is_name (iCons (iVar 1) iNil))) (iVar 1) (iC .non)))
 sSkip)
 (sRet (iIf (iBl (iCallA 1 m_is_kind (iCons (iVar 1) iNil))) (iVar 1) (iC .non)))))
def m_word_told : FM := runB 2 [] b_word_told
theorem s_word_told : FnScope N_word_told ["sort", "value"] (defScope (top 24)) := ⟨rfl, rfl, rfl, by decide +kernel, rfl, by decide +kernel, by decide +kernel⟩
theorem ok_word_told (c : Facts P w K mg) : Cal P w K mg base 2 "word_told" 2 [] m_word_told :=
 cal_of c.d_word_told s_word_told c.g_word_told (fun fd F => F.bindsN fun _ _ _ _ _ _ us hl => match us, hl with | [_, _], _ => rfl) fun f cdv A outer s H Ex E W C hE hn =>
 (show JSs _ E W _ b_word_told from
 (jss_cons (js_if (jT_eq C (f_F (jf_var 0)) (f_F jf_str))
 (jss_one (js_ret (jF_callA (ok_number_told c) C (jA_cons (f_F (jf_var 1)) jA_nil))))
 jss_nil)
 (jss_cons (js_if (jT_eq C (f_F (jf_var 0)) (f_F jf_str))
 (jss_one (js_ret (jF_if (jT_pv (jF_callA (ok_is_name c) C (jA_cons (f_F (jf_var 1)) jA_nil))) (f_F (jf_var 1)) (f_F jf_non))))
 jss_nil)
 (jss_one (js_ret (jF_if (jT_pv (jF_callA (ok_is_kind c) C (jA_cons (f_F (jf_var 1)) jA_nil))) (f_F (jf_var 1)) (f_F jf_non)))))))
/-! words_told -/
abbrev N_words_told : List Str := ["sort", "value", "one_sort", "words", "part", "word"]
def b_words_told : SC :=
 (sSeq (sIf (iBl (iBin oEq (iVar 0) (iC (.str "text"))))
 (sRet (iIf (iBl (iCallA 1 m_is_free_text (iCons (iVar 1) iNil))) (iFz (iLs (iCons (iVar 1) iNil))) (iC .non)))
 sSkip)
 (sSeq (sIf (iBl (iBin (oInT fun z => z) (iVar 0) (iC (.tup k_TAILS))))
 (sSeq (sIf (ibNot (iBl (iIsi (isiB "list") (iVar 1))))
 (sRet (iC .non))
 sSkip)
 (sSeq (sSet 2 (iIf (iBl (iBin oEq (iVar 0) (iC (.str "names")))) (iC (.str "name")) (iC (.str "number"))))
 (sSet 3 (iFz (iLc [4] (iSq (iVar 1)) (gSlot 4) (fun ŝ => .ok true ŝ)
 (iCallA 2 m_word_told (iCons (iVar 2) (iCons (iVar 4) iNil))))))))
 (sSet 3 (iFz (iLs (iCons (iCallA 2 m_word_told (iCons (iVar 0) (iCons (iVar 1) iNil))) iNil)))))
 (sSeq (sIf (iBl (iFn oAny (iCons (iFz (iLc [5] (iLst (iVar 3)) (gSlot 5) (fun ŝ => .ok true ŝ)
 (iUn (fun d => some (.bl (oIsN d))) (iVar 5)))) iNil)))
 (sRet (iC .non))
 sSkip)
 (sRet (iVar 3)))))
def m_words_told : FM := runB 6 [] b_words_told
theorem s_words_told : FnScope N_words_told ["sort", "value"] (defScope (top 25)) := ⟨rfl, rfl, rfl, by decide +kernel, rfl, by decide +kernel, by decide +kernel⟩
theorem ok_words_told (c : Facts P w K mg) : Cal P w K mg base 3 "words_told" 2 [] m_words_told :=
 cal_of c.d_words_told s_words_told c.g_words_told (fun fd F => F.bindsN fun _ _ _ _ _ _ us hl => match us, hl with | [_, _], _ => rfl) fun f cdv A outer s H Ex E W C hE hn =>
 (show JSs _ E W _ b_words_told from
 (jss_cons (js_if (jT_eq C (f_F (jf_var 0)) (f_F jf_str))
 (jss_one (js_ret (jF_if (jT_pv (jF_callA (ok_is_free_text c) C (jA_cons (f_F (jf_var 1)) jA_nil))) (N_F (jN_lst (jA_cons (f_F (jf_var 1)) jA_nil))) (f_F jf_non))))
 jss_nil)
 (jss_cons (js_if (jT_inT (f_F (jf_var 0)) (f_F (jf_gtup c.g_TAILS c.k_TAILS.1 c.k_TAILS.2)))
 (jss_cons (js_if (jT_not (jT_pv (jF_isiT isi_list c.b_isinstance c.b_list (f_F (jf_var 1)) PyProof.Rows.Boot.«list»)))
 (jss_one (js_ret (f_F jf_non)))
 jss_nil)
 (jss_cons (js_set 2 (jF_if (jT_eq C (f_F (jf_var 0)) (f_F jf_str)) (f_F jf_str) (f_F jf_str)) C.nd hE)
 (jss_one (js_lc 3 [("part", 4)] [4] C hE (ji_sq (f_F (jf_var 1))) (blkOk_by (by kernel_rfl)) (fun _ _ _ _ _ _ C1 hE1 => (jg_name 4 C1.nd hE1)) (fun _ _ _ _ _ _ C1 hE1 => jts_nil)
 (fun _ _ _ _ _ _ C1 hE1 => (jF_callA (ok_word_told c) C1 (jA_cons (f_F (jf_var 2)) (jA_cons (f_F (jf_var 4)) jA_nil)))) (sw_true rfl rfl rfl (by decide +kernel))))))
 (jss_one (js_set 3 (N_F (jN_lst (jA_cons (jF_callA (ok_word_told c) C (jA_cons (f_F (jf_var 0)) (jA_cons (f_F (jf_var 1)) jA_nil))) jA_nil))) C.nd hE)))
 (jss_cons (js_if (jT_pv (jF_callB (cr_any C.calm) r_any c.b_any (jA_cons (N_F (jN_lc [("word", 5)] [5] C hE (ji_list (f_F (jf_var 3))) (blkOk_by (by kernel_rfl)) (fun _ _ _ _ _ _ C1 hE1 => (jg_name 5 C1.nd hE1)) (fun _ _ _ _ _ _ C1 hE1 => jts_nil)
 (fun _ _ _ _ _ _ C1 hE1 => (jF_isN (f_F (jf_var 5)))))) jA_nil) PyProof.Rows.Boot.«any»))
 (jss_one (js_ret (f_F jf_non)))
 jss_nil)
 (jss_one (js_ret (f_F (jf_var 3))))))))
/-! line_of -/
abbrev N_line_of : List Str := ["order", "form", "words", "k", "more", "line"]
def b_line_of : SC :=
 (sSeq (sIf (ibOr (ibNot (iBl (iIsi (isiB "tuple") (iVar 0)))) (iBl (iBin oEq (iFn oLen (iCons (iVar 0) iNil)) (iC (.int 0)))))
 (sRet (iC .non))
 sSkip)
 (sSeq (sIf (ibOr (ibNot (iBl (iIsi (isiB "str") (iBin oIx (iVar 0) (iC (.int 0)))))) (iBl (iUn (oInG k_FORMS true) (iBin oIx (iVar 0) (iC (.int 0))))))
 (sRet (iC .non))
 sSkip)
 (sSeq (sSet 1 (iUn (oIxG k_FORMS) (iBin oIx (iVar 0) (iC (.int 0)))))
 (sSeq (sIf (iBl (iBin oNe (iFn oLen (iCons (iVar 0) iNil)) (iBin oAdd (iFn oLen (iCons (iVar 1) iNil)) (iC (.int 1)))))
 (sRet (iC .non))
 sSkip)
 (sSeq (sSetO 2 (iLs (iCons (iBin oIx (iVar 0) (iC (.int 0))) iNil)))
 (sSeq (sFor (iRng1 (iFn oLen (iCons (iVar 1) iNil))) (gSlot 3)
 (sSeq (sSet 4 (iCallA 2 m_words_told (iCons (iBin oIx (iVar 1) (iVar 3)) (iCons (iBin oIx (iVar 0) (iBin oAdd (iVar 3) (iC (.int 1)))) iNil))))
 (sSeq (sIf (iBl (iUn (fun d => some (.bl (oIsN d))) (iVar 4)))
 (sRet (iC .non))
 sSkip)
 (sDrop (iOwn 2 gExtend (iCons (iVar 4) iNil))))))
 (sSeq (sPre 2 (sSet 5 (iMt oJoin (iC (.str " ")) (iCons (iVar 2) iNil))))
 (sRet (iIf (iBl (iBin oLe (iFn oLen (iCons (iVar 5) iNil)) (iC (.int 200)))) (iVar 5) (iC .non))))))))))
def m_line_of : FM := runB 6 [] b_line_of
theorem s_line_of : FnScope N_line_of ["order"] (defScope (top 26)) := ⟨rfl, rfl, rfl, by decide +kernel, rfl, by decide +kernel, by decide +kernel⟩
theorem ok_line_of (c : Facts P w K mg) : Cal P w K mg base 4 "line_of" 1 [] m_line_of :=
 cal_of c.d_line_of s_line_of c.g_line_of (fun fd F => F.bindsN fun _ _ _ _ _ _ us hl => match us, hl with | [_], _ => rfl) fun f cdv A outer s H Ex E W C hE hn =>
 (show JSs _ E W _ b_line_of from
 (jss_cons (js_if (jW_or (jT_not (jT_pv (jF_isiT isi_tuple c.b_isinstance c.b_tuple (f_F (jf_var 0)) PyProof.Rows.Boot.«tuple»))) (jW_or1 (jT_eq C (jF_callB call_len r_len c.b_len (jA_cons (f_F (jf_var 0)) jA_nil) PyProof.Rows.Boot.«len») (f_F jf_int)))).pt
 (jss_one (js_ret (f_F jf_non)))
 jss_nil)
 (jss_cons (js_if (jW_or (jT_not (jT_pv (jF_isiT isi_str c.b_isinstance c.b_str (jF_ix (f_F (jf_var 0)) (f_F jf_int)) PyProof.Rows.Boot.«str»))) (jW_or1 (jT_ninG c.k_FORMS c.g_FORMS (jF_ix (f_F (jf_var 0)) (f_F jf_int))))).pt
 (jss_one (js_ret (f_F jf_non)))
 jss_nil)
 (jss_cons (js_set 1 (jF_ixG c.k_FORMS c.g_FORMS (jF_ix (f_F (jf_var 0)) (f_F jf_int))) C.nd hE)
 (jss_cons (js_if (jT_ne C (jF_callB call_len r_len c.b_len (jA_cons (f_F (jf_var 0)) jA_nil) PyProof.Rows.Boot.«len») (jF_op op_addX r_add (jF_callB call_len r_len c.b_len (jA_cons (f_F (jf_var 1)) jA_nil) PyProof.Rows.Boot.«len») (f_F jf_int)))
 (jss_one (js_ret (f_F jf_non)))
 jss_nil)
 (jss_cons (js_setO 2 (jN_lst (jA_cons (jF_ix (f_F (jf_var 0)) (f_F jf_int)) jA_nil)) C.nd hE)
 (jss_cons (js_for (vs := [3]) C (ji_range1 (jF_callB call_len r_len c.b_len (jA_cons (f_F (jf_var 1)) jA_nil) PyProof.Rows.Boot.«len») c.b_range) (jg_name 3 C.nd hE)
 (jss_cons (js_set 4 (jF_callA (ok_words_told c) C (jA_cons (jF_ix (f_F (jf_var 1)) (f_F (jf_var 3))) (jA_cons (jF_ix (f_F (jf_var 0)) (jF_op op_addX r_add (f_F (jf_var 3)) (f_F jf_int))) jA_nil))) C.nd hE)
 (jss_cons (js_if (jT_isN (f_F (jf_var 4)))
 (jss_one (js_ret (f_F jf_non)))
 jss_nil)
 (jss_one (js_expr (jF_mt r_extend 2 PySem.F.slot_list_extend PySem.F.type_list_extend mt_extend (jA_cons (f_F (jf_var 4)) jA_nil)))))))
 (jss_cons (js_pre 2 hE (js_set 5 (jF_mts r_join PySem.F.slot_str_join PySem.F.type_str_join mt_join (f_F jf_str) (jA_cons (f_F (jf_var 2)) jA_nil)) C.nd hE))
 (jss_one (js_ret (jF_if (jT_le (jF_callB call_len r_len c.b_len (jA_cons (f_F (jf_var 5)) jA_nil) PyProof.Rows.Boot.«len») (f_F (jf_gint c.k_LINE_SIGNS))) (f_F (jf_var 5)) (f_F jf_non))))))))))))
/-! tell_script -/
abbrev N_tell_script : List Str := ["orders", "lines", "order", "line"]
def b_tell_script : SC :=
 (sSeq (sIf (ibOr (ibNot (iBl (iIsi (isiB "list") (iVar 0)))) (iBl (iBin oGt (iFn oLen (iCons (iVar 0) iNil)) (iC (.int 60)))))
 (sRaise "BadPaper" (iCons (iC (.str "not a list of at most 60 orders")) iNil))
 sSkip)
 (sSeq (sSetO 1 (iLs iNil))
 (sSeq (sFor (iSq (iVar 0)) (gSlot 2)
 (sSeq (sSet 3 (iCallA 1 m_line_of (iCons (iVar 2) iNil)))
 (sSeq (sIf (iBl (iUn (fun d => some (.bl (oIsN d))) (iVar 3)))
 (sRaise "BadPaper" (iCons (iC (.str "not an order of a script")) iNil))
 sSkip)
 (sDrop (iOwn 1 gAppend (iCons (iVar 3) iNil))))))
 (sPre 1 (sRet (iMt oJoin (iC (.str "\n")) (iCons (iVar 1) iNil)))))))
def m_tell_script : FM := runB 4 [] b_tell_script
theorem s_tell_script : FnScope N_tell_script ["orders"] (defScope (top 27)) := ⟨rfl, rfl, rfl, by decide +kernel, rfl, by decide +kernel, by decide +kernel⟩
theorem ok_tell_script (c : Facts P w K mg) : Cal P w K mg base 5 "tell_script" 1 [] m_tell_script :=
 cal_of c.d_tell_script s_tell_script c.g_tell_script (fun fd F => F.bindsN fun _ _ _ _ _ _ us hl => match us, hl with | [_], _ => rfl) fun f cdv A outer s H Ex E W C hE hn =>
 (show JSs _ E W _ b_tell_script from
 (jss_cons (js_if (jW_or (jT_not (jT_pv (jF_isiT isi_list c.b_isinstance c.b_list (f_F (jf_var 0)) PyProof.Rows.Boot.«list»))) (jW_or1 (jT_gt (jF_callB call_len r_len c.b_len (jA_cons (f_F (jf_var 0)) jA_nil) PyProof.Rows.Boot.«len») (f_F (jf_gint c.k_LINES))))).pt
 (jss_one (js_raise C c.x_BadPaper (jA_cons (f_F jf_str) jA_nil)))
 jss_nil)
 (jss_cons (js_setO 1 (jN_lst jA_nil) C.nd hE)
 (jss_cons (js_for (vs := [2]) C (ji_sq (f_F (jf_var 0))) (jg_name 2 C.nd hE)
 (jss_cons (js_set 3 (jF_callA (ok_line_of c) C (jA_cons (f_F (jf_var 2)) jA_nil)) C.nd hE)
 (jss_cons (js_if (jT_isN (f_F (jf_var 3)))
 (jss_one (js_raise C c.x_BadPaper (jA_cons (f_F jf_str) jA_nil)))
 jss_nil)
 (jss_one (js_expr (jF_mt r_append 1 PySem.F.slot_list_append PySem.F.type_list_append mt_append (jA_cons (f_F (jf_var 3)) jA_nil)))))))
 (jss_one (js_pre 1 hE (js_ret (jF_mts r_join PySem.F.slot_str_join PySem.F.type_str_join mt_join (f_F jf_str) (jA_cons (f_F (jf_var 1)) jA_nil)))))))))
/-! _law_good_script -/
abbrev N__law_good_script : List Str := ["orders", "text", "answer", "order", "entry", "handed"]
def b__law_good_script : SC :=
 (sSpoil 2 3 4 1 0 m_read_script m__law_same
 (sSeq (sSet 5 (iFz (iLc [3, 4] (iSq (iVar 0)) (gSlot 3) (fun ŝ => .ok true ŝ)
 (iFn oTuple (iCons (iFz (iLc [4] (iSq (iVar 3)) (gSlot 4) (fun ŝ => .ok true ŝ)
 (iIf (iBl (iIsi (isiB "list") (iVar 4))) (iFz (iFnN oList (iCons (iVar 4) iNil))) (iVar 4)))) iNil)))))
 (sSeq (sIf (ibOr (ibNot (iBl (iCallA 2 m__law_same (iCons (iCallA 1 m_read_script (iCons (iVar 1) iNil)) (iCons (iVar 0) iNil))))) (ibNot (iBl (iCallA 2 m__law_same (iCons (iCallA 1 m_tell_script (iCons (iVar 5) iNil)) (iCons (iVar 1) iNil))))))
 (sRet (iC (.bl false)))
 sSkip)
 (sRet (iAnd (iCallA 2 m__law_same (iCons (iVar 5) (iCons (iVar 0) iNil))) (iAnd (iCallA 2 m__law_same (iCons (iCallA 1 m_read_script (iCons (iC (.str "")) iNil)) (iCons (iFz (iLs iNil)) iNil))) (iCallA 2 m__law_same (iCons (iCallA 1 m_tell_script (iCons (iFz (iLs iNil)) iNil)) (iCons (iC (.str "")) iNil)))))))))
def m__law_good_script : FM := runB 6 [] b__law_good_script
theorem s__law_good_script : FnScope N__law_good_script ["orders", "text"] (defScope (top 52)) := ⟨rfl, rfl, rfl, by decide +kernel, rfl, by decide +kernel, by decide +kernel⟩
theorem ok__law_good_script (c : Facts P w K mg) : Cal P w K mg base 6 "_law_good_script" 2 [] m__law_good_script := by
 refine cal_of c.d__law_good_script s__law_good_script c.g__law_good_script (fun fd F => F.bindsN fun _ _ _ _ _ _ us hl => match us, hl with | [_, _], _ => rfl) fun f cdv A outer s H Ex E W C hE hn => ?_
 obtain ⟨f1, fd1, ps1, hps1, hf1, hm1, hk1, hb1⟩ := (ok_read_script (base := base) c).ex
 obtain ⟨f2, fd2, ps2, hps2, hf2, hm2, hk2, hb2⟩ := (ok__law_same (base := base) c).ex
 exact (show JSs _ E W _ b__law_good_script from
 (js_spoil (ia := 2) (io := 3) (ie := 4) (it := 1) (ir := 0) (m1 := m_read_script) (m2 := m__law_same) (ps_set C.nd rfl (.inl rfl) (pe_callS hf1 (C.room.mono (by decide)) rfl hm1 hk1 hb1 (fun σ => passAt C.tk σ) (pa_cons (pe_var rfl (.inl rfl)) pa_nil)))
 (ps_if (pt_not (pt_val (pe_callS hf2 (C.room.mono (by decide)) rfl hm2 hk2 hb2 (fun σ => passAt C.tk σ) (pa_cons (pe_var rfl (.inl rfl)) (pa_cons (pe_var rfl (.inl rfl)) pa_nil))))) (pss_one (ps_ret pe_bl)) pss_nil)
 (ps_for C.po C.calm (pi_list (pe_var rfl (.inl rfl))) (pg_name C.nd rfl (.inl rfl)) (pss_one (ps_for C.po C.calm (pi_tup (pe_var rfl (.inl rfl))) (pg_name C.nd rfl (.inl rfl)) (pss_one (ps_if (pt_val (pe_callB call_isi rfl c.b_isinstance PyProof.Rows.Boot.«isinstance» (pa_cons (pe_var rfl (.inl rfl)) (pa_cons (pe_bltn (v := .ty "list") rfl c.b_list PyProof.Rows.Boot.«list» rfl) pa_nil)))) (pss_one (ps_expr (pe_bm PySem.F.plainAttrs_list PySem.F.slot_list_append PySem.F.type_list_append mt_append (pe_var rfl (.inl rfl)) (pa_cons pe_int pa_nil)))) pss_nil)))))
 (ps_expr (pe_bm PySem.F.plainAttrs_list PySem.F.slot_list_append PySem.F.type_list_append mt_append (pe_var rfl (.inl rfl)) (pa_cons (pe_tup (pa_cons pe_str pa_nil)) pa_nil)))
(jss_cons (js_lc 5 [("order", 3)] [3, 4] C hE (ji_sq (f_F (jf_var 0))) (blkOk_by (by kernel_rfl)) (fun _ _ _ _ _ _ C1 hE1 => (jg_name 3 C1.nd hE1)) (fun _ _ _ _ _ _ C1 hE1 => jts_nil)
 (fun _ _ _ _ _ _ C1 hE1 => (jF_callTy call_tuple_of r_tuple c.b_tuple (jA_cons (N_F (jN_lc [("entry", 4)] [4] C1 hE1 (ji_sq (f_F (jf_var 3))) (blkOk_by (by kernel_rfl)) (fun _ _ _ _ _ _ C2 hE2 => (jg_name 4 C2.nd hE2)) (fun _ _ _ _ _ _ C2 hE2 => jts_nil)
 (fun _ _ _ _ _ _ C2 hE2 => (jF_if (jT_pv (jF_isiT isi_list c.b_isinstance c.b_list (f_F (jf_var 4)) PyProof.Rows.Boot.«list»)) (N_F (jN_callTy call_list_of r_list c.b_list (jA_cons (f_F (jf_var 4)) jA_nil) PyProof.Rows.Boot.«list»)) (f_F (jf_var 4)))))) jA_nil) PyProof.Rows.Boot.«tuple»)) (sw_true rfl rfl rfl (by decide +kernel)))
 (jss_cons (js_if (jW_or (jT_not (jT_pv (jF_callA (ok__law_same c) C (jA_cons (jF_callA (ok_read_script c) C (jA_cons (f_F (jf_var 1)) jA_nil)) (jA_cons (f_F (jf_var 0)) jA_nil))))) (jW_or1 (jT_not (jT_pv (jF_callA (ok__law_same c) C (jA_cons (jF_callA (ok_tell_script c) C (jA_cons (f_F (jf_var 5)) jA_nil)) (jA_cons (f_F (jf_var 1)) jA_nil))))))).pt
 (jss_one (js_ret (f_F jf_bl)))
 jss_nil)
 (jss_one (js_ret (jF_and (jF_callA (ok__law_same c) C (jA_cons (f_F (jf_var 5)) (jA_cons (f_F (jf_var 0)) jA_nil))) (jF_and (jF_callA (ok__law_same c) C (jA_cons (jF_callA (ok_read_script c) C (jA_cons (f_F jf_str) jA_nil)) (jA_cons (N_F (jN_lst jA_nil)) jA_nil))) (jF_one (jF_callA (ok__law_same c) C (jA_cons (jF_callA (ok_tell_script c) C (jA_cons (N_F (jN_lst jA_nil)) jA_nil)) (jA_cons (f_F jf_str) jA_nil))))))))))
 (hE.ne rfl) (hE.ne rfl) (hE.ne rfl) (by decide) (fun σ F h => by have := E.len _ _ h; rw [hn] at this; rw [this]; decide)))
/-! _law_refused -/
abbrev N__law_refused : List Str := ["orders", "e"]
def b__law_refused : SC :=
 (sSeq (sTry 1 exm_BadPaper (sDrop (iCallA 1 m_tell_script (iCons (iVar 0) iNil)))
 (fun x => (sRet (iAnd (iIsE isE_FigureError x) (iAnd (iNot (iIsE isE_TextBad x)) (iNot (iIsE isE_BadCount x)))))))
 (sRet (iC (.bl false))))
def m__law_refused : FM := runB 2 [] b__law_refused
theorem s__law_refused : FnScope N__law_refused ["orders"] (defScope (top 50)) := ⟨rfl, rfl, rfl, by decide +kernel, rfl, by decide +kernel, by decide +kernel⟩
theorem ok__law_refused (c : Facts P w K mg) : Cal P w K mg base 6 "_law_refused" 1 [] m__law_refused :=
 cal_of c.d__law_refused s__law_refused c.g__law_refused (fun fd F => F.bindsN fun _ _ _ _ _ _ us hl => match us, hl with | [_], _ => rfl) fun f cdv A outer s H Ex E W C hE hn =>
 (show JSs _ E W _ b__law_refused from
 (jss_cons (js_try (i := 1) (cat := exm_BadPaper) C hE ⟨rfl, by decide, .inl c.gc_BadPaper⟩ c.exm_BadPaper (fun _ _ _ _ C1 hE1 _ => (jss_one (js_expr (jF_callA (ok_tell_script c) C1 (jA_cons (f_F (jf_var 0)) jA_nil)))))
 (fun _ _ _ _ x hz hf hE1s => (jss_one (js_ret (jF_and (jF_isE hz hf c.isE_FigureError c.gc_FigureError c.b_isinstance) (jF_and (jF_not (jF_isE hz hf c.isE_TextBad c.gc_TextBad c.b_isinstance)) (jF_one (jF_not (jF_isE hz hf c.isE_BadCount c.gc_BadCount c.b_isinstance)))))))) hn)
 (jss_one (js_ret (f_F jf_bl)))))
/-! _law_bad_order -/
abbrev N__law_bad_order : List Str := ["store", "row", "k"]
def b__law_bad_order : SC :=
 (sSeq (sSet 1 (iFz (iLs (iCons (iTupD (iCons (iC (.str "table")) (iCons (iC (.str "A")) (iCons (iC (.str "")) iNil)))) (iCons (iTupD (iCons (iC (.str "table")) (iCons (iC (.str "A")) (iCons (iC (.str "a  b")) iNil)))) (iCons (iTupD (iCons (iC (.str "table")) (iCons (iC (.str "A")) (iCons (iC (.str "a ")) iNil)))) (iCons (iTupD (iCons (iC (.str "rule")) (iCons (iC (.str "abcdefghi")) (iCons (iC (.str "x")) iNil)))) (iCons (iTupD (iCons (iC (.str "drop")) (iCons (iUn oNeg (iC (.int 1))) iNil))) iNil))))))))
 (sSeq (sSet 1 (iFz (iBinN oCatD (iVar 1) (iFz (iLs (iCons (iTupD (iCons (iC (.str "drop")) (iCons (iC (.bl true)) iNil))) (iCons (iTupD (iCons (iC (.str "drop")) (iCons (iBin oPow (iC (.int 10)) (iC (.int 12))) iNil))) (iCons (iFz (iLs (iCons (iC (.str "drop")) (iCons (iC (.int 0)) iNil)))) (iCons (iTupD (iCons (iC (.str "grow")) (iCons (iTupD (iCons (iC (.int 1)) (iCons (iC (.int 2)) iNil))) iNil))) (iCons (iTupD (iCons (iC (.str "grow")) (iCons (iFz (iLs (iCons (iC (.int 1)) (iCons (iC (.bl true)) iNil)))) iNil))) (iCons (iTupD (iCons (iC (.str "back")) (iCons (iC (.int 0)) iNil))) iNil)))))))))))
 (sSeq (sSet 1 (iFz (iBinN oCatD (iVar 1) (iFz (iLs (iCons (iTupD (iCons (iC (.str "book")) (iCons (iC (.str "B")) (iCons (iTupD (iCons (iC (.str "f")) iNil)) iNil)))) (iCons (iTupD (iCons (iC (.str "book")) (iCons (iC (.str "B")) (iCons (iFz (iLs (iCons (iC (.str "f1")) iNil))) iNil)))) (iCons (iTupD (iCons (iC (.str "paint")) (iCons (iC (.str "A")) iNil))) (iCons (iTupD (iCons (iC (.str "least")) (iCons (iC (.str "B")) (iCons (iC (.str "road")) iNil)))) (iCons (iC .non) (iCons (iTupD iNil) iNil)))))))))))
 (sSeq (sSet 1 (iFz (iBinN oCatD (iVar 1) (iFz (iLs (iCons (iTupD (iCons (iC (.str "sample")) (iCons (iC (.str "A")) (iCons (iC (.str "1")) (iCons (iC (.str "0")) iNil))))) (iCons (iTupD (iCons (iC (.str "table")) (iCons (iC (.str "A")) (iCons (iC (.str "a\tb")) iNil)))) (iCons (iTupD (iCons (iC (.str "groups")) (iCons (iC (.str "A")) (iCons (iC (.str "B")) iNil)))) (iCons (iC (.str "back")) (iCons (iTupD (iCons (iC (.str "steady")) (iCons (iC (.str "")) iNil))) iNil))))))))))
 (sSeq (sSet 1 (iFz (iBinN oCatD (iVar 1) (iFz (iLs (iCons (iTupD (iCons (iC (.str "table")) (iCons (iC (.str "A")) (iCons (iBin oMulS (iC (.str "x")) (iC (.int 193))) iNil)))) (iCons (iTupD (iCons (iC (.str "grow")) (iCons (iFz (iBinN oCatD (iFz (iLc [2] (iRng1 (iC (.int 97))) (gSlot 2) (fun ŝ => .ok true ŝ)
 (iC (.int 1)))) (iFz (iLs (iCons (iC (.int 12)) iNil))))) iNil))) (iCons (iTupD (iCons (iC (.str "lay")) (iCons (iC (.str "f")) (iCons (iC (.str "g")) iNil)))) (iCons (iTupD (iCons (iC (.str "drop")) (iCons (iC (.str "0")) iNil))) iNil)))))))))
 (sRet (iCall 2 m__law_pick 0 (iCons (iFz (iBinN oCatD (iVar 1) (iFz (iLs (iCons (iTupD (iCons (iC (.str "figure")) (iCons (iC (.str "f")) (iCons (iC (.str " a")) iNil)))) (iCons (iTupD (iCons (iC (.str "rule")) (iCons (iC (.str "R")) (iCons (iC (.str "a\nb")) iNil)))) (iCons (iTupD (iCons (iC (.str "wide")) (iCons (iC (.str "A")) (iCons (iC (.str "B")) (iCons (iC (.int 1)) iNil))))) (iCons (iTupD (iCons (iC (.str "drop")) iNil)) iNil)))))))) iNil))))))))
def m__law_bad_order : FM := runB 3 [0] b__law_bad_order
theorem s__law_bad_order : FnScope N__law_bad_order ["store"] (defScope (top 48)) := ⟨rfl, rfl, rfl, by decide +kernel, rfl, by decide +kernel, by decide +kernel⟩
theorem ok__law_bad_order (c : Facts P w K mg) : Cal P w K mg base 4 "_law_bad_order" 1 [0] m__law_bad_order :=
 cal_of c.d__law_bad_order s__law_bad_order c.g__law_bad_order (fun fd F => F.bindsN fun _ _ _ _ _ _ us hl => match us, hl with | [_], _ => rfl) fun f cdv A outer s H Ex E W C hE hn =>
 (show JSs _ E W _ b__law_bad_order from
 (jss_cons (js_set 1 (N_F (jN_lst (jA_cons (jF_tup (jA_cons (f_F jf_str) (jA_cons (f_F jf_str) (jA_cons (f_F jf_str) jA_nil)))) (jA_cons (jF_tup (jA_cons (f_F jf_str) (jA_cons (f_F jf_str) (jA_cons (f_F jf_str) jA_nil)))) (jA_cons (jF_tup (jA_cons (f_F jf_str) (jA_cons (f_F jf_str) (jA_cons (f_F jf_str) jA_nil)))) (jA_cons (jF_tup (jA_cons (f_F jf_str) (jA_cons (f_F jf_str) (jA_cons (f_F jf_str) jA_nil)))) (jA_cons (jF_tup (jA_cons (f_F jf_str) (jA_cons (jF_neg (f_F jf_int)) jA_nil))) jA_nil))))))) C.nd hE)
 (jss_cons (js_set 1 (N_F (jN_cat (f_F (jf_var 1)) (N_F (jN_lst (jA_cons (jF_tup (jA_cons (f_F jf_str) (jA_cons (f_F jf_bl) jA_nil))) (jA_cons (jF_tup (jA_cons (f_F jf_str) (jA_cons (jF_op op_pow r_pow (f_F jf_int) (f_F jf_int)) jA_nil))) (jA_cons (N_F (jN_lst (jA_cons (f_F jf_str) (jA_cons (f_F jf_int) jA_nil)))) (jA_cons (jF_tup (jA_cons (f_F jf_str) (jA_cons (jF_tup (jA_cons (f_F jf_int) (jA_cons (f_F jf_int) jA_nil))) jA_nil))) (jA_cons (jF_tup (jA_cons (f_F jf_str) (jA_cons (N_F (jN_lst (jA_cons (f_F jf_int) (jA_cons (f_F jf_bl) jA_nil)))) jA_nil))) (jA_cons (jF_tup (jA_cons (f_F jf_str) (jA_cons (f_F jf_int) jA_nil))) jA_nil)))))))))) C.nd hE)
 (jss_cons (js_set 1 (N_F (jN_cat (f_F (jf_var 1)) (N_F (jN_lst (jA_cons (jF_tup (jA_cons (f_F jf_str) (jA_cons (f_F jf_str) (jA_cons (jF_tup (jA_cons (f_F jf_str) jA_nil)) jA_nil)))) (jA_cons (jF_tup (jA_cons (f_F jf_str) (jA_cons (f_F jf_str) (jA_cons (N_F (jN_lst (jA_cons (f_F jf_str) jA_nil))) jA_nil)))) (jA_cons (jF_tup (jA_cons (f_F jf_str) (jA_cons (f_F jf_str) jA_nil))) (jA_cons (jF_tup (jA_cons (f_F jf_str) (jA_cons (f_F jf_str) (jA_cons (f_F jf_str) jA_nil)))) (jA_cons (f_F jf_non) (jA_cons (jF_tup jA_nil) jA_nil)))))))))) C.nd hE)
 (jss_cons (js_set 1 (N_F (jN_cat (f_F (jf_var 1)) (N_F (jN_lst (jA_cons (jF_tup (jA_cons (f_F jf_str) (jA_cons (f_F jf_str) (jA_cons (f_F jf_str) (jA_cons (f_F jf_str) jA_nil))))) (jA_cons (jF_tup (jA_cons (f_F jf_str) (jA_cons (f_F jf_str) (jA_cons (f_F jf_str) jA_nil)))) (jA_cons (jF_tup (jA_cons (f_F jf_str) (jA_cons (f_F jf_str) (jA_cons (f_F jf_str) jA_nil)))) (jA_cons (f_F jf_str) (jA_cons (jF_tup (jA_cons (f_F jf_str) (jA_cons (f_F jf_str) jA_nil))) jA_nil))))))))) C.nd hE)
 (jss_cons (js_set 1 (N_F (jN_cat (f_F (jf_var 1)) (N_F (jN_lst (jA_cons (jF_tup (jA_cons (f_F jf_str) (jA_cons (f_F jf_str) (jA_cons (jF_op op_mulS r_mulS (f_F jf_str) (f_F jf_int)) jA_nil)))) (jA_cons (jF_tup (jA_cons (f_F jf_str) (jA_cons (N_F (jN_cat (N_F (jN_lc [("k", 2)] [2] C hE (ji_range1 (f_F jf_int) c.b_range) (blkOk_by (by kernel_rfl)) (fun _ _ _ _ _ _ C1 hE1 => (jg_name 2 C1.nd hE1)) (fun _ _ _ _ _ _ C1 hE1 => jts_nil)
 (fun _ _ _ _ _ _ C1 hE1 => (f_F jf_int)))) (N_F (jN_lst (jA_cons (f_F jf_int) jA_nil))))) jA_nil))) (jA_cons (jF_tup (jA_cons (f_F jf_str) (jA_cons (f_F jf_str) (jA_cons (f_F jf_str) jA_nil)))) (jA_cons (jF_tup (jA_cons (f_F jf_str) (jA_cons (f_F jf_str) jA_nil))) jA_nil)))))))) C.nd hE)
 (jss_one (js_ret (jF_call (ok__law_pick c) C 0 (jA_cons (N_F (jN_cat (f_F (jf_var 1)) (N_F (jN_lst (jA_cons (jF_tup (jA_cons (f_F jf_str) (jA_cons (f_F jf_str) (jA_cons (f_F jf_str) jA_nil)))) (jA_cons (jF_tup (jA_cons (f_F jf_str) (jA_cons (f_F jf_str) (jA_cons (f_F jf_str) jA_nil)))) (jA_cons (jF_tup (jA_cons (f_F jf_str) (jA_cons (f_F jf_str) (jA_cons (f_F jf_str) (jA_cons (f_F jf_int) jA_nil))))) (jA_cons (jF_tup (jA_cons (f_F jf_str) jA_nil)) jA_nil)))))))) jA_nil))))))))))
/-! law -/
abbrev N_law : List Str := ["script", "store", "orders", "lines", "spots", "k", "due", "text", "told", "few", "at", "wrong", "behind", "order"]
def b_law : SC :=
 (sSeq (sSetO 1 (iCallAN 1 m__law_store (iCons (iVar 0) iNil)))
 (sSeq (sSet 2 (iCall 1 m__law_orders_drawn 1 iNil))
 (sSeq (sSetO 3 (iLc [13] (iLst (iVar 2)) (gSlot 13) (fun ŝ => .ok true ŝ)
 (iCallA 1 m__law_order_line (iCons (iVar 13) iNil))))
 (sSeq (sSet 4 (iFz (iLc [5] (iRng1 (iCall 2 m__law_pick 1 (iCons (iFz (iLs (iCons (iC (.int 0)) (iCons (iC (.int 1)) (iCons (iC (.int 2)) (iCons (iC (.int 0)) (iCons (iC (.int 1)) iNil))))))) iNil))) (gSlot 5) (fun ŝ => .ok true ŝ)
 (iCall 2 m__law_take 1 (iCons (iLenE 3) iNil)))))
 (sSeq (sFor (iRng1 (iLenE 3)) (gSlot 5)
 (sIf (iBl (iBin (oInL fun z => z) (iVar 5) (iVar 4)))
 (sSetAt 3 (iCall 2 m__law_spoilt_line 1 (iCons (iIxE 3 (iVar 5)) iNil)) (iVar 5))
 sSkip))
 (sSeq (sPre 3 (sSet 6 (iCallA 2 m__law_first_bad (iCons (iVar 3) (iCons (iVar 4) iNil)))))
 (sSeq (sPre 3 (sSet 7 (iMt oJoin (iC (.str "\n")) (iCons (iVar 3) iNil))))
 (sSeq (sSet 8 (iCallA 1 m__law_read (iCons (iVar 7) iNil)))
 (sSeq (sIf (ibNot (iBl (iCallA 2 m__law_same (iCons (iBin oIx (iVar 8) (iC (.int 0))) (iCons (iVar 6) iNil)))))
 (sRet (iC (.bl false)))
 sSkip)
 (sSeq (sIf (ibAnd (iBl (iBin oEq (iVar 6) (iC (.int 0)))) (ibAnd (iBl (iBin oNe (iVar 7) (iC (.str "")))) (ibNot (iBl (iCallA 2 m__law_good_script (iCons (iVar 2) (iCons (iVar 7) iNil)))))))
 (sRet (iC (.bl false)))
 sSkip)
 (sSeq (sSet 9 (iFz (iSlL (iVar 2) iqNone (iqSome (iCall 2 m__law_take 1 (iCons (iC (.int 4)) iNil))))))
 (sSeq (sSet 10 (iCall 2 m__law_take 1 (iCons (iBin oAdd (iFn oLen (iCons (iVar 9) iNil)) (iC (.int 1))) iNil)))
 (sSeq (sIf (ibOr (ibNot (iBl (iCallA 1 m__law_refused (iCons (iFz (iBinN oCatD (iFz (iBinN oCatD (iFz (iSlL (iVar 9) iqNone (iqSome (iVar 10)))) (iFz (iLs (iCons (iCall 1 m__law_bad_order 1 iNil) iNil))))) (iFz (iSlL (iVar 9) (iqSome (iVar 10)) iqNone)))) iNil)))) (ibNot (iBl (iCallA 1 m__law_refused (iCons (iFn oTuple (iCons (iVar 9) iNil)) iNil)))))
 (sRet (iC (.bl false)))
 sSkip)
 (sSeq (sIf (ibOr (ibNot (iBl (iCallA 1 m__law_refused (iCons (iFz (iLc [5] (iRng1 (iC (.int 61))) (gSlot 5) (fun ŝ => .ok true ŝ)
 (iTupD (iCons (iC (.str "back")) iNil)))) iNil)))) (ibNot (iBl (iCallA 1 m__law_refused (iCons (iC .non) iNil)))))
 (sRet (iC (.bl false)))
 sSkip)
 (sSeq (sSet 11 (iCallA 1 m__law_read (iCons (iCall 2 m__law_pick 1 (iCons (iFz (iLs (iCons (iC .non) (iCons (iC (.bl true)) (iCons (iC (.int 0)) (iCons (iFz (iLs (iCons (iVar 7) iNil))) (iCons (iTupD (iCons (iC (.str "back")) iNil)) (iCons (iFz (iLs iNil)) (iCons (iBin oPow (iC (.int 10)) (iC (.int 40))) iNil))))))))) iNil)) iNil)))
 (sSeq (sSet 12 (iIf (iBl (iBin oGt (iVar 6) (iC (.int 0)))) (iVar 6) (iBin oAdd (iLenE 3) (iC (.int 1)))))
 (sSeq (sIf (iBl (iBin oEq (iVar 7) (iC (.str ""))))
 (sSet 12 (iC (.int 1)))
 sSkip)
 (sRet (iAnd (iCallA 2 m__law_same (iCons (iBin oIx (iVar 11) (iC (.int 0))) (iCons (iC (.int 1)) iNil))) (iCallA 2 m__law_same (iCons (iBin oIx (iCallA 1 m__law_read (iCons (iBin oAdd (iVar 7) (iC (.str "\n"))) iNil)) (iC (.int 0))) (iCons (iVar 12) iNil))))))))))))))))))))))
def m_law : FM := runB 14 [] b_law
theorem s_law : FnScope N_law ["script"] (defScope (top 53)) := ⟨rfl, rfl, rfl, by decide +kernel, rfl, by decide +kernel, by decide +kernel⟩
theorem body_law (c : Facts P w K mg) (f : Addr) (cdv : Value) (A : Around) (outer : List Env) (s : Shared) (H : Hp) (Ex : XK) (E : Ent) (W : WX) (C : Ctx (cxOf (L2.CX P w) P w K mg base N_law "law" (defScope (top 53)) f cdv A outer s H Ex) W 6) (hE : Ios E (inL [])) (hn : E.n = N_law.length) : JSs (cxOf (L2.CX P w) P w K mg base N_law "law" (defScope (top 53)) f cdv A outer s H Ex) E W (defBody (top 53)) b_law :=
 (show JSs _ E W _ b_law from
 (jss_cons (js_setO 1 (jN_callA (ok__law_store c) C (jA_cons (f_F (jf_var 0)) jA_nil)) C.nd hE)
 (jss_cons (js_set 2 (jF_call (ok__law_orders_drawn c) C 1 jA_nil) C.nd hE)
 (jss_cons (js_setO 3 (jN_lc [("order", 13)] [13] C hE (ji_list (f_F (jf_var 2))) (blkOk_by (by kernel_rfl)) (fun _ _ _ _ _ _ C1 hE1 => (jg_name 13 C1.nd hE1)) (fun _ _ _ _ _ _ C1 hE1 => jts_nil)
 (fun _ _ _ _ _ _ C1 hE1 => (jF_callA (ok__law_order_line c) C1 (jA_cons (f_F (jf_var 13)) jA_nil)))) C.nd hE)
 (jss_cons (js_lc 4 [("k", 5)] [5] C hE (ji_range1 (jF_call (ok__law_pick c) C 1 (jA_cons (N_F (jN_lst (jA_cons (f_F jf_int) (jA_cons (f_F jf_int) (jA_cons (f_F jf_int) (jA_cons (f_F jf_int) (jA_cons (f_F jf_int) jA_nil))))))) jA_nil)) c.b_range) (blkOk_by (by kernel_rfl)) (fun _ _ _ _ _ _ C1 hE1 => (jg_name 5 C1.nd hE1)) (fun _ _ _ _ _ _ C1 hE1 => jts_nil)
 (fun _ _ _ _ _ _ C1 hE1 => (jF_call (ok__law_take c) C1 1 (jA_cons (jF_lenE (f_F (jf_lenO c.b_len (jo_own 3))) (jF_callB call_len r_len c.b_len (jA_cons (f_F (jf_var 3)) jA_nil) PyProof.Rows.Boot.«len»)) jA_nil))) (sw_true rfl rfl rfl (by decide +kernel)))
 (jss_cons (js_for (vs := [5]) C (ji_range1 (jF_lenE (f_F (jf_lenO c.b_len (jo_own 3))) (jF_callB call_len r_len c.b_len (jA_cons (f_F (jf_var 3)) jA_nil) PyProof.Rows.Boot.«len»)) c.b_range) (jg_name 5 C.nd hE)
 (jss_one (js_if (jT_inL C (f_F (jf_var 5)) (f_F (jf_var 4)))
 (jss_one (js_setAt 3 (jF_call (ok__law_spoilt_line c) C 1 (jA_cons (jF_ixE (jF_ixO 3 (f_F (jf_var 5))) (jF_ix (f_F (jf_var 3)) (f_F (jf_var 5)))) jA_nil)) (f_F (jf_var 5))))
 jss_nil)))
 (jss_cons (js_pre 3 hE (js_set 6 (jF_callA (ok__law_first_bad c) C (jA_cons (f_F (jf_var 3)) (jA_cons (f_F (jf_var 4)) jA_nil))) C.nd hE))
 (jss_cons (js_pre 3 hE (js_set 7 (jF_mts r_join PySem.F.slot_str_join PySem.F.type_str_join mt_join (f_F jf_str) (jA_cons (f_F (jf_var 3)) jA_nil)) C.nd hE))
 (jss_cons (js_set 8 (jF_callA (ok__law_read c) C (jA_cons (f_F (jf_var 7)) jA_nil)) C.nd hE)
 (jss_cons (js_if (jT_not (jT_pv (jF_callA (ok__law_same c) C (jA_cons (jF_ix (f_F (jf_var 8)) (f_F jf_int)) (jA_cons (f_F (jf_var 6)) jA_nil)))))
 (jss_one (js_ret (f_F jf_bl)))
 jss_nil)
 (jss_cons (js_if (jW_and (jT_eq C (f_F (jf_var 6)) (f_F jf_int)) (jW_and (jT_ne C (f_F (jf_var 7)) (f_F jf_str)) (jW_and1 (jT_not (jT_pv (jF_callA (ok__law_good_script c) C (jA_cons (f_F (jf_var 2)) (jA_cons (f_F (jf_var 7)) jA_nil)))))))).pt
 (jss_one (js_ret (f_F jf_bl)))
 jss_nil)
 (jss_cons (js_set 9 (N_F (jN_slice (f_F (jf_var 2)) jQ_none (jQ_some (jF_call (ok__law_take c) C 1 (jA_cons (f_F jf_int) jA_nil))))) C.nd hE)
 (jss_cons (js_set 10 (jF_call (ok__law_take c) C 1 (jA_cons (jF_op op_addX r_add (jF_callB call_len r_len c.b_len (jA_cons (f_F (jf_var 9)) jA_nil) PyProof.Rows.Boot.«len») (f_F jf_int)) jA_nil)) C.nd hE)
 (jss_cons (js_if (jW_or (jT_not (jT_pv (jF_callA (ok__law_refused c) C (jA_cons (N_F (jN_cat (N_F (jN_cat (N_F (jN_slice (f_F (jf_var 9)) jQ_none (jQ_some (f_F (jf_var 10))))) (N_F (jN_lst (jA_cons (jF_call (ok__law_bad_order c) C 1 jA_nil) jA_nil))))) (N_F (jN_slice (f_F (jf_var 9)) (jQ_some (f_F (jf_var 10))) jQ_none)))) jA_nil)))) (jW_or1 (jT_not (jT_pv (jF_callA (ok__law_refused c) C (jA_cons (jF_callTy call_tuple_of r_tuple c.b_tuple (jA_cons (f_F (jf_var 9)) jA_nil) PyProof.Rows.Boot.«tuple») jA_nil)))))).pt
 (jss_one (js_ret (f_F jf_bl)))
 jss_nil)
 (jss_cons (js_if (jW_or (jT_not (jT_pv (jF_callA (ok__law_refused c) C (jA_cons (N_F (jN_lc [("k", 5)] [5] C hE (ji_range1 (f_F jf_int) c.b_range) (blkOk_by (by kernel_rfl)) (fun _ _ _ _ _ _ C1 hE1 => (jg_name 5 C1.nd hE1)) (fun _ _ _ _ _ _ C1 hE1 => jts_nil)
 (fun _ _ _ _ _ _ C1 hE1 => (jF_tup (jA_cons (f_F jf_str) jA_nil))))) jA_nil)))) (jW_or1 (jT_not (jT_pv (jF_callA (ok__law_refused c) C (jA_cons (f_F jf_non) jA_nil)))))).pt
 (jss_one (js_ret (f_F jf_bl)))
 jss_nil)
 (jss_cons (js_set 11 (jF_callA (ok__law_read c) C (jA_cons (jF_call (ok__law_pick c) C 1 (jA_cons (N_F (jN_lst (jA_cons (f_F jf_non) (jA_cons (f_F jf_bl) (jA_cons (f_F jf_int) (jA_cons (N_F (jN_lst (jA_cons (f_F (jf_var 7)) jA_nil))) (jA_cons (jF_tup (jA_cons (f_F jf_str) jA_nil)) (jA_cons (N_F (jN_lst jA_nil)) (jA_cons (jF_op op_pow r_pow (f_F jf_int) (f_F jf_int)) jA_nil))))))))) jA_nil)) jA_nil)) C.nd hE)
 (jss_cons (js_set 12 (jF_if (jT_gt (f_F (jf_var 6)) (f_F jf_int)) (f_F (jf_var 6)) (jF_op op_addX r_add (jF_lenE (f_F (jf_lenO c.b_len (jo_own 3))) (jF_callB call_len r_len c.b_len (jA_cons (f_F (jf_var 3)) jA_nil) PyProof.Rows.Boot.«len»)) (f_F jf_int))) C.nd hE)
 (jss_cons (js_if (jT_eq C (f_F (jf_var 7)) (f_F jf_str))
 (jss_one (js_set 12 (f_F jf_int) C.nd hE))
 jss_nil)
 (jss_one (js_ret (jF_and (jF_callA (ok__law_same c) C (jA_cons (jF_ix (f_F (jf_var 11)) (f_F jf_int)) (jA_cons (f_F jf_int) jA_nil))) (jF_one (jF_callA (ok__law_same c) C (jA_cons (jF_ix (jF_callA (ok__law_read c) C (jA_cons (jF_op op_addX r_add (f_F (jf_var 7)) (f_F jf_str)) jA_nil)) (f_F jf_int)) (jA_cons (f_F (jf_var 12)) jA_nil)))))))))))))))))))))))))
end
end K31

set_option maxHeartbeats 4000000
/-! FP: the plain law's rules: what must hold for a piece to end well. -/
namespace FL
open PySem PySem.Spec PyProof.Rows L2
def OP {α : Type} (o : Out α) (P : α → AS → Prop) (X : Exn → AS → Prop) : Prop := match o with
  | .ok a s => P a s
  | .exn x s => X x s
  | .stuck => False
def SP (o : SOut) (N : AS → Prop) (R : Ret → AS → Prop) (X : Exn → AS → Prop) : Prop := match o with
  | .nx s => N s
  | .rt r s => R r s
  | .exn x s => X x s
  | _ => False
def FP (o : FOut) (R : Ret → List Slot → Prop) (X : Exn → List Slot → Prop) : Prop := match o with
  | .rt r s => R r s
  | .exn x s => X x s
  | .stuck => False
section
variable {α β : Type} {P : α → AS → Prop} {X : Exn → AS → Prop} {s : AS} {N : AS → Prop} {R : Ret → AS → Prop} {Q : D → AS → Prop} {QL : List D → AS → Prop} {QB : Bool → AS → Prop}
@[simp] theorem OP_ok {a : α} : OP (.ok a s) P X ↔ P a s := Iff.rfl
@[simp] theorem OP_exn {x : Exn} : OP (α := α) (.exn x s) P X ↔ X x s := Iff.rfl
@[simp] theorem OP_stuck : OP (α := α) .stuck P X ↔ False := Iff.rfl
@[simp] theorem OP_bind {o : Out β} {f : β → AS → Out α} : OP (o.bind f) P X ↔ OP o (fun a s => OP (f a s) P X) X := by cases o <;> rfl
@[simp] theorem OP_opt {o : Option α} : OP ((Res.opt o).out s) P X ↔ ∃ z, o = some z ∧ P z s := by
  cases o <;> simp [Res.opt, Res.out]
@[simp] theorem SP_nx : SP (.nx s) N R X ↔ N s := Iff.rfl
@[simp] theorem SP_rt {r : Ret} : SP (.rt r s) N R X ↔ R r s := Iff.rfl
@[simp] theorem SP_exn {x : Exn} : SP (.exn x s) N R X ↔ X x s := Iff.rfl
@[simp] theorem SP_stuck : SP .stuck N R X ↔ False := Iff.rfl
@[simp] theorem SP_st {o : Out β} {f : β → AS → SOut} : SP (o.st f) N R X ↔ OP o (fun a s => SP (f a s) N R X) X := by cases o <;> rfl
@[simp] theorem OP_iC {d : D} : OP (iC d s) Q X ↔ Q d s := Iff.rfl
@[simp] theorem OP_iVar {i : Nat} : OP (iVar i s) Q X ↔ ∃ d, get s i = some (.fz d) ∧ Q d s := by
  unfold iVar pVar
  cases h : get s i with
  | none => simp [Res.out]
  | some o => cases o <;> simp [Res.out]
@[simp] theorem OP_iLenO {i : Nat} : OP (iLenO i s) Q X ↔ ∃ xs, get s i = some (.ow xs) ∧ Q (.int xs.length) s := by
  unfold iLenO pLenO pOwn
  cases h : get s i with
  | none => simp [Res.out, Res.bind]
  | some o => cases o <;> simp [Res.out, Res.bind]
@[simp] theorem OP_iBin {f : D → D → Option D} {a b : IC} : OP (iBin f a b s) Q X ↔ OP (a s) (fun x s => OP (b s) (fun y s => ∃ z, f x y = some z ∧ Q z s) X) X := by simp [iBin]
@[simp] theorem OP_iBinN {f : D → D → Option (List D)} {a b : IC} : OP (iBinN f a b s) QL X ↔ OP (a s) (fun x s => OP (b s) (fun y s => ∃ z, f x y = some z ∧ QL z s) X) X := by simp [iBinN]
@[simp] theorem OP_iUn {f : D → Option D} {a : IC} : OP (iUn f a s) Q X ↔ OP (a s) (fun x s => ∃ z, f x = some z ∧ Q z s) X := by simp [iUn]
@[simp] theorem OP_iFn {f : List D → Option D} {a : IL} : OP (iFn f a s) Q X ↔ OP (a s) (fun x s => ∃ z, f x = some z ∧ Q z s) X := by simp [iFn]
@[simp] theorem OP_iFnN {f : List D → Option (List D)} {a : IL} : OP (iFnN f a s) QL X ↔ OP (a s) (fun x s => ∃ z, f x = some z ∧ QL z s) X := by simp [iFnN]
@[simp] theorem OP_iNil : OP (iNil s) QL X ↔ QL [] s := Iff.rfl
@[simp] theorem OP_iCons {c : IC} {cs : IL} : OP (iCons c cs s) QL X ↔ OP (c s) (fun d s => OP (cs s) (fun ds s => QL (d :: ds) s) X) X := by simp [iCons]
@[simp] theorem OP_iFz {c : IL} : OP (iFz c s) Q X ↔ OP (c s) (fun xs s => Q (.lst xs) s) X := by simp [iFz]
@[simp] theorem OP_iLs {c : IL} : OP (iLs c s) QL X ↔ OP (c s) (fun xs s => xs.length ≤ 16777216 ∧ QL xs s) X := by
  simp only [iLs, OP_bind]
  refine iff_of_eq (congrArg (OP (c s) · X) (funext fun a => funext fun t => ?_))
  split <;> simp [*]
@[simp] theorem OP_iTupD {c : IL} : OP (iTupD c s) Q X ↔ OP (c s) (fun xs s => xs.length ≤ 16777216 ∧ Q (.tup xs) s) X := by
  simp only [iTupD, OP_bind]
  refine iff_of_eq (congrArg (OP (c s) · X) (funext fun a => funext fun t => ?_))
  split <;> simp [*]
@[simp] theorem OP_iBl {c : IC} : OP (iBl c s) QB X ↔ OP (c s) (fun d s => ∃ b, d = .bl b ∧ QB b s) X := by
  simp only [iBl, OP_bind]
  refine iff_of_eq (congrArg (OP (c s) · X) (funext fun a => funext fun t => ?_))
  cases a <;> simp
@[simp] theorem OP_ibNot {c : IB} : OP (ibNot c s) QB X ↔ OP (c s) (fun b s => QB (!b) s) X := by simp [ibNot]
theorem ite_bool {p q : Prop} (b : Bool) : (if b = true then p else q) ↔ ((b = true → p) ∧ (b = false → q)) := by cases b <;> simp
@[simp] theorem OP_ibAnd {c d : IB} : OP (ibAnd c d s) QB X ↔ OP (c s) (fun b s => if b = true then OP (d s) QB X else QB false s) X := by
  simp only [ibAnd, OP_bind]
  refine iff_of_eq (congrArg (OP (c s) · X) (funext fun a => funext fun t => ?_))
  cases a <;> simp
@[simp] theorem OP_ibOr {c d : IB} : OP (ibOr c d s) QB X ↔ OP (c s) (fun b s => if b = true then QB true s else OP (d s) QB X) X := by
  simp only [ibOr, OP_bind]
  refine iff_of_eq (congrArg (OP (c s) · X) (funext fun a => funext fun t => ?_))
  cases a <;> simp
@[simp] theorem OP_iIf {t : IB} {c d : IC} : OP (iIf t c d s) Q X ↔ OP (t s) (fun b s => if b = true then OP (c s) Q X else OP (d s) Q X) X := by
  simp only [iIf, OP_bind]
  refine iff_of_eq (congrArg (OP (t s) · X) (funext fun a => funext fun t => ?_))
  cases a <;> simp
@[simp] theorem OP_iNot {c : IC} : OP (iNot c s) Q X ↔ OP (c s) (fun d s => ∃ b, d = .bl b ∧ Q (.bl (!b)) s) X := by
  simp only [iNot, OP_bind]
  refine iff_of_eq (congrArg (OP (c s) · X) (funext fun a => funext fun t => ?_))
  cases a <;> simp
@[simp] theorem OP_iAnd {c d : IC} : OP (iAnd c d s) Q X ↔ OP (c s) (fun a s => ∃ b, a = .bl b ∧ if b = true then OP (d s) Q X else Q (.bl false) s) X := by
  simp only [iAnd, OP_bind]
  refine iff_of_eq (congrArg (OP (c s) · X) (funext fun a => funext fun t => ?_))
  cases a <;> simp
  rename_i b
  cases b <;> simp
@[simp] theorem OP_iChain {f g : D → D → Option D} {a b c : IC} : OP (iChain f g a b c s) Q X ↔ OP (a s) (fun x s => OP (b s) (fun y s => ∃ z, f x y = some (.bl z) ∧ if z = true then OP (c s) (fun u s => ∃ v, g y u = some v ∧ Q v s) X else Q (.bl false) s) X) X := by
  simp only [iChain, OP_bind]
  refine iff_of_eq (congrArg (OP (a s) · X) (funext fun x => funext fun t => congrArg (OP (b t) · X) (funext fun y => funext fun t => ?_)))
  cases h : f x y with
  | none => simp
  | some z => cases z <;> simp
              rename_i b
              cases b <;> simp
@[simp] theorem OP_iLst {c : IC} : OP (iLst c s) QL X ↔ OP (c s) (fun d s => ∃ xs, (d = .lst xs ∨ d = .scr xs) ∧ QL xs s) X := by
  simp only [iLst, OP_bind]
  refine iff_of_eq (congrArg (OP (c s) · X) (funext fun a => funext fun t => ?_))
  cases a <;> simp
@[simp] theorem OP_iStrD {c : IC} : OP (iStrD c s) QL X ↔ OP (c s) (fun d s => ∃ z, d = .str z ∧ QL (signs z) s) X := by
  simp only [iStrD, OP_bind]
  refine iff_of_eq (congrArg (OP (c s) · X) (funext fun a => funext fun t => ?_))
  cases a <;> simp
@[simp] theorem OP_iRng1 {c : IC} : OP (iRng1 c s) QL X ↔ OP (c s) (fun d s => ∃ j, d = .int j ∧ (-(2 ^ 62) ≤ j ∧ j < 2 ^ 62) ∧ QL (rng 0 j.toNat) s) X := by
  simp only [iRng1, OP_bind]
  refine iff_of_eq (congrArg (OP (c s) · X) (funext fun a => funext fun t => ?_))
  cases a <;> simp only [OP_stuck, reduceCtorEq, false_and, exists_false, D.int.injEq, exists_eq_left']
  split
  · rename_i h
    exact propext ⟨fun q => ⟨h, q⟩, fun q => q.2⟩
  · rename_i h
    exact propext ⟨False.elim, fun q => h q.1⟩
@[simp] theorem OP_iIxO {i : Nat} {c : IC} {xs : List D} (h : get s i = some (.ow xs)) : OP (iIxO i c s) Q X ↔ OP (c s) (fun d s => ∃ ys, get s i = some (.ow ys) ∧ ∃ z, oIx (.lst ys) d = some z ∧ Q z s) X := by
  simp only [iIxO, h, OP_bind]
  refine iff_of_eq (congrArg (OP (c s) · X) (funext fun a => funext fun t => ?_))
  cases h : get t i with
  | none => simp
  | some o => cases o <;> simp
@[simp] theorem SP_seq {a b : SC} : SP (sSeq a b s) N R X ↔ SP (a s) (fun s => SP (b s) N R X) R X := by
  unfold sSeq
  cases h : a s <;> simp [SP]
@[simp] theorem SP_skip : SP (sSkip s) N R X ↔ N s := Iff.rfl
@[simp] theorem SP_set {i : Nat} {c : IC} : SP (sSet i c s) N R X ↔ OP (c s) (fun d s => N (s.set i (some (.fz d)))) X := by simp [sSet]
@[simp] theorem SP_setO {i : Nat} {c : IL} : SP (sSetO i c s) N R X ↔ OP (c s) (fun d s => N (s.set i (some (.ow d)))) X := by simp [sSetO]
@[simp] theorem SP_drop {c : IC} : SP (sDrop c s) N R X ↔ OP (c s) (fun _ s => N s) X := by simp [sDrop]
@[simp] theorem SP_ret {c : IC} : SP (sRet c s) N R X ↔ OP (c s) (fun d s => R (.fz d) s) X := by simp [sRet]
@[simp] theorem SP_retO {c : IL} : SP (sRetO c s) N R X ↔ OP (c s) (fun d s => R (.ow d) s) X := by simp [sRetO]
@[simp] theorem SP_if {t : IB} {a b : SC} : SP (sIf t a b s) N R X ↔ OP (t s) (fun z s => if z = true then SP (a s) N R X else SP (b s) N R X) X := by
  simp only [sIf, SP_st]
  refine iff_of_eq (congrArg (OP (t s) · X) (funext fun a => funext fun t => ?_))
  cases a <;> simp
@[simp] theorem SP_pre {i : Nat} {c : SC} : SP (sPre i c s) N R X ↔ SP (c (frzA s i)) N R X := Iff.rfl
@[simp] theorem OP_move {i : Nat} {xs : List D} (h : get s i = some (.ow xs)) : OP (iMove i s) QL X ↔ QL xs (s.set i none) := by simp [iMove, h]
theorem OP.imp {o : Out α} {P' : α → AS → Prop} {X' : Exn → AS → Prop} (h : OP o P X) (i : ∀ a s, P a s → P' a s) (j : ∀ x s, X x s → X' x s) : OP o P' X' := by
  cases o with
  | ok => exact i _ _ h
  | exn => exact j _ _ h
  | stuck => exact h
theorem SP.imp {o : SOut} {N' : AS → Prop} {R' : Ret → AS → Prop} {X' : Exn → AS → Prop} (h : SP o N R X) (i : ∀ s, N s → N' s) (k : ∀ r s, R r s → R' r s) (j : ∀ x s, X x s → X' x s) : SP o N' R' X' := by
  cases o with
  | nx => exact i _ h
  | rt => exact k _ _ h
  | exn => exact j _ _ h
  | _ => exact h
def retD : Ret → D
  | .fz d => d
  | .ow xs => .lst xs
theorem FP_run {n : Nat} {ios : List Nat} {b : SC} {ss : List Slot} {R : Ret → List Slot → Prop} {X : Exn → List Slot → Prop} :
    FP (runB n ios b ss) R X ↔ SP (b (ss.map some ++ List.replicate (n - ss.length) none)) (fun s => ∃ o, outsOf s ios = some o ∧ R (.fz .non) o) (fun r s => ∃ o, outsOf s ios = some o ∧ R r o) (fun x s => ∃ o, outsOf s ios = some o ∧ X x o) := by
  unfold runB
  cases b (ss.map some ++ List.replicate (n - ss.length) none) <;> simp only [SP]
  all_goals first | exact Iff.rfl | skip
  all_goals
    rename_i t
    cases h : outsOf t ios <;> simp [FP]
@[simp] theorem OP_callA {n : Nat} {m : FM} {cs : IL} : OP (iCallA n m cs s) Q X ↔ OP (cs s) (fun ds s => ds.length = n ∧ FP (m (ds.map .fz)) (fun r _ => Q (retD r) s) (fun x _ => X x s)) X := by
  simp only [iCallA, OP_bind]
  refine iff_of_eq (congrArg (OP (cs s) · X) (funext fun ds => funext fun t => ?_))
  unfold pCallR
  split
  · rename_i h
    cases q : m (ds.map .fz) with
    | rt r o => cases r <;> simp [Res.out, FP, retD, h]
    | exn x o => simp [Res.out, FP, h]
    | stuck => simp [Res.out, FP, h]
  · simp [Res.out, *]
@[simp] theorem OP_callAN {n : Nat} {m : FM} {cs : IL} : OP (iCallAN n m cs s) QL X ↔ OP (cs s) (fun ds s => ds.length = n ∧ FP (m (ds.map .fz)) (fun r _ => ∃ xs, r = .ow xs ∧ QL xs s) (fun x _ => X x s)) X := by
  simp only [iCallAN, OP_bind]
  refine iff_of_eq (congrArg (OP (cs s) · X) (funext fun ds => funext fun t => ?_))
  unfold pCallRN
  split
  · rename_i h
    cases q : m (ds.map .fz) with
    | rt r o => cases r <;> simp [Res.out, FP, retD, h]
    | exn x o => simp [Res.out, FP, h]
    | stuck => simp [Res.out, FP, h]
  · simp [Res.out, *]
theorem OP_call {n i : Nat} {m : FM} {cs : IL} {xs : List D} (hi : get s i = some (.ow xs)) (h : OP (cs s) (fun ds s => ∃ xs, get s i = some (.ow xs) ∧ ds.length + 1 = n ∧ FP (m (.ow xs :: ds.map .fz)) (fun r o => ∃ ys, o = [.ow ys] ∧ Q (retD r) (s.set i (some (.ow ys)))) (fun x o => ∃ ys, o = [.ow ys] ∧ X x (s.set i (some (.ow ys))))) X) : OP (iCall n m i cs s) Q X := by
  simp only [iCall, hi, OP_bind]
  refine OP.imp h (fun ds t ⟨xs, e, hn, q⟩ => ?_) fun _ _ z => z
  unfold iCallR
  rw [e]
  simp only [if_pos hn]
  cases z : m (.ow xs :: ds.map .fz) with
  | rt r o =>
    rw [z] at q
    obtain ⟨ys, rfl, q⟩ := q
    cases r <;> exact q
  | exn x o =>
    rw [z] at q
    obtain ⟨ys, rfl, q⟩ := q
    exact q
  | stuck => rw [z] at q; exact q.elim
/-- a for by an invariant -/
theorem forL_inv {g : GC} {b : SC} : ∀ (ds : List D) (I : Nat → AS → Prop) (s : AS), I 0 s →
    (∀ k d t, ds[k]? = some d → I k t → ∃ t', g d t = some t' ∧ SP (b t') (I (k + 1)) R X) → SP (forL g b ds s) (I ds.length) R X
  | [], I, s, h0, _ => h0
  | d :: ds, I, s, h0, h => by
    obtain ⟨t', e, q⟩ := h 0 d s rfl h0
    unfold forL
    rw [e]
    cases z : b t' with
    | nx u =>
      rw [z] at q
      simp only [z]
      exact forL_inv ds (fun k => I (k + 1)) u q fun k d' t e1 i => h (k + 1) d' t e1 i
    | rt r u => rw [z] at q; simp only [z]; exact q
    | exn x u => rw [z] at q; simp only [z]; exact q
    | bk u => rw [z] at q; exact q.elim
    | ct u => rw [z] at q; exact q.elim
    | stuck => rw [z] at q; exact q.elim
theorem SP_for {c : IL} {g : GC} {b : SC} (I : List D → Nat → AS → Prop) (h : OP (c s) (fun ds t => I ds 0 t ∧ (∀ k d t, ds[k]? = some d → I ds k t → ∃ t', g d t = some t' ∧ SP (b t') (I ds (k + 1)) R X) ∧ ∀ t, I ds ds.length t → N t) X) : SP (sFor c g b s) N R X := by
  simp only [sFor, SP_st]
  exact OP.imp h (fun ds t ⟨h0, h1, h2⟩ => (forL_inv ds (I ds) t h0 h1).imp h2 (fun _ _ z => z) fun _ _ z => z) fun _ _ z => z
end
end FL

set_option maxHeartbeats 4000000
/-! FT: texts as lists of signs. -/
namespace FL
open PySem PySem.Spec PyProof.Rows L2
/-- the parts, put together with a sign -/
def jn (c : Nat) : List (List Nat) → List Nat
  | [] => []
  | [x] => x
  | x :: y :: r => x ++ c :: jn c (y :: r)
theorem jn_cons (c : Nat) (x : List Nat) {r : List (List Nat)} (h : r ≠ []) : jn c (x :: r) = x ++ c :: jn c r := by
  cases r with
  | nil => exact (h rfl).elim
  | cons y r => rfl
theorem cut_unique {c : Nat} : ∀ {x y a b : List Nat}, c ∉ x → c ∉ y → x ++ c :: a = y ++ c :: b → x = y ∧ a = b
  | [], [], a, b, _, _, e => ⟨rfl, by simpa using e⟩
  | [], z :: y, a, b, _, hy, e => by
    simp at e hy
    exact (hy.1 e.1).elim
  | z :: x, [], a, b, hx, _, e => by
    simp at e hx
    exact (hx.1 e.1.symm).elim
  | z :: x, w :: y, a, b, hx, hy, e => by
    simp at e hx hy
    obtain ⟨rfl, e⟩ := e
    obtain ⟨rfl, r⟩ := cut_unique hx.2 hy.2 e
    exact ⟨rfl, r⟩
theorem jn_unique1 {c : Nat} : ∀ (r : List (List Nat)) (x y : List Nat) (t : List (List Nat)), (∀ p ∈ x :: r, c ∉ p) → (∀ p ∈ y :: t, c ∉ p) → jn c (x :: r) = jn c (y :: t) → x :: r = y :: t
  | [], x, y, [], _, _, e => by simpa [jn] using e
  | [], x, y, z :: r, hp, hq, e => by
    have := hp x (by simp)
    rw [show jn c [x] = x from rfl] at e
    rw [e] at this
    exact (this (by simp [jn])).elim
  | z :: r, x, y, [], hp, hq, e => by
    have := hq y (by simp)
    rw [show jn c [y] = y from rfl] at e
    rw [← e] at this
    exact (this (by simp [jn])).elim
  | z :: r, x, y, w :: t, hp, hq, e => by
    obtain ⟨exy, e2⟩ := cut_unique (hp x (by simp)) (hq y (by simp)) (show x ++ c :: jn c (z :: r) = y ++ c :: jn c (w :: t) from e)
    rw [exy, jn_unique1 r z w t (fun p m => hp p (List.mem_cons_of_mem _ m)) (fun p m => hq p (List.mem_cons_of_mem _ m)) e2]
theorem jn_unique {c : Nat} {ps qs : List (List Nat)} (h1 : ps ≠ []) (h2 : qs ≠ []) (f1 : ∀ p ∈ ps, c ∉ p) (f2 : ∀ p ∈ qs, c ∉ p) (e : jn c ps = jn c qs) : ps = qs := by
  cases ps with
  | nil => exact (h1 rfl).elim
  | cons x r =>
    cases qs with
    | nil => exact (h2 rfl).elim
    | cons y t => exact jn_unique1 r x y t f1 f2 e
theorem sjoin_cps (c : Nat) : ∀ zs : List Str, (Str.join ⟨#[c]⟩ zs).cps.toList = jn c (zs.map (·.cps.toList))
  | [] => rfl
  | [x] => rfl
  | x :: y :: r => by
    have ih := sjoin_cps c (y :: r)
    show (x ++ ⟨#[c]⟩ ++ Str.join ⟨#[c]⟩ (y :: r)).cps.toList = _
    show ((x.cps ++ #[c]) ++ (Str.join ⟨#[c]⟩ (y :: r)).cps).toList = _
    rw [Array.toList_append, Array.toList_append, ih]
    simp [jn]
theorem str_ext {x y : Str} (h : x.cps.toList = y.cps.toList) : x = y := by
  cases x; cases y
  simp only [Str.mk.injEq]
  exact Array.toList_inj.mp h
theorem map_inj {α β : Type} {f : α → β} (h : ∀ x y, f x = f y → x = y) : ∀ {as bs : List α}, as.map f = bs.map f → as = bs
  | [], [], _ => rfl
  | [], _ :: _, e => by simp at e
  | _ :: _, [], e => by simp at e
  | a :: as, b :: bs, e => by
    simp only [List.map_cons, List.cons.injEq] at e
    rw [h a b e.1, map_inj h e.2]
theorem sjoin_unique {c : Nat} {ps qs : List Str} (h1 : ps ≠ []) (h2 : qs ≠ []) (f1 : ∀ p ∈ ps, c ∉ p.cps.toList) (f2 : ∀ p ∈ qs, c ∉ p.cps.toList) (e : Str.join ⟨#[c]⟩ ps = Str.join ⟨#[c]⟩ qs) : ps = qs := by
  have e' := congrArg (fun z : Str => z.cps.toList) e
  simp only [sjoin_cps] at e'
  have u := jn_unique (by simpa using h1) (by simpa using h2) (by simpa using f1) (by simpa using f2) e'
  exact map_inj (fun x y h => str_ext h) u
theorem split_ne (x y : Str) : Txt.split x y ≠ [] := fun h => by
  have := split_pos x y
  rw [h] at this
  simp at this
/-- words put together with a sign and split at it again -/
theorem split_join {c : Nat} {ps : List Str} (h : ps ≠ []) (f : ∀ p ∈ ps, c ∉ p.cps.toList) : Txt.split (Txt.join ⟨#[c]⟩ ps) ⟨#[c]⟩ = ps :=
  sjoin_unique (split_ne _ _) h (StrLaws.split_free _ c) f (by rw [StrLaws.join_split]; exact (StrLaws.glued_eq_join _ ps).symm ▸ rfl)
end FL
namespace FL
open PySem PySem.Spec PyProof.Rows L2
theorem sjoin0_cps : ∀ zs : List Str, (Str.join ⟨#[]⟩ zs).cps.toList = (zs.map (·.cps.toList)).flatten
  | [] => rfl
  | [x] => by simp [Str.join]
  | x :: y :: r => by
    have ih := sjoin0_cps (y :: r)
    show ((x.cps ++ #[]) ++ (Str.join ⟨#[]⟩ (y :: r)).cps).toList = _
    rw [Array.toList_append, Array.toList_append, ih]
    simp
theorem tjoin (y : Str) (zs : List Str) : Txt.join y zs = Str.join y zs := StrLaws.glued_eq_join y zs
theorem strsOf_map : ∀ zs : List Str, strsOf (zs.map D.str) = some zs
  | [] => rfl
  | z :: zs => by simp [strsOf, strOf, strsOf_map zs]
theorem join_str {y : Str} {zs : List Str} (h : (zs.map (·.length)).sum + zs.length * y.length ≤ 16777216) : oJoin (.str y) [.lst (zs.map D.str)] = some (.str (Txt.join y zs)) := by
  simp only [oJoin, strsOf_map, Option.bind_some, if_pos h]
theorem len_cps (z : Str) : z.length = z.cps.toList.length := by simp [Str.length]
end FL

set_option maxHeartbeats 4000000
/-! FX: the plain law's rules as an executor by simp: judgements that do not unfold, the outcome first. -/
namespace FL
open PySem PySem.Spec PyProof.Rows L2
structure OQ {α : Type} (o : Out α) (P : α → AS → Prop) (X : Exn → AS → Prop) : Prop where
  run : OP o P X
structure SQ (o : SOut) (N : AS → Prop) (R : Ret → AS → Prop) (X : Exn → AS → Prop) : Prop where
  run : SP o N R X
structure FQ (o : FOut) (R : Ret → List Slot → Prop) (X : Exn → List Slot → Prop) : Prop where
  run : FP o R X
structure LQ (ds : List D) (s : AS) (g : GC) (b : SC) (N : AS → Prop) (R : Ret → AS → Prop) (X : Exn → AS → Prop) : Prop where
  run : SP (forL g b ds s) N R X
structure CQ (ds acc : List D) (s : AS) (vs : List Nat) (g : GC) (tt : IB) (te : IC) (P : List D → AS → Prop) (X : Exn → AS → Prop) : Prop where
  run : OP (compGo vs g tt te ds acc s) P X
inductive optP {α : Type} : Option α → (α → Prop) → Prop where
  | mk {a : α} {P : α → Prop} (h : P a) : optP (some a) P
structure getF (s : AS) (i : Nat) (P : D → Prop) : Prop where
  run : ∃ d, get s i = some (.fz d) ∧ P d
structure getO (s : AS) (i : Nat) (P : List D → Prop) : Prop where
  run : ∃ d, get s i = some (.ow d) ∧ P d
structure letS (s : AS) (P : AS → Prop) : Prop where
  run : P s
inductive blP : D → (Bool → Prop) → Prop where
  | mk {b : Bool} {P : Bool → Prop} (h : P b) : blP (.bl b) P
inductive strP : D → (Str → Prop) → Prop where
  | mk {b : Str} {P : Str → Prop} (h : P b) : strP (.str b) P
inductive intP : D → (Int → Prop) → Prop where
  | mk {b : Int} {P : Int → Prop} (h : P b) : intP (.int b) P
inductive lstP : D → (List D → Prop) → Prop where
  | lst {b : List D} {P : List D → Prop} (h : P b) : lstP (.lst b) P
  | scr {b : List D} {P : List D → Prop} (h : P b) : lstP (.scr b) P
inductive ow1 : List Slot → (List D → Prop) → Prop where
  | mk {b : List D} {P : List D → Prop} (h : P b) : ow1 [.ow b] P
structure outP (s : AS) (ios : List Nat) (P : List Slot → Prop) : Prop where
  run : ∃ o, outsOf s ios = some o ∧ P o
inductive slP : D → (List D → Prop) → (Str → Prop) → Prop where
  | tup {b : List D} {P : List D → Prop} {Q : Str → Prop} (h : P b) : slP (.tup b) P Q
  | str {b : Str} {P : List D → Prop} {Q : Str → Prop} (h : Q b) : slP (.str b) P Q
section
variable {α β : Type} {P : α → AS → Prop} {X : Exn → AS → Prop} {s : AS} {N : AS → Prop} {R : Ret → AS → Prop} {Q : D → AS → Prop} {QL : List D → AS → Prop} {QB : Bool → AS → Prop} {QQ : Option Int → AS → Prop}
theorem OQ_def {o : Out α} : OQ o P X ↔ OP o P X := ⟨fun h => h.run, fun h => ⟨h⟩⟩
theorem SQ_def {o : SOut} : SQ o N R X ↔ SP o N R X := ⟨fun h => h.run, fun h => ⟨h⟩⟩
theorem FQ_def {o : FOut} {R : Ret → List Slot → Prop} {X : Exn → List Slot → Prop} : FQ o R X ↔ FP o R X := ⟨fun h => h.run, fun h => ⟨h⟩⟩
theorem LQ_def {g : GC} {b : SC} {ds : List D} : LQ ds s g b N R X ↔ SP (forL g b ds s) N R X := ⟨fun h => h.run, fun h => ⟨h⟩⟩
theorem CQ_def {vs : List Nat} {g : GC} {tt : IB} {te : IC} {ds acc : List D} : CQ ds acc s vs g tt te QL X ↔ OP (compGo vs g tt te ds acc s) QL X := ⟨fun h => h.run, fun h => ⟨h⟩⟩
theorem optP_def {o : Option α} {P : α → Prop} : optP o P ↔ ∃ z, o = some z ∧ P z := ⟨fun ⟨h⟩ => ⟨_, rfl, h⟩, fun ⟨_, e, h⟩ => e ▸ ⟨h⟩⟩
theorem getF_def {i : Nat} {P : D → Prop} : getF s i P ↔ ∃ d, get s i = some (.fz d) ∧ P d := ⟨fun h => h.run, fun h => ⟨h⟩⟩
theorem getO_def {i : Nat} {P : List D → Prop} : getO s i P ↔ ∃ d, get s i = some (.ow d) ∧ P d := ⟨fun h => h.run, fun h => ⟨h⟩⟩
theorem letS_def : letS s N ↔ N s := ⟨fun h => h.run, fun h => ⟨h⟩⟩
theorem blP_def {d : D} {P : Bool → Prop} : blP d P ↔ ∃ b, d = .bl b ∧ P b := ⟨fun ⟨h⟩ => ⟨_, rfl, h⟩, fun ⟨_, e, h⟩ => e ▸ ⟨h⟩⟩
theorem strP_def {d : D} {P : Str → Prop} : strP d P ↔ ∃ b, d = .str b ∧ P b := ⟨fun ⟨h⟩ => ⟨_, rfl, h⟩, fun ⟨_, e, h⟩ => e ▸ ⟨h⟩⟩
theorem intP_def {d : D} {P : Int → Prop} : intP d P ↔ ∃ b, d = .int b ∧ P b := ⟨fun ⟨h⟩ => ⟨_, rfl, h⟩, fun ⟨_, e, h⟩ => e ▸ ⟨h⟩⟩
theorem lstP_def {d : D} {P : List D → Prop} : lstP d P ↔ ∃ b, (d = .lst b ∨ d = .scr b) ∧ P b := ⟨fun h => by
  cases h with
  | lst h => exact ⟨_, .inl rfl, h⟩
  | scr h => exact ⟨_, .inr rfl, h⟩, fun ⟨_, e, h⟩ => by
  rcases e with rfl | rfl
  · exact .lst h
  · exact .scr h⟩
theorem ow1_def {o : List Slot} {P : List D → Prop} : ow1 o P ↔ ∃ b, o = [.ow b] ∧ P b := ⟨fun ⟨h⟩ => ⟨_, rfl, h⟩, fun ⟨_, e, h⟩ => e ▸ ⟨h⟩⟩
theorem outP_def {ios : List Nat} {P : List Slot → Prop} : outP s ios P ↔ ∃ o, outsOf s ios = some o ∧ P o := ⟨fun h => h.run, fun h => ⟨h⟩⟩
theorem OQ_congr {o o' : Out α} (h : o = o') : OQ o P X = OQ o' P X := h ▸ rfl
theorem SQ_congr {o o' : SOut} (h : o = o') : SQ o N R X = SQ o' N R X := h ▸ rfl
theorem FQ_congr {o o' : FOut} {R : Ret → List Slot → Prop} {X : Exn → List Slot → Prop} (h : o = o') : FQ o R X = FQ o' R X := h ▸ rfl
theorem LQ_congr {g : GC} {b : SC} {ds ds' : List D} {s' : AS} (h : ds = ds') (k : s = s') : LQ ds s g b N R X = LQ ds' s' g b N R X := by rw [h, k]
theorem CQ_congr {vs : List Nat} {g : GC} {tt : IB} {te : IC} {ds ds' acc acc' : List D} {s' : AS} (h : ds = ds') (k : acc = acc') (l : s = s') : CQ ds acc s vs g tt te QL X = CQ ds' acc' s' vs g tt te QL X := by rw [h, k, l]
theorem optP_congr {o o' : Option α} {P : α → Prop} (h : o = o') : optP o P = optP o' P := h ▸ rfl
theorem getF_congr {s' : AS} {i : Nat} {P : D → Prop} (h : s = s') : getF s i P = getF s' i P := h ▸ rfl
theorem getO_congr {s' : AS} {i : Nat} {P : List D → Prop} (h : s = s') : getO s i P = getO s' i P := h ▸ rfl
theorem letS_congr {s' : AS} (h : s = s') : letS s N = letS s' N := h ▸ rfl
theorem blP_congr {o o' : D} {P : Bool → Prop} (h : o = o') : blP o P = blP o' P := h ▸ rfl
theorem strP_congr {o o' : D} {P : Str → Prop} (h : o = o') : strP o P = strP o' P := h ▸ rfl
theorem intP_congr {o o' : D} {P : Int → Prop} (h : o = o') : intP o P = intP o' P := h ▸ rfl
theorem lstP_congr {o o' : D} {P : List D → Prop} (h : o = o') : lstP o P = lstP o' P := h ▸ rfl
theorem ow1_congr {o o' : List Slot} {P : List D → Prop} (h : o = o') : ow1 o P = ow1 o' P := h ▸ rfl
theorem outP_congr {s' : AS} {ios : List Nat} {P : List Slot → Prop} (h : s = s') : outP s ios P = outP s' ios P := h ▸ rfl
theorem slP_congr {o o' : D} {P : List D → Prop} {Q : Str → Prop} (h : o = o') : slP o P Q = slP o' P Q := h ▸ rfl
/-! the parts -/
@[simp ↓] theorem optP_some {a : α} {P : α → Prop} : optP (some a) P ↔ P a := by simp [optP_def]
@[simp ↓] theorem optP_none {P : α → Prop} : optP none P ↔ False := by simp [optP_def]
@[simp] theorem optP_ite {c : Prop} [Decidable c] {a : α} {P : α → Prop} : optP (if c then some a else none) P ↔ c ∧ P a := by split <;> simp [*]
@[simp ↓] theorem getF_zero {d : D} {P : D → Prop} : getF (some (.fz d) :: s) 0 P ↔ P d := by simp [getF_def, get]
@[simp ↓] theorem getF_succ {o : Option Slot} {i : Nat} {P : D → Prop} : getF (o :: s) (i + 1) P ↔ getF s i P := by simp [getF_def, get]
@[simp ↓] theorem getO_zero {d : List D} {P : List D → Prop} : getO (some (.ow d) :: s) 0 P ↔ P d := by simp [getO_def, get]
@[simp ↓] theorem getO_succ {o : Option Slot} {i : Nat} {P : List D → Prop} : getO (o :: s) (i + 1) P ↔ getO s i P := by simp [getO_def, get]
@[simp ↓] theorem letS_cons {o : Option Slot} : letS (o :: s) N ↔ N (o :: s) := letS_def
@[simp ↓] theorem letS_nil : letS [] N ↔ N [] := letS_def
@[simp ↓] theorem blP_bl {b : Bool} {P : Bool → Prop} : blP (.bl b) P ↔ P b := by simp [blP_def]
@[simp ↓] theorem strP_str {b : Str} {P : Str → Prop} : strP (.str b) P ↔ P b := by simp [strP_def]
@[simp ↓] theorem intP_int {b : Int} {P : Int → Prop} : intP (.int b) P ↔ P b := by simp [intP_def]
@[simp ↓] theorem lstP_lst {b : List D} {P : List D → Prop} : lstP (.lst b) P ↔ P b := by simp [lstP_def]
@[simp ↓] theorem lstP_scr {b : List D} {P : List D → Prop} : lstP (.scr b) P ↔ P b := by simp [lstP_def]
@[simp ↓] theorem ow1_ow {b : List D} {P : List D → Prop} : ow1 [.ow b] P ↔ P b := by simp [ow1_def]
@[simp ↓] theorem outP_nil {P : List Slot → Prop} : outP s [] P ↔ P [] := by simp [outP_def, outsOf]
@[simp ↓] theorem outP_zero {xs : List D} {P : List Slot → Prop} : outP (some (.ow xs) :: s) [0] P ↔ P [.ow xs] := by simp [outP_def, outsOf, get, isOwn]
@[simp ↓] theorem outP_succ {o : Option Slot} {i : Nat} {P : List Slot → Prop} : outP (o :: s) [i + 1] P ↔ outP s [i] P := by simp [outP_def, outsOf, get]
@[simp ↓] theorem slP_tup {b : List D} {P : List D → Prop} {Q : Str → Prop} : slP (.tup b) P Q ↔ P b := ⟨fun h => by cases h; assumption, .tup⟩
@[simp ↓] theorem slP_str {b : Str} {P : List D → Prop} {Q : Str → Prop} : slP (.str b) P Q ↔ Q b := ⟨fun h => by cases h; assumption, .str⟩
@[simp] theorem frzA_ow {xs : List D} : frzA (some (.ow xs) :: s) 0 = some (.fz (.lst xs)) :: s := rfl
@[simp] theorem frzA_fz {d : D} : frzA (some (.fz d) :: s) 0 = some (.fz d) :: s := rfl
@[simp] theorem frzA_no : frzA (none :: s) 0 = none :: s := rfl
@[simp] theorem frzA_succ {o : Option Slot} {i : Nat} : frzA (o :: s) (i + 1) = o :: frzA s i := by
  simp only [frzA, get, List.getElem?_cons_succ]
  cases h : s[i]?.join with
  | none => rfl
  | some o => cases o <;> simp
@[simp] theorem wipeA_nil : wipeA s [] = s := rfl
@[simp] theorem wipeA_cons {v : Nat} {vs : List Nat} : wipeA s (v :: vs) = (wipeA s vs).set v none := rfl
@[simp] theorem restoreA_nil {t : AS} : restoreA s t [] = t := rfl
@[simp] theorem restoreA_cons {t : AS} {v : Nat} {vs : List Nat} : restoreA s t (v :: vs) = (restoreA s t vs).set v (fzO (get s v)) := rfl
@[simp] theorem gget_zero {o : Option Slot} : get (o :: s) 0 = o := rfl
@[simp] theorem gget_succ {o : Option Slot} {i : Nat} : get (o :: s) (i + 1) = get s i := by simp [get]
@[simp] theorem fzO_fz {d : D} : fzO (some (.fz d)) = some (.fz d) := rfl
@[simp] theorem fzO_no : fzO none = none := rfl
@[simp] theorem retD_fz {d : D} : retD (.fz d) = d := rfl
@[simp] theorem retD_ow {d : List D} : retD (.ow d) = .lst d := rfl
/-! outcomes -/
@[simp ↓] theorem OQ_ok {a : α} : OQ (.ok a s) P X ↔ P a s := by simp [OQ_def]
@[simp ↓] theorem OQ_exn {x : Exn} : OQ (α := α) (.exn x s) P X ↔ X x s := by simp [OQ_def]
@[simp ↓] theorem FQ_rt {r : Ret} {o : List Slot} {R : Ret → List Slot → Prop} {X : Exn → List Slot → Prop} : FQ (.rt r o) R X ↔ R r o := by simp [FQ_def, FP]
@[simp ↓] theorem FQ_exn {x : Exn} {o : List Slot} {R : Ret → List Slot → Prop} {X : Exn → List Slot → Prop} : FQ (.exn x o) R X ↔ X x o := by simp [FQ_def, FP]
theorem OQ.imp {o : Out α} {P' : α → AS → Prop} {X' : Exn → AS → Prop} (h : OQ o P X) (i : ∀ a s, P a s → P' a s) (j : ∀ x s, X x s → X' x s) : OQ o P' X' := ⟨h.run.imp i j⟩
theorem SQ.imp {o : SOut} {N' : AS → Prop} {R' : Ret → AS → Prop} {X' : Exn → AS → Prop} (h : SQ o N R X) (i : ∀ s, N s → N' s) (k : ∀ r s, R r s → R' r s) (j : ∀ x s, X x s → X' x s) : SQ o N' R' X' := ⟨h.run.imp i k j⟩
theorem FQ.imp {o : FOut} {R R' : Ret → List Slot → Prop} {X X' : Exn → List Slot → Prop} (h : FQ o R X) (k : ∀ r s, R r s → R' r s) (j : ∀ x s, X x s → X' x s) : FQ o R' X' := ⟨by
  have := h.run
  cases o with
  | rt => exact k _ _ this
  | exn => exact j _ _ this
  | stuck => exact this⟩
theorem FQ_is {o v : FOut} (h : FQ o (fun r s => v = .rt r s) (fun x s => v = .exn x s)) : o = v := by
  have := h.run
  cases o with
  | rt => exact Eq.symm this
  | exn => exact Eq.symm this
  | stuck => exact this.elim
/-! terms -/
@[simp ↓] theorem OQ_iC {d : D} : OQ (iC d s) Q X ↔ Q d s := by simp [OQ_def]
@[simp ↓] theorem OQ_iVar {i : Nat} : OQ (iVar i s) Q X ↔ getF s i fun d => Q d s := by simp [OQ_def, getF_def]
@[simp ↓] theorem OQ_iLenO {i : Nat} : OQ (iLenO i s) Q X ↔ getO s i fun xs => Q (.int xs.length) s := by simp [OQ_def, getO_def]
@[simp ↓] theorem OQ_iBin {f : D → D → Option D} {a b : IC} : OQ (iBin f a b s) Q X ↔ OQ (a s) (fun x s => OQ (b s) (fun y s => optP (f x y) fun z => Q z s) X) X := by simp [OQ_def, optP_def]
@[simp ↓] theorem OQ_iBinN {f : D → D → Option (List D)} {a b : IC} : OQ (iBinN f a b s) QL X ↔ OQ (a s) (fun x s => OQ (b s) (fun y s => optP (f x y) fun z => QL z s) X) X := by simp [OQ_def, optP_def]
@[simp ↓] theorem OQ_iUn {f : D → Option D} {a : IC} : OQ (iUn f a s) Q X ↔ OQ (a s) (fun x s => optP (f x) fun z => Q z s) X := by simp [OQ_def, optP_def]
@[simp ↓] theorem OQ_iFn {f : List D → Option D} {a : IL} : OQ (iFn f a s) Q X ↔ OQ (a s) (fun x s => optP (f x) fun z => Q z s) X := by simp [OQ_def, optP_def]
@[simp ↓] theorem OQ_iFnN {f : List D → Option (List D)} {a : IL} : OQ (iFnN f a s) QL X ↔ OQ (a s) (fun x s => optP (f x) fun z => QL z s) X := by simp [OQ_def, optP_def]
@[simp ↓] theorem OQ_iNil : OQ (iNil s) QL X ↔ QL [] s := by simp [OQ_def]
@[simp ↓] theorem OQ_iCons {c : IC} {cs : IL} : OQ (iCons c cs s) QL X ↔ OQ (c s) (fun d s => OQ (cs s) (fun ds s => QL (d :: ds) s) X) X := by simp [OQ_def]
@[simp ↓] theorem OQ_iFz {c : IL} : OQ (iFz c s) Q X ↔ OQ (c s) (fun xs s => Q (.lst xs) s) X := by simp [OQ_def]
@[simp ↓] theorem OQ_iLs {c : IL} : OQ (iLs c s) QL X ↔ OQ (c s) (fun xs s => xs.length ≤ 16777216 ∧ QL xs s) X := by simp [OQ_def]
@[simp ↓] theorem OQ_iTupD {c : IL} : OQ (iTupD c s) Q X ↔ OQ (c s) (fun xs s => xs.length ≤ 16777216 ∧ Q (.tup xs) s) X := by simp [OQ_def]
@[simp ↓] theorem OQ_iBl {c : IC} : OQ (iBl c s) QB X ↔ OQ (c s) (fun d s => blP d fun b => QB b s) X := by simp [OQ_def, blP_def]
@[simp ↓] theorem OQ_iTru {c : IC} : OQ (iTru c s) QB X ↔ OQ (c s) (fun d s => optP (truD d) fun b => QB b s) X := by simp [OQ_def, optP_def, iTru]
@[simp ↓] theorem OQ_ibNot {c : IB} : OQ (ibNot c s) QB X ↔ OQ (c s) (fun b s => QB (!b) s) X := by simp [OQ_def]
@[simp ↓] theorem OQ_ibAnd {c d : IB} : OQ (ibAnd c d s) QB X ↔ OQ (c s) (fun b s => if b = true then OQ (d s) QB X else QB false s) X := by simp [OQ_def]
@[simp ↓] theorem OQ_ibOr {c d : IB} : OQ (ibOr c d s) QB X ↔ OQ (c s) (fun b s => if b = true then QB true s else OQ (d s) QB X) X := by simp [OQ_def]
@[simp ↓] theorem OQ_iIf {t : IB} {c d : IC} : OQ (iIf t c d s) Q X ↔ OQ (t s) (fun b s => if b = true then OQ (c s) Q X else OQ (d s) Q X) X := by simp [OQ_def]
@[simp ↓] theorem OQ_iNot {c : IC} : OQ (iNot c s) Q X ↔ OQ (c s) (fun d s => blP d fun b => Q (.bl (!b)) s) X := by simp [OQ_def, blP_def]
@[simp ↓] theorem OQ_iAnd {c d : IC} : OQ (iAnd c d s) Q X ↔ OQ (c s) (fun a s => blP a fun b => if b = true then OQ (d s) Q X else Q (.bl false) s) X := by simp [OQ_def, blP_def]
@[simp ↓] theorem OQ_iOr {c d : IC} : OQ (iOr c d s) Q X ↔ OQ (c s) (fun a s => blP a fun b => if b = true then Q (.bl true) s else OQ (d s) Q X) X := by
  simp only [OQ_def, blP_def, iOr, OP_bind]
  refine iff_of_eq (congrArg (OP (c s) · X) (funext fun a => funext fun t => ?_))
  cases a <;> simp
  rename_i b
  cases b <;> simp
@[simp ↓] theorem OQ_iChain {f g : D → D → Option D} {a b c : IC} : OQ (iChain f g a b c s) Q X ↔ OQ (a s) (fun x s => OQ (b s) (fun y s => optP (f x y) fun d => blP d fun z => if z = true then OQ (c s) (fun u s => optP (g y u) fun v => Q v s) X else Q (.bl false) s) X) X := by
  simp only [OQ_def, optP_def, blP_def, OP_iChain]
  refine iff_of_eq (congrArg (OP (a s) · X) (funext fun x => funext fun t => congrArg (OP (b t) · X) (funext fun y => funext fun t => propext ?_)))
  exact ⟨fun ⟨z, e, h⟩ => ⟨_, e, z, rfl, h⟩, fun ⟨_, e, z, e2, h⟩ => ⟨z, e.trans (congrArg some e2), h⟩⟩
@[simp ↓] theorem OQ_iLst {c : IC} : OQ (iLst c s) QL X ↔ OQ (c s) (fun d s => lstP d fun xs => QL xs s) X := by simp [OQ_def, lstP_def]
inductive seqP : D → (List D → Prop) → Prop where
  | lst {b : List D} {P : List D → Prop} (h : P b) : seqP (.lst b) P
  | scr {b : List D} {P : List D → Prop} (h : P b) : seqP (.scr b) P
  | tup {b : List D} {P : List D → Prop} (h : P b) : seqP (.tup b) P
theorem seqP_congr {o o' : D} {P : List D → Prop} (h : o = o') : seqP o P = seqP o' P := h ▸ rfl
@[simp ↓] theorem seqP_lst {b : List D} {P : List D → Prop} : seqP (.lst b) P ↔ P b := ⟨fun h => by cases h; assumption, .lst⟩
@[simp ↓] theorem seqP_scr {b : List D} {P : List D → Prop} : seqP (.scr b) P ↔ P b := ⟨fun h => by cases h; assumption, .scr⟩
@[simp ↓] theorem seqP_tup {b : List D} {P : List D → Prop} : seqP (.tup b) P ↔ P b := ⟨fun h => by cases h; assumption, .tup⟩
@[simp ↓] theorem OQ_iTup {c : IC} : OQ (iTup c s) QL X ↔ OQ (c s) (fun d s => slP d (fun xs => QL xs s) fun _ => False) X := by
  simp only [OQ_def, iTup, OP_bind]
  refine iff_of_eq (congrArg (OP (c s) · X) (funext fun a => funext fun t => ?_))
  cases a with
  | tup xs => simp
  | str z => simp
  | _ => simp only [OP_stuck]; exact (eq_false fun h => nomatch h).symm
@[simp ↓] theorem OQ_iSq {c : IC} : OQ (iSq c s) QL X ↔ OQ (c s) (fun d s => seqP d fun xs => QL xs s) X := by
  simp only [OQ_def, iSq, OP_bind]
  refine iff_of_eq (congrArg (OP (c s) · X) (funext fun a => funext fun t => ?_))
  cases a with
  | tup xs => simp
  | lst xs => simp
  | scr xs => simp
  | _ => simp only [OP_stuck]; exact (eq_false fun h => nomatch h).symm
@[simp ↓] theorem OQ_iStrD {c : IC} : OQ (iStrD c s) QL X ↔ OQ (c s) (fun d s => strP d fun z => QL (signs z) s) X := by simp [OQ_def, strP_def]
@[simp ↓] theorem OQ_iRng1 {c : IC} : OQ (iRng1 c s) QL X ↔ OQ (c s) (fun d s => intP d fun j => (-(2 ^ 62) ≤ j ∧ j < 2 ^ 62) ∧ QL (rng 0 j.toNat) s) X := by simp only [OQ_def, intP_def, OP_iRng1]
@[simp ↓] theorem OQ_iIxO {i : Nat} {c : IC} : OQ (iIxO i c s) Q X ↔ getO s i fun _ => OQ (c s) (fun d s => getO s i fun ys => optP (oIx (.lst ys) d) fun z => Q z s) X := by
  simp only [OQ_def, getO_def, optP_def]
  cases h : get s i with
  | none => simp [iIxO, h]
  | some o =>
    cases o with
    | ow xs => simp [OP_iIxO h]
    | _ => simp [iIxO, h]
structure getE (s : AS) (i : Nat) (P : List D → Prop) : Prop where
  run : ∃ d, (get s i = some (.ow d) ∨ get s i = some (.fz (.lst d))) ∧ P d
theorem getE_def {i : Nat} {P : List D → Prop} : getE s i P ↔ ∃ d, (get s i = some (.ow d) ∨ get s i = some (.fz (.lst d))) ∧ P d := ⟨fun h => h.run, fun h => ⟨h⟩⟩
theorem getE_congr {s' : AS} {i : Nat} {P : List D → Prop} (h : s = s') : getE s i P = getE s' i P := h ▸ rfl
@[simp ↓] theorem getE_ow {d : List D} {P : List D → Prop} : getE (some (.ow d) :: s) 0 P ↔ P d := by simp [getE_def, get]
@[simp ↓] theorem getE_fz {d : List D} {P : List D → Prop} : getE (some (.fz (.lst d)) :: s) 0 P ↔ P d := by simp [getE_def, get]
@[simp ↓] theorem getE_succ {o : Option Slot} {i : Nat} {P : List D → Prop} : getE (o :: s) (i + 1) P ↔ getE s i P := by simp [getE_def, get]
@[simp ↓] theorem OQ_iLenE {i : Nat} : OQ (iLenE i s) Q X ↔ getE s i fun xs => Q (.int xs.length) s := by
  simp only [OQ_def, getE_def, iLenE]
  cases h : get s i with
  | none => simp
  | some o =>
    cases o with
    | ow xs => simp
    | fz d => cases d <;> simp
    | _ => simp
structure ixP (s : AS) (i : Nat) (p q : Prop) : Prop where
  run : match get s i with | some (.ow _) => p | _ => q
theorem ixP_congr {s' : AS} {i : Nat} {p q : Prop} (h : s = s') : ixP s i p q = ixP s' i p q := h ▸ rfl
@[simp ↓] theorem ixP_ow {d : List D} {p q : Prop} : ixP (some (.ow d) :: s) 0 p q ↔ p := ⟨fun h => h.run, fun h => ⟨h⟩⟩
@[simp ↓] theorem ixP_fz {d : D} {p q : Prop} : ixP (some (.fz d) :: s) 0 p q ↔ q := ⟨fun h => h.run, fun h => ⟨h⟩⟩
@[simp ↓] theorem ixP_succ {o : Option Slot} {i : Nat} {p q : Prop} : ixP (o :: s) (i + 1) p q ↔ ixP s i p q := ⟨fun h => ⟨by have := h.run; rwa [gget_succ] at this⟩, fun h => ⟨by rw [gget_succ]; exact h.run⟩⟩
@[simp ↓] theorem OQ_iIxE {i : Nat} {c : IC} : OQ (iIxE i c s) Q X ↔ ixP s i (OQ (iIxO i c s) Q X) (OQ (iBin oIx (iVar i) c s) Q X) := by
  unfold iIxE
  constructor
  · intro h
    refine ⟨?_⟩
    split at h <;> simp_all
  · intro h
    have := h.run
    split at this <;> simp_all
@[simp ↓] theorem OQ_iMove {i : Nat} : OQ (iMove i s) QL X ↔ getO s i fun xs => letS (s.set i none) fun s => QL xs s := by
  simp only [OQ_def, getO_def, letS_def]
  cases h : get s i with
  | none => simp [iMove, h]
  | some o =>
    cases o with
    | ow xs => simp [OP_move h]
    | _ => simp [iMove, h]
@[simp ↓] theorem OQ_iMt {f : D → List D → Option D} {c : IC} {cs : IL} : OQ (iMt f c cs s) Q X ↔ OQ (c s) (fun d s => strP d fun z => OQ (cs s) (fun ds s => optP (f (.str z) ds) fun w => Q w s) X) X := by
  simp only [OQ_def, strP_def, optP_def, iMt, OP_bind]
  refine iff_of_eq (congrArg (OP (c s) · X) (funext fun a => funext fun t => ?_))
  cases a <;> simp
@[simp ↓] theorem OQ_iMtN {f : D → List D → Option (List D)} {c : IC} {cs : IL} : OQ (iMtN f c cs s) QL X ↔ OQ (c s) (fun d s => strP d fun z => OQ (cs s) (fun ds s => optP (f (.str z) ds) fun w => QL w s) X) X := by
  simp only [OQ_def, strP_def, optP_def, iMtN, OP_bind]
  refine iff_of_eq (congrArg (OP (c s) · X) (funext fun a => funext fun t => ?_))
  cases a <;> simp
@[simp ↓] theorem OQ_iIsi {f : D → Option Bool} {c : IC} : OQ (iIsi f c s) Q X ↔ OQ (c s) (fun d s => optP (f d) fun b => Q (.bl b) s) X := by
  simp only [OQ_def, optP_def, iIsi, OP_bind]
  refine iff_of_eq (congrArg (OP (c s) · X) (funext fun a => funext fun t => ?_))
  cases f a <;> simp
@[simp ↓] theorem OQ_iIsE {f : Str → Option Bool} {x : Exn} : OQ (iIsE f x s) Q X ↔ optP (f x.cls) fun b => Q (.bl b) s := by
  simp only [OQ_def, optP_def, iIsE]
  cases f x.cls <;> simp
@[simp ↓] theorem OQ_iXf {C f : Str} {x : Exn} : OQ (iXf C f x s) Q X ↔ x.cls = C ∧ optP ((x.ns.zip x.ds).lookup f) fun d => Q d s := by
  simp only [OQ_def, optP_def, iXf]
  split
  · simp [*]
  · simp [*]
@[simp ↓] theorem OQ_iqNone : OQ (iqNone s) QQ X ↔ QQ none s := by simp [OQ_def, iqNone]
@[simp ↓] theorem OQ_iqSome {c : IC} : OQ (iqSome c s) QQ X ↔ OQ (c s) (fun d s => intP d fun i => QQ (some i) s) X := by
  simp only [OQ_def, intP_def, iqSome, OP_bind]
  refine iff_of_eq (congrArg (OP (c s) · X) (funext fun a => funext fun t => ?_))
  cases a <;> simp
@[simp ↓] theorem OQ_iSlL {c : IC} {l h : IQ} : OQ (iSlL c l h s) QL X ↔ OQ (c s) (fun d s => lstP d fun xs => OQ (l s) (fun lo s => OQ (h s) (fun hi s => QL (cutD xs lo hi) s) X) X) X := by
  simp only [OQ_def, lstP_def, iSlL, OP_bind]
  refine iff_of_eq (congrArg (OP (c s) · X) (funext fun a => funext fun t => ?_))
  cases a <;> simp
@[simp ↓] theorem OQ_iSlT {c : IC} {l h : IQ} : OQ (iSlT c l h s) Q X ↔ OQ (c s) (fun d s => OQ (l s) (fun lo s => OQ (h s) (fun hi s => slP d (fun xs => Q (.tup (cutD xs lo hi)) s) fun z => z.length ≤ 16777216 ∧ Q (.str (cutS z lo hi)) s) X) X) X := by
  simp only [OQ_def, iSlT, OP_bind]
  refine iff_of_eq (congrArg (OP (c s) · X) (funext fun a => funext fun t => congrArg (OP (l t) · X) (funext fun lo => funext fun t => congrArg (OP (h t) · X) (funext fun hi => funext fun t => ?_))))
  cases a with
  | tup xs => simp
  | str z =>
    simp only [slP_str]
    split <;> simp [*]
  | _ => simp only [OP_stuck]; exact (eq_false fun h => nomatch h).symm
/-! calls -/
@[simp ↓] theorem OQ_callA {n : Nat} {m : FM} {cs : IL} : OQ (iCallA n m cs s) Q X ↔ OQ (cs s) (fun ds s => ds.length = n ∧ FQ (m (ds.map .fz)) (fun r _ => Q (retD r) s) (fun x _ => X x s)) X := by simp only [OQ_def, FQ_def, OP_callA]
@[simp ↓] theorem OQ_callAN {n : Nat} {m : FM} {cs : IL} : OQ (iCallAN n m cs s) QL X ↔ OQ (cs s) (fun ds s => ds.length = n ∧ FQ (m (ds.map .fz)) (fun r _ => ∃ xs, r = .ow xs ∧ QL xs s) (fun x _ => X x s)) X := by simp only [OQ_def, FQ_def, OP_callAN]
@[simp ↓] theorem OQ_call {n i : Nat} {m : FM} {cs : IL} : OQ (iCall n m i cs s) Q X ↔ getO s i fun _ => OQ (cs s) (fun ds s => getO s i fun xs => ds.length + 1 = n ∧ FQ (m (.ow xs :: ds.map .fz)) (fun r o => ow1 o fun ys => letS (s.set i (some (.ow ys))) (Q (retD r))) (fun x o => ow1 o fun ys => letS (s.set i (some (.ow ys))) (X x))) X := by
  simp only [OQ_def, getO_def, ow1_def, letS_def, FQ_def]
  cases h : get s i with
  | none => simp [iCall, h]
  | some o =>
    cases o with
    | ow xs =>
      simp only [iCall, h, OP_bind, Option.some.injEq, Slot.ow.injEq, exists_eq_left']
      refine iff_of_eq (congrArg (OP (cs s) · X) (funext fun ds => funext fun t => ?_))
      unfold iCallR
      cases h2 : get t i with
      | none => simp
      | some o =>
        cases o with
        | ow ys =>
          simp only [Option.some.injEq, Slot.ow.injEq, exists_eq_left']
          by_cases hn : ds.length + 1 = n
          · simp only [if_pos hn, hn, true_and]
            cases m (.ow ys :: ds.map .fz) with
            | rt r o =>
              refine propext ?_
              unfold FP
              cases r with
              | fz d =>
                match o with
                | [] => simp
                | [.ow zs] => simp
                | [.fz _] => simp
                | [.oi _ _ _] => simp
                | a :: b :: c => cases a <;> simp
              | ow d =>
                match o with
                | [] => simp
                | [.ow zs] => simp
                | [.fz _] => simp
                | [.oi _ _ _] => simp
                | a :: b :: c => cases a <;> simp
            | exn x o =>
              refine propext ?_
              unfold FP
              match o with
              | [] => simp
              | [.ow zs] => simp
              | [.fz _] => simp
              | [.oi _ _ _] => simp
              | a :: b :: c => cases a <;> simp
            | stuck => simp [FP]
          · simp [hn]
        | _ => simp
    | _ => simp [iCall, h]
@[simp ↓] theorem OQ_iOwn {i : Nat} {g : LG} {cs : IL} : OQ (iOwn i g cs s) Q X ↔ getO s i fun _ => OQ (cs s) (fun ds s => getO s i fun xs => optP (g xs ds) fun p => letS (s.set i (some (.ow p.2))) (Q p.1)) X := by
  simp only [OQ_def, getO_def, letS_def, optP_def]
  cases h : get s i with
  | none => simp [iOwn, h]
  | some o =>
    cases o with
    | ow xs =>
      simp only [iOwn, h, OP_bind, Option.some.injEq, Slot.ow.injEq, exists_eq_left']
      refine iff_of_eq (congrArg (OP (cs s) · X) (funext fun ds => funext fun t => ?_))
      cases h2 : get t i with
      | none => simp
      | some o =>
        cases o with
        | ow ys =>
          simp only [Option.some.injEq, Slot.ow.injEq, exists_eq_left']
          cases g ys ds <;> simp
        | _ => simp
    | _ => simp [iOwn, h]
/-! statements -/
@[simp ↓] theorem SQ_nx : SQ (.nx s) N R X ↔ N s := by simp [SQ_def]
@[simp ↓] theorem SQ_seq {a b : SC} : SQ (sSeq a b s) N R X ↔ SQ (a s) (fun s => SQ (b s) N R X) R X := by simp [SQ_def]
@[simp ↓] theorem SQ_skip : SQ (sSkip s) N R X ↔ N s := by simp [SQ_def]
@[simp ↓] theorem SQ_set {i : Nat} {c : IC} : SQ (sSet i c s) N R X ↔ OQ (c s) (fun d s => letS (s.set i (some (.fz d))) N) X := by simp [SQ_def, OQ_def, letS_def]
@[simp ↓] theorem SQ_setO {i : Nat} {c : IL} : SQ (sSetO i c s) N R X ↔ OQ (c s) (fun d s => letS (s.set i (some (.ow d))) N) X := by simp [SQ_def, OQ_def, letS_def]
@[simp ↓] theorem SQ_drop {c : IC} : SQ (sDrop c s) N R X ↔ OQ (c s) (fun _ s => N s) X := by simp [SQ_def, OQ_def]
@[simp ↓] theorem SQ_ret {c : IC} : SQ (sRet c s) N R X ↔ OQ (c s) (fun d s => R (.fz d) s) X := by simp [SQ_def, OQ_def]
@[simp ↓] theorem SQ_retO {c : IL} : SQ (sRetO c s) N R X ↔ OQ (c s) (fun d s => R (.ow d) s) X := by simp [SQ_def, OQ_def]
@[simp ↓] theorem SQ_retN : SQ (sRetN s) N R X ↔ R (.fz .non) s := by simp [SQ_def, sRetN]
@[simp ↓] theorem SQ_if {t : IB} {a b : SC} : SQ (sIf t a b s) N R X ↔ OQ (t s) (fun z s => if z = true then SQ (a s) N R X else SQ (b s) N R X) X := by simp [SQ_def, OQ_def]
@[simp ↓] theorem SQ_pre {i : Nat} {c : SC} : SQ (sPre i c s) N R X ↔ letS (frzA s i) fun s => SQ (c s) N R X := by simp [SQ_def, letS_def]
@[simp ↓] theorem SQ_aug {i : Nat} {f : D → D → Option D} {c : IC} : SQ (sAug i f c s) N R X ↔ getF s i fun d0 => OQ (c s) (fun d s => optP (f d0 d) fun z => letS (s.set i (some (.fz z))) N) X := by
  simp only [SQ_def, OQ_def, getF_def, letS_def, optP_def]
  cases h : get s i with
  | none => simp [sAug, h]
  | some o =>
    cases o with
    | fz d0 =>
      simp only [sAug, h, SP_st, Option.some.injEq, Slot.fz.injEq, exists_eq_left']
      refine iff_of_eq (congrArg (OP (c s) · X) (funext fun ds => funext fun t => ?_))
      cases f d0 ds <;> simp
    | _ => simp [sAug, h]
@[simp ↓] theorem SQ_setAt {i : Nat} {cv cx : IC} : SQ (sSetAt i cv cx s) N R X ↔ OQ (cv s) (fun d s => getO s i fun _ => OQ (cx s) (fun ix s => getO s i fun xs => optP (gSetAt xs [ix, d]) fun p => letS (s.set i (some (.ow p.2))) N) X) X := by
  simp only [SQ_def, OQ_def, getO_def, letS_def, optP_def, sSetAt, SP_st]
  refine iff_of_eq (congrArg (OP (cv s) · X) (funext fun d => funext fun t => ?_))
  cases h : get t i with
  | none => simp
  | some o =>
    cases o with
    | ow xs =>
      simp only [SP_st, Option.some.injEq, Slot.ow.injEq, exists_eq_left']
      refine congrArg (OP (cx t) · X) (funext fun ds => funext fun u => ?_)
      cases h2 : get u i with
      | none => simp
      | some o =>
        cases o with
        | ow ys =>
          simp only [Option.some.injEq, Slot.ow.injEq, exists_eq_left']
          cases gSetAt ys [ds, d] <;> simp
        | _ => simp
    | _ => simp
@[simp ↓] theorem SQ_raise {cls : Str} {cs : IL} : SQ (sRaise cls cs s) N R X ↔ OQ (cs s) (fun ds s => ds.length ≤ 16777216 ∧ X ⟨cls, [], []⟩ s) X := by
  simp only [SQ_def, OQ_def, sRaise, SP_st]
  refine iff_of_eq (congrArg (OP (cs s) · X) (funext fun d => funext fun t => ?_))
  split <;> simp [*]
@[simp ↓] theorem SQ_raiseX {cls f : Str} {c : IC} : SQ (sRaiseX cls f c s) N R X ↔ OQ (c s) (fun d s => intP d fun i => i.natAbs.log2 < 1920 ∧ X ⟨cls, [f], [.int i]⟩ s) X := by
  simp only [SQ_def, OQ_def, intP_def, sRaiseX, SP_st]
  refine iff_of_eq (congrArg (OP (c s) · X) (funext fun d => funext fun t => ?_))
  cases d <;> simp
  split <;> simp [*]
@[simp ↓] theorem SQ_dropS {i : Nat} {o : SOut} : SQ (dropS i o) N R X ↔ SQ o (fun s => letS (s.set i none) N) (fun r s => letS (s.set i none) (R r)) (fun _ _ => False) := by
  simp only [SQ_def, letS_def]
  cases o <;> simp [dropS, SP]
@[simp ↓] theorem SQ_try {i : Nat} {cat : Str → Option Bool} {b : SC} {su : Exn → SC} : SQ (sTry i cat b su s) N R X ↔ SQ (b s) N R (fun x s => optP (cat x.cls) fun z => if z = true then letS (s.set i none) fun s => SQ (dropS i (su x s)) N R X else X x s) := by
  simp only [SQ_def, letS_def, optP_def]
  unfold sTry
  cases b s with
  | exn x t =>
    simp only [SP_exn]
    cases cat x.cls with
    | none => simp
    | some z => cases z <;> simp
  | _ => simp [SP]
@[simp ↓] theorem SQ_for {c : IL} {g : GC} {b : SC} : SQ (sFor c g b s) N R X ↔ OQ (c s) (fun ds s => LQ ds s g b N R X) X := by simp [SQ_def, OQ_def, LQ_def, sFor]
theorem LQ_inv {g : GC} {b : SC} {ds : List D} (I : Nat → AS → Prop) (h0 : I 0 s) (h1 : ∀ k d t, ds[k]? = some d → I k t → optP (g d t) fun t' => SQ (b t') (I (k + 1)) R X) (h2 : ∀ t, I ds.length t → N t) : LQ ds s g b N R X :=
  ⟨(forL_inv ds I s h0 fun k d t e i => by
    obtain ⟨t', e, q⟩ := optP_def.mp (h1 k d t e i)
    exact ⟨t', e, q.run⟩).imp h2 (fun _ _ z => z) fun _ _ z => z⟩
@[simp ↓] theorem LQ_nil {g : GC} {b : SC} : LQ [] s g b N R X ↔ N s := by simp [LQ_def, forL]
theorem LQ_cons {g : GC} {b : SC} {d : D} {ds : List D} (h : optP (g d s) fun t => SQ (b t) (fun t => LQ ds t g b N R X) R X) : LQ (d :: ds) s g b N R X := by
  obtain ⟨t, e, q⟩ := optP_def.mp h
  refine ⟨?_⟩
  unfold forL
  rw [e]
  have q := q.run
  cases z : b t with
  | nx u => rw [z] at q; simp only [z]; exact (SP_nx.mp q).run
  | rt r u => rw [z] at q; simp only [z]; exact q
  | exn x u => rw [z] at q; simp only [z]; exact q
  | bk u => rw [z] at q; exact q.elim
  | ct u => rw [z] at q; exact q.elim
  | stuck => rw [z] at q; exact q.elim
@[simp ↓] theorem optP_gSlot {i : Nat} {d : D} {P : AS → Prop} : optP (gSlot i d s) P ↔ letS (s.set i (some (.fz d))) P := by simp [optP_def, letS_def, gSlot]
/-! comprehensions -/
@[simp ↓] theorem OQ_iLc {vs : List Nat} {c : IL} {g : GC} {tt : IB} {te : IC} : OQ (iLc vs c g tt te s) QL X ↔ OQ (c s) (fun ds t => letS (wipeA t vs) fun u => CQ ds [] u vs g tt te (fun acc w => letS (restoreA t w vs) (QL acc)) X) X := by
  simp [OQ_def, CQ_def, letS_def, iLc]
@[simp ↓] theorem CQ_nil {acc : List D} {vs : List Nat} {g : GC} {tt : IB} {te : IC} : CQ [] acc s vs g tt te QL X ↔ QL acc s := by simp [CQ_def, compGo]
theorem CQ_cons {d : D} {ds acc : List D} {vs : List Nat} {g : GC} {tt : IB} {te : IC} (h : optP (g d s) fun t => OQ (tt t) (fun b t => if b = true then OQ (te t) (fun x t => acc.length < 16777216 ∧ letS (wipeA t vs) fun t => CQ ds (acc ++ [x]) t vs g tt te QL X) (fun _ _ => False) else letS (wipeA t vs) fun t => CQ ds acc t vs g tt te QL X) (fun _ _ => False)) : CQ (d :: ds) acc s vs g tt te QL X := by
  obtain ⟨t, e, q⟩ := optP_def.mp h
  refine ⟨?_⟩
  unfold compGo
  rw [e]
  have q := q.run
  simp only
  cases z : tt t with
  | ok b u =>
    rw [z] at q
    simp only [OP_ok] at q
    cases b with
    | true =>
      simp only [if_true] at q
      have q := q.run
      simp only
      cases z2 : te u with
      | ok x w =>
        rw [z2] at q
        simp only [OP_ok] at q
        obtain ⟨q1, q2⟩ := q
        simp only [if_pos q1]
        exact q2.run.run
      | exn x w => rw [z2] at q; exact q.elim
      | stuck => rw [z2] at q; exact q.elim
    | false =>
      simp only [Bool.false_eq_true, if_false] at q
      exact q.run.run
  | exn x w => rw [z] at q; exact q.elim
  | stuck => rw [z] at q; exact q.elim
/-- by an invariant: what has been made of the first data -/
theorem CQ_inv {vs : List Nat} {g : GC} {tt : IB} {te : IC} (I : Nat → List D → AS → Prop) : ∀ {ds acc : List D} {s : AS} (n : Nat), I n acc s → acc.length + ds.length ≤ 16777216 →
    (∀ k d a t, ds[k]? = some d → a.length < 16777216 → I (n + k) a t → optP (g d t) fun t => OQ (tt t) (fun b t => if b = true then OQ (te t) (fun x t => letS (wipeA t vs) (I (n + k + 1) (a ++ [x]))) (fun _ _ => False) else letS (wipeA t vs) (I (n + k + 1) a)) (fun _ _ => False)) →
    (∀ a t, I (n + ds.length) a t → QL a t) → CQ ds acc s vs g tt te QL X
  | [], acc, s, n, h0, hl, h1, h2 => CQ_nil.mpr (h2 acc s h0)
  | d :: ds, acc, s, n, h0, hl, h1, h2 => by
    refine CQ_cons ?_
    have hl' : acc.length < 16777216 := by simp at hl; omega
    obtain ⟨t, e, q⟩ := optP_def.mp (h1 0 d acc s rfl hl' h0)
    rw [e]
    have hr : ∀ (a : List D) (t : AS), a.length ≤ acc.length + 1 → I (n + 1) a t → CQ ds a t vs g tt te QL X := fun a t ha i => CQ_inv I (n + 1) i (by simp at hl; omega) (fun k d' a' t' e' hl2 i' => by
      have := h1 (k + 1) d' a' t' e' hl2
      rw [show n + (k + 1) = n + 1 + k by omega] at this
      exact this i') fun a t i => h2 a t (by rw [List.length_cons, show n + (ds.length + 1) = n + 1 + ds.length by omega]; exact i)
    refine optP_some.mpr (q.imp (fun b u q => ?_) fun _ _ z => z)
    cases b with
    | true => exact OQ.imp q (fun x w q => ⟨hl', ⟨hr _ _ (by simp) q.run⟩⟩) fun _ _ z => z
    | false => exact ⟨hr _ _ (by omega) q.run⟩
/-- each datum on its own, all kept -/
theorem CQ_map {k : Nat} {te : IC} (f : D → D) {ds acc : List D} (hl : acc.length + ds.length ≤ 16777216) (h : ∀ d ∈ ds, letS (s.set k (some (.fz d))) fun t => OQ (te t) (fun x w => x = f d ∧ w.set k none = s) (fun _ _ => False)) (hq : QL (acc ++ ds.map f) s) : CQ ds acc s [k] (gSlot k) (fun ŝ => .ok true ŝ) te QL X := by
  refine CQ_inv (I := fun n a t => a = acc ++ (ds.take n).map f ∧ t = s) 0 ⟨by simp, rfl⟩ hl (fun n d a t e hl2 ⟨h1, h2⟩ => ?_) fun a t ⟨h1, h2⟩ => ?_
  · subst h1; subst h2
    refine optP_some.mpr (OQ_ok.mpr ?_)
    rw [if_pos rfl]
    refine ((h d (List.mem_of_getElem? e)).run).imp (fun x w ⟨e1, e2⟩ => ⟨?_, e2⟩) fun _ _ z => z
    simp only [e1, Nat.zero_add]
    rw [List.take_add_one, e]
    simp
  · subst h1; subst h2
    rw [Nat.zero_add, List.take_length]
    exact hq
theorem CQ_filter {k : Nat} {tt : IB} {te : IC} (p : D → Bool) (f : D → D) {ds acc : List D} (hl : acc.length + ds.length ≤ 16777216) (h : ∀ d ∈ ds, letS (s.set k (some (.fz d))) fun t => OQ (tt t) (fun b w => b = p d ∧ if b = true then OQ (te w) (fun x w => x = f d ∧ w.set k none = s) (fun _ _ => False) else w.set k none = s) (fun _ _ => False)) (hq : QL (acc ++ (ds.filter p).map f) s) : CQ ds acc s [k] (gSlot k) tt te QL X := by
  refine CQ_inv (I := fun n a t => a = acc ++ ((ds.take n).filter p).map f ∧ t = s) 0 ⟨by simp, rfl⟩ hl (fun n d a t e hl2 ⟨h1, h2⟩ => ?_) fun a t ⟨h1, h2⟩ => ?_
  · subst h1; subst h2
    refine optP_some.mpr ?_
    refine ((h d (List.mem_of_getElem? e)).run).imp (fun b w ⟨e1, e2⟩ => ?_) fun _ _ z => z
    subst e1
    cases hp : p d with
    | true =>
      rw [hp] at e2
      rw [if_pos rfl] at e2 ⊢
      refine e2.imp (fun x w ⟨e1, e2⟩ => ⟨?_, e2⟩) fun _ _ z => z
      simp only [e1, Nat.zero_add]
      rw [List.take_add_one, e]
      simp [hp]
    | false =>
      rw [hp] at e2
      rw [if_neg Bool.false_ne_true] at e2 ⊢
      refine ⟨?_, e2⟩
      simp only [Nat.zero_add]
      rw [List.take_add_one, e]
      simp [hp]
  · subst h1; subst h2
    rw [Nat.zero_add, List.take_length]
    exact hq
theorem FQ_run {n : Nat} {ios : List Nat} {b : SC} {ss : List Slot} {R : Ret → List Slot → Prop} {X : Exn → List Slot → Prop} :
    FQ (runB n ios b ss) R X ↔ letS (ss.map some ++ List.replicate (n - ss.length) none) fun s => SQ (b s) (fun s => outP s ios fun o => R (.fz .non) o) (fun r s => outP s ios fun o => R r o) (fun x s => outP s ios fun o => X x o) := by
  simp only [FQ_def, letS_def, SQ_def, outP_def, FP_run]
end
/-! operations -/
@[simp ↓] theorem oAdd_int {i j : Int} : oAdd (.int i) (.int j) = some (.int (i + j)) := rfl
@[simp ↓] theorem oAddI_int {i j : Int} : oAddI (.int i) (.int j) = some (.int (i + j)) := rfl
@[simp ↓] theorem oSub_int {i j : Int} : oSub (.int i) (.int j) = some (.int (i - j)) := rfl
@[simp ↓] theorem oInt_int {i : Int} : oInt [.int i] = some (.int i) := rfl
@[simp ↓] theorem oNeg_int {i : Int} : oNeg (.int i) = some (.int (-i)) := rfl
@[simp ↓] theorem oI_int {g : Int → Int → Bool} {i j : Int} : oI g (.int i) (.int j) = some (.bl (g i j)) := rfl
@[simp ↓] theorem oS_str {g : List Nat → List Nat → Bool} {i j : Str} : oS g (.str i) (.str j) = some (.bl (g i.cps.toList j.cps.toList)) := rfl
@[simp ↓] theorem oLen_lst {xs : List D} : oLen [.lst xs] = some (.int xs.length) := rfl
@[simp ↓] theorem oLen_scr {xs : List D} : oLen [.scr xs] = some (.int xs.length) := rfl
@[simp ↓] theorem oLen_tup {xs : List D} : oLen [.tup xs] = some (.int xs.length) := rfl
@[simp ↓] theorem oTuple_lst {xs : List D} : oTuple [.lst xs] = some (.tup xs) := rfl
@[simp ↓] theorem oStr_str {z : Str} : oStr [.str z] = some (.str z) := rfl
@[simp ↓] theorem oList_lst {xs : List D} : oList [.lst xs] = some xs := rfl
theorem oLen_str {z : Str} (h : z.length ≤ 16777216) : oLen [.str z] = some (.int z.length) := if_pos h
theorem oEq_int {i j : Int} : oEq (.int i) (.int j) = some (.bl (decide (i = j))) := by
  simp [oEq, toPy, PyData.depth, PyData.eqv]
  by_cases h : i = j <;> simp [h]
theorem oNe_int {i j : Int} : oNe (.int i) (.int j) = some (.bl (!decide (i = j))) := by
  simp [oNe, toPy, PyData.depth, PyData.eqv]
  by_cases h : i = j <;> simp [h]
theorem oEq_str {i j : Str} (h1 : PyData.strOk i = true) (h2 : PyData.strOk j = true) : oEq (.str i) (.str j) = some (.bl (decide (i = j))) := by
  simp [oEq, toPy, PyData.depth, PyData.eqv, h1, h2]
  by_cases h : i = j <;> simp [h]
theorem oNe_str {i j : Str} (h1 : PyData.strOk i = true) (h2 : PyData.strOk j = true) : oNe (.str i) (.str j) = some (.bl (!decide (i = j))) := by
  simp [oNe, toPy, PyData.depth, PyData.eqv, h1, h2]
  by_cases h : i = j <;> simp [h]
@[simp] theorem isiB_non {T : String} : isiB T .non = some (subTy T "NoneType") := rfl
@[simp] theorem isiB_bl {T : String} {b : Bool} : isiB T (.bl b) = some (subTy T "bool") := rfl
@[simp] theorem isiB_int {T : String} {b : Int} : isiB T (.int b) = some (subTy T "int") := rfl
@[simp] theorem isiB_str {T : String} {b : Str} : isiB T (.str b) = some (subTy T "str") := rfl
@[simp] theorem isiB_lst {T : String} {b : List D} : isiB T (.lst b) = some (subTy T "list") := rfl
@[simp] theorem isiB_scr {T : String} {b : List D} : isiB T (.scr b) = some (subTy T "list") := rfl
@[simp] theorem isiB_tup {T : String} {b : List D} : isiB T (.tup b) = some (subTy T "tuple") := rfl
@[simp] theorem oIsN_non : oIsN .non = true := rfl
@[simp] theorem oIsN_bl {b : Bool} : oIsN (.bl b) = false := rfl
@[simp] theorem oIsN_int {b : Int} : oIsN (.int b) = false := rfl
@[simp] theorem oIsN_str {b : Str} : oIsN (.str b) = false := rfl
@[simp] theorem oIsN_lst {b : List D} : oIsN (.lst b) = false := rfl
@[simp] theorem oIsN_tup {b : List D} : oIsN (.tup b) = false := rfl
end FL

set_option maxHeartbeats 0
namespace K31
open PySem PySem.Spec PyProof.Rows L2 FL
abbrev NoX {α : Type} : Exn → α → Prop := fun _ _ => False
@[simp] theorem oInt_int {i : Int} : oInt [.int i] = some (.int i) := rfl
@[simp] theorem oAdd_int {i j : Int} : oAdd (.int i) (.int j) = some (.int (i + j)) := rfl
@[simp] theorem oSub_int {i j : Int} : oSub (.int i) (.int j) = some (.int (i - j)) := rfl
theorem mulOkR {i j : Int} (h : -(2 ^ 64) < j ∧ j < 2 ^ 64) : mulOk i j = true := decide_eq_true (.inr (.inl h))
theorem mulOkL {i j : Int} (h : -(2 ^ 64) < i ∧ i < 2 ^ 64) : mulOk i j = true := decide_eq_true (.inl h)
/-- a number computed, of which p is known -/
def NumP (c : IC) (s : AS) (p : Int → Prop) : Prop := ∃ k, c s = .ok (.int k) s ∧ p k
section
variable {a b : IC} {s : AS} {p q r : Int → Prop} {k : Int}
theorem num_imp (h : NumP a s p) (i : ∀ k, p k → q k) : NumP a s q := by
  obtain ⟨k, e, h⟩ := h
  exact ⟨k, e, i k h⟩
theorem num_c : NumP (iC (.int k)) s (k = ·) := ⟨k, rfl, rfl⟩
theorem num_v {i : Nat} (h : FL.get s i = some (.fz (.int k))) : NumP (iVar i) s (k = ·) := ⟨k, by simp [iVar, pVar, h, Res.out], rfl⟩
theorem num_add (h : NumP a s p) (g : NumP b s q) : NumP (iBin oAdd a b) s (fun k => ∃ i j, p i ∧ q j ∧ k = i + j) := by
  obtain ⟨i, e1, h1⟩ := h
  obtain ⟨j, e2, h2⟩ := g
  exact ⟨i + j, by simp [iBin, e1, e2, Out.bind, Res.opt, Res.out], i, j, h1, h2, rfl⟩
theorem num_sub (h : NumP a s p) (g : NumP b s q) : NumP (iBin oSub a b) s (fun k => ∃ i j, p i ∧ q j ∧ k = i - j) := by
  obtain ⟨i, e1, h1⟩ := h
  obtain ⟨j, e2, h2⟩ := g
  exact ⟨i - j, by simp [iBin, e1, e2, Out.bind, Res.opt, Res.out], i, j, h1, h2, rfl⟩
theorem num_mulR (h : NumP a s p) (g : NumP b s q) (w : ∀ j, q j → -18446744073709551616 < j ∧ j < 18446744073709551616) : NumP (iBin oMul a b) s (fun k => ∃ i j, p i ∧ q j ∧ k = i * j) := by
  obtain ⟨i, e1, h1⟩ := h
  obtain ⟨j, e2, h2⟩ := g
  have m : mulOk i j = true := mulOkR (w j h2)
  exact ⟨i * j, by simp [iBin, e1, e2, Out.bind, Res.opt, Res.out, oMul, m], i, j, h1, h2, rfl⟩
theorem num_mod (h : NumP a s p) (k : Int) (g : 0 < k := by decide) : NumP (iBin oMod a (iC (.int k))) s (fun z => ∃ i, p i ∧ z = i % k) := by
  obtain ⟨i, e1, h1⟩ := h
  exact ⟨i % k, by simp [iBin, e1, Out.bind, Res.opt, Res.out, oMod, g, iC, pC], i, h1, rfl⟩
theorem num_div (h : NumP a s p) (k : Int) (g : 0 < k ∧ k < 18446744073709551616 := by decide) : NumP (iBin oDiv a (iC (.int k))) s (fun z => ∃ i, p i ∧ z = i / k) := by
  obtain ⟨i, e1, h1⟩ := h
  have g2 : k < 2 ^ 1200 := Int.lt_trans g.2 (by decide)
  have e : oDiv (.int i) (.int k) = some (.int (i / k)) := if_pos ⟨g.1, g2⟩
  exact ⟨i / k, by simp only [iBin, e1, Out.bind, Res.opt, Res.out, iC, pC, e], i, h1, rfl⟩
theorem num_int (h : NumP a s p) : NumP (iFn oInt (iCons a iNil)) s p := by
  obtain ⟨i, e1, h1⟩ := h
  exact ⟨i, by simp [iFn, iCons, iNil, e1, Out.bind, Res.opt, Res.out], h1⟩
theorem set_num {i : Nat} {N : AS → Prop} {R : Ret → AS → Prop} {X : Exn → AS → Prop} (h : NumP a s p) (k : ∀ z, p z → N (s.set i (some (.fz (.int z))))) : SP (sSet i a s) N R X := by
  obtain ⟨z, e, h⟩ := h
  simp only [SP_set, e, OP_ok]
  exact k z h
theorem ret_num {N : AS → Prop} {R : Ret → AS → Prop} {X : Exn → AS → Prop} (h : NumP a s p) (k : ∀ z, p z → R (.fz (.int z)) s) : SP (sRet a s) N R X := by
  obtain ⟨z, e, h⟩ := h
  simp only [SP_ret, e, OP_ok]
  exact k z h
end
theorem num_at {i : Nat} {a : IC} {s : AS} {xs : List D} {p : Int → Prop} {q : Int → Prop} (h : FL.get s i = some (.ow xs)) (ha : NumP a s p) (g : ∀ j, p j → ∃ k, oIx (.lst xs) (.int j) = some (.int k) ∧ q k) : NumP (iIxO i a) s q := by
  obtain ⟨j, e, hj⟩ := ha
  obtain ⟨k, e2, hk⟩ := g j hj
  exact ⟨k, by simp only [iIxO, h, e, Out.bind, e2, Res.opt, Res.out], hk⟩
theorem num_eq {a : IC} {s : AS} {k : Int} (h : a s = .ok (.int k) s) : NumP a s (k = ·) := ⟨k, h, rfl⟩
theorem num_pow {x y k : Int} {s : AS} (h : oPow (.int x) (.int y) = some (.int k)) : NumP (iBin oPow (iC (.int x)) (iC (.int y))) s (k = ·) := ⟨k, by simp only [iBin, iC, pC, Res.out, Out.bind, h, Res.opt], rfl⟩
/-- a test told -/
def BP (t : IB) (s : AS) (p : Bool → Prop) : Prop := ∃ b, t s = .ok b s ∧ p b
section
variable {a b : IC} {s : AS} {p q : Int → Prop} {t u : IB} {P P' : Bool → Prop}
theorem bp_oI {g : Int → Int → Bool} (h : NumP a s p) (k : NumP b s q) : BP (iBl (iBin (oI g) a b)) s (fun z => ∃ i j, p i ∧ q j ∧ z = g i j) := by
  obtain ⟨i, e1, h1⟩ := h
  obtain ⟨j, e2, h2⟩ := k
  exact ⟨g i j, by simp only [iBl, iBin, e1, e2, Out.bind, Res.opt, Res.out, oI], i, j, h1, h2, rfl⟩
theorem bp_and (h : BP t s P) (k : BP u s P') : BP (ibAnd t u) s (fun z => ∃ x y, P x ∧ P' y ∧ z = (x && y)) := by
  obtain ⟨x, e1, h1⟩ := h
  obtain ⟨y, e2, h2⟩ := k
  refine ⟨x && y, ?_, x, y, h1, h2, rfl⟩
  cases x <;> simp [ibAnd, e1, e2, Out.bind]
theorem if_bp {c1 c2 : SC} {N : AS → Prop} {R : Ret → AS → Prop} {X : Exn → AS → Prop} (h : BP t s P) (h1 : P true → SP (c1 s) N R X) (h2 : P false → SP (c2 s) N R X) : SP (sIf t c1 c2 s) N R X := by
  obtain ⟨b, e, hb⟩ := h
  simp only [SP_if, e, OP_ok]
  cases b
  · exact h2 hb
  · exact h1 hb
theorem if1_bp {c1 : SC} {N : AS → Prop} {R : Ret → AS → Prop} {X : Exn → AS → Prop} (h : BP t s P) (h1 : P true → SP (c1 s) N R X) (h2 : P false → N s) : SP (sIf t c1 sSkip s) N R X := if_bp h h1 h2
theorem setAt_num {i : Nat} {J : Int} (j : Nat) {xs : List D} {N : AS → Prop} {R : Ret → AS → Prop} {X : Exn → AS → Prop} (hs : FL.get s i = some (.ow xs)) (h : NumP a s p) (k : ∀ z, p z → N (s.set i (some (.ow (xs.set j (.int z)))))) (hJ : J = j := by rfl) (hj : j < xs.length := by simp [StL]) : SP (sSetAt i a (iC (.int J)) s) N R X := by
  subst hJ
  obtain ⟨z, e, hz⟩ := h
  have g : gSetAt xs [.int j, .int z] = some (.non, xs.set j (.int z)) := by
    simp [gSetAt, ixN, hj]
  simp only [sSetAt, SP_st, e, OP_ok, hs, iC, pC, Res.out, g, SP_nx]
  exact k z hz
end
abbrev Any : Int → Prop := fun _ => True
theorem num_any {a : IC} {s : AS} {p : Int → Prop} (h : NumP a s p) : NumP a s Any := num_imp h fun _ _ => trivial
theorem num_modB {a : IC} {s : AS} {p : Int → Prop} (h : NumP a s p) (k : Int) (g : 0 < k := by decide) : NumP (iBin oMod a (iC (.int k))) s (fun z => 0 ≤ z ∧ z < k) := num_imp (num_mod h k g) fun z ⟨i, _, e⟩ => by
  subst e
  exact ⟨Int.emod_nonneg _ (by omega), Int.emod_lt_of_pos _ g⟩
theorem mixed_ok (a b : Int) : FP (m__law_mixed [.fz (.int a), .fz (.int b)]) (fun r _ => ∃ k, r = .fz (.int k)) NoX := by
  unfold m__law_mixed
  rw [FP_run]
  unfold b__law_mixed
  simp only [SP_seq]
  refine set_num (num_int (num_v rfl)) fun v2 _ => set_num (num_int (num_v rfl)) fun v3 _ => ?_
  refine set_num (num_modB (num_add (num_add (num_mulR (num_mod (num_v rfl) _) num_c (by rintro _ rfl; decide)) (num_mulR (num_v rfl) num_c (by rintro _ rfl; decide))) num_c) _) fun v4 h4 => ?_
  refine set_num (num_modB (num_add (num_add (num_mulR (num_v rfl) (num_add (num_modB (num_v rfl) _) num_c) (by rintro _ ⟨i, j, h, rfl, rfl⟩; omega)) (num_mod (num_div (num_v rfl) _) _)) num_c) _) fun v4 h4 => ?_
  refine set_num (num_modB (num_add (num_add (num_mulR (num_v rfl) (num_add (num_div (num_v rfl) _) num_c) (by rintro _ ⟨i, j, ⟨_, rfl, rfl⟩, rfl, rfl⟩; omega)) (num_mulR (num_v rfl) num_c (by rintro _ rfl; decide))) num_c) _) fun v5 h5 => ?_
  refine set_num (num_modB (num_add (num_mulR (num_v rfl) (num_add (num_div (num_v rfl) _) num_c) (by rintro _ ⟨i, j, ⟨_, rfl, rfl⟩, rfl, rfl⟩; omega)) (num_v rfl)) _) fun v6 h6 => ?_
  exact ret_num (num_add (num_mulR (num_v rfl) num_c (by rintro _ rfl; decide)) (num_v rfl)) fun z _ => ⟨_, rfl, z, rfl⟩
/-- the store of draws -/
def StL (cs : List Int) (i w left turn seed : Int) : List D := [.lst (cs.map .int), .int i, .int w, .int left, .int turn, .int seed]
def Sto (l : List D) : Prop := ∃ (cs : List Int) (i w left turn seed : Int), l = StL cs i w left turn seed ∧ 0 ≤ i ∧ i ≤ cs.length ∧ (0 < left → 0 < i)
theorem cell_ok {cs : List Int} {i : Int} (h : 0 ≤ i ∧ i < cs.length) : ∃ k, oIx (.lst (cs.map .int)) (.int i) = some (.int k) := by
  obtain ⟨n, rfl⟩ : ∃ n : Nat, i = n := ⟨i.toNat, by omega⟩
  have hn : n < cs.length := by omega
  exact ⟨cs[n], by simp [oIx, atI, ixN, hn]⟩
theorem take_ok {l : List D} (S : Sto l) (n : Int) (hN : n < 18446744073709551616) : FP (m__law_take [.ow l, .fz (.int n)]) (fun r o => ∃ k l', r = .fz (.int k) ∧ o = [.ow l'] ∧ Sto l' ∧ 0 ≤ k ∧ (k < n ∨ n ≤ 1 ∧ k = 0)) NoX := by
  obtain ⟨cs, i, w, left, turn, seed, rfl, hi0, hi1, hleft⟩ := S
  unfold m__law_take
  rw [FP_run]
  unfold b__law_take
  simp only [SP_seq]
  refine set_num (num_int (num_v rfl)) fun v2 hv => ?_
  subst hv
  refine if1_bp (bp_oI (num_v rfl) num_c) (fun h => ?_) fun h => ?_
  · obtain ⟨_, _, rfl, rfl, h⟩ := h
    refine ret_num num_c fun z hz => ⟨_, rfl, 0, _, by rw [← hz], rfl, ⟨cs, i, w, left, turn, seed, rfl, hi0, hi1, hleft⟩, by omega, .inr ⟨by simpa using h.symm, rfl⟩⟩
  obtain ⟨_, _, rfl, rfl, h⟩ := h
  have hn : 1 < n := by simpa using h.symm
  refine setAt_num 4 rfl (num_add (num_eq (k := turn) rfl) num_c) fun t _ => ?_
  have S1 : Sto (StL cs i w left t seed) := ⟨cs, i, w, left, t, seed, rfl, hi0, hi1, hleft⟩
  refine SP.imp (N := fun s => ∃ l o, Sto l ∧ s = [some (.ow l), some (.fz (.int n)), some (.fz (.int n)), o, none]) ?_ (fun s ⟨l, o, S, e⟩ => ?_) (fun _ _ z => z) fun _ _ z => z
  · refine if1_bp (bp_and (bp_oI (num_eq (k := w) rfl) num_c) (bp_and (bp_oI (num_eq (k := left) rfl) num_c) (bp_oI (num_eq (k := i) rfl) (num_eq (k := (cs.map D.int).length) rfl)))) (fun h => ?_) fun h => ⟨_, none, S1, rfl⟩
    obtain ⟨_, _, _, ⟨_, _, _, ⟨_, _, rfl, rfl, rfl⟩, rfl⟩, h⟩ := h
    have hi : i < cs.length := by
      simp at h
      omega
    obtain ⟨c, hc⟩ := cell_ok (cs := cs) (i := i) ⟨hi0, hi⟩
    have ec : iBin oIx (iIxO 0 (iC (.int 0))) (iIxO 0 (iC (.int 1))) [some (.ow (StL cs i w left t seed)), some (.fz (.int n)), some (.fz (.int n)), none, none] = .ok (.int c) [some (.ow (StL cs i w left t seed)), some (.fz (.int n)), some (.fz (.int n)), none, none] := by
      show (Res.opt (oIx (.lst (cs.map .int)) (.int i))).out _ = _
      rw [hc]
      rfl
    simp only [SP_seq]
    refine set_num (num_int (num_eq ec)) fun c' _ => ?_
    refine setAt_num 1 rfl (num_add (num_eq (k := i) rfl) num_c) fun i' hi' => ?_
    obtain ⟨_, _, rfl, rfl, rfl⟩ := hi'
    refine if_bp (bp_oI (num_v rfl) (num_pow (k := 1000000000000000000) (by simp [oPow]))) (fun _ => ?_) fun _ => ?_
    · exact setAt_num 2 rfl (num_v rfl) fun z _ => ⟨_, _, ⟨cs, i + 1, z, left, t, seed, rfl, by omega, by omega, by omega⟩, rfl⟩
    · exact setAt_num 3 rfl num_c fun z _ => ⟨_, _, ⟨cs, i + 1, w, z, t, seed, rfl, by omega, by omega, by omega⟩, rfl⟩
  subst e
  obtain ⟨cs, i, w, left, t, seed, rfl, hi0, hi1, hleft⟩ := S
  have modr : ∀ {a : IC} {s : AS}, FL.get s 2 = some (.fz (.int n)) → NumP a s Any → NumP (iBin oMod a (iVar 2)) s fun z => 0 ≤ z ∧ z < n := fun hs ⟨k, e, _⟩ => by
    refine ⟨k % n, ?_, Int.emod_nonneg _ (by omega), Int.emod_lt_of_pos _ (by omega)⟩
    simp [iBin, e, Out.bind, iVar, pVar, hs, Res.out, Res.opt, oMod, show 0 < n by omega]
  have mix : ∀ {a b : IC} {s : AS}, NumP a s Any → NumP b s Any → NumP (iFn oInt (iCons (iCallA 2 m__law_mixed (iCons a (iCons b iNil))) iNil)) s Any := fun ⟨x, e1, _⟩ ⟨y, e2, _⟩ => by
    have m := mixed_ok x y
    cases q : m__law_mixed [.fz (.int x), .fz (.int y)] with
    | rt r o =>
      rw [q] at m
      obtain ⟨k, rfl⟩ := m
      exact ⟨k, by simp [iFn, iCons, iNil, e1, e2, Out.bind, iCallA, pCallR, q, Res.out, Res.opt], trivial⟩
    | exn x o => rw [q] at m; exact m.elim
    | stuck => rw [q] at m; exact m.elim
  refine if1_bp (bp_oI (num_eq (k := w) rfl) num_c) (fun _ => ?_) fun _ => ?_
  · simp only [SP_seq]
    refine set_num (num_int (num_eq (k := w) rfl)) fun w' hw' => ?_
    subst hw'
    have dv : NumP (iBin oDiv (iVar 4) (iVar 2)) [some (.ow (StL cs i w left t seed)), some (.fz (.int n)), some (.fz (.int n)), o, some (.fz (.int w))] Any := by
      have e : oDiv (.int w) (.int n) = some (.int (w / n)) := if_pos ⟨by omega, Int.lt_trans hN (by decide)⟩
      exact ⟨w / n, by show (Res.opt (oDiv (.int w) (.int n))).out _ = _; rw [e]; rfl, trivial⟩
    refine setAt_num 2 rfl dv fun z _ => ?_
    exact ret_num (modr rfl (num_any (num_v rfl))) fun z hz => ⟨_, rfl, z, _, rfl, rfl, ⟨cs, i, _, left, t, seed, rfl, hi0, hi1, hleft⟩, hz.1, .inl hz.2⟩
  refine if1_bp (bp_oI (num_eq (k := left) rfl) num_c) (fun h => ?_) fun _ => ?_
  · obtain ⟨_, _, rfl, rfl, h⟩ := h
    have hl : 0 < left := by simpa using h.symm
    simp only [SP_seq]
    refine setAt_num 3 rfl (num_sub (num_eq (k := left) rfl) num_c) fun z hz => ?_
    obtain ⟨_, _, rfl, rfl, rfl⟩ := hz
    obtain ⟨c, hc⟩ := cell_ok (cs := cs) (i := i - 1) ⟨by have := hleft hl; omega, by omega⟩
    have ec : iBin oIx (iIxO 0 (iC (.int 0))) (iBin oSub (iIxO 0 (iC (.int 1))) (iC (.int 1))) [some (.ow (StL cs i w (left - 1) t seed)), some (.fz (.int n)), some (.fz (.int n)), o, none] = .ok (.int c) [some (.ow (StL cs i w (left - 1) t seed)), some (.fz (.int n)), some (.fz (.int n)), o, none] := by
      show (Res.opt (oIx (.lst (cs.map .int)) (.int (i - 1)))).out _ = _
      rw [hc]
      rfl
    exact ret_num (modr rfl (mix (num_any (num_eq ec)) (num_any (num_eq (k := t) rfl)))) fun z hz => ⟨_, rfl, z, _, rfl, rfl, ⟨cs, i, w, left - 1, t, seed, rfl, hi0, hi1, fun _ => hleft hl⟩, hz.1, .inl hz.2⟩
  exact ret_num (modr rfl (mix (num_any (num_eq (k := seed) rfl)) (num_any (num_eq (k := t) rfl)))) fun z hz => ⟨_, rfl, z, _, rfl, rfl, ⟨cs, i, w, left, t, seed, rfl, hi0, hi1, hleft⟩, hz.1, .inl hz.2⟩
/-- a draw: the store at slot i goes on, of the value P is known -/
def Dr (i : Nat) (c : IC) (s : AS) (P : D → Prop) : Prop := ∃ d l, c s = .ok d (s.set i (some (.ow l))) ∧ Sto l ∧ P d
theorem get_setS {s : AS} {i : Nat} {o : Option Slot} (h : i < s.length) : FL.get (s.set i o) i = o := by simp [FL.get, h]
theorem lt_get {s : AS} {i : Nat} {x : Slot} (h : FL.get s i = some x) : i < s.length := by
  unfold FL.get at h
  cases q : s[i]? with
  | none => rw [q] at h; cases h
  | some o => exact (List.getElem?_eq_some_iff.mp q).1
/-- a call that draws -/
theorem dr_call {i n : Nat} {m : FM} {cs : IL} {s : AS} {l : List D} {ds : List D} {P : D → Prop} (hs : FL.get s i = some (.ow l)) (hc : cs s = .ok ds s) (hn : ds.length + 1 = n)
    (h : FP (m (.ow l :: ds.map .fz)) (fun r o => ∃ l', o = [.ow l'] ∧ Sto l' ∧ P (retD r)) NoX) : Dr i (iCall n m i cs) s P := by
  cases q : m (.ow l :: ds.map .fz) with
  | rt r o =>
    rw [q] at h
    obtain ⟨l', rfl, S, p⟩ := h
    refine ⟨retD r, l', ?_, S, p⟩
    cases r <;> simp only [iCall, hs, hc, Out.bind, iCallR, if_pos hn, q, retD]
  | exn x o => rw [q] at h; exact h.elim
  | stuck => rw [q] at h; exact h.elim
theorem dr_take {i : Nat} {a : IC} {s : AS} {l : List D} {p : Int → Prop} (hs : FL.get s i = some (.ow l)) (S : Sto l) (h : NumP a s p) (hN : ∀ k, p k → k < 18446744073709551616) :
    Dr i (iCall 2 m__law_take i (iCons a iNil)) s fun d => ∃ k n, d = .int k ∧ p n ∧ 0 ≤ k ∧ (k < n ∨ n ≤ 1 ∧ k = 0) := by
  obtain ⟨n, e, hp⟩ := h
  refine dr_call (ds := [.int n]) hs (by simp [iCons, iNil, e, Out.bind]) rfl ?_
  have t := take_ok S n (hN n hp)
  show FP (m__law_take [.ow l, .fz (.int n)]) _ _
  cases q : m__law_take [.ow l, .fz (.int n)] with
  | rt r o =>
    rw [q] at t
    obtain ⟨k, l', rfl, rfl, S', h1, h2⟩ := t
    exact ⟨l', rfl, S', k, n, rfl, hp, h1, h2⟩
  | exn x o => rw [q] at t; exact t.elim
  | stuck => rw [q] at t; exact t.elim
theorem atI_mem {α : Type} {xs : List α} {i : Int} (h : 0 ≤ i ∧ i < xs.length) : ∃ x, atI xs i = some x ∧ x ∈ xs := by
  obtain ⟨n, rfl⟩ : ∃ n : Nat, i = n := ⟨i.toNat, by omega⟩
  have hn : n < xs.length := by omega
  exact ⟨xs[n], by simp [atI, ixN, hn], List.getElem_mem hn⟩
theorem pick_lst {l : List D} (S : Sto l) {xs : List D} (h : xs ≠ []) (hl : xs.length < 16777216) : FP (m__law_pick [.ow l, .fz (.lst xs)]) (fun r o => ∃ l', o = [.ow l'] ∧ Sto l' ∧ ∃ x, r = .fz x ∧ x ∈ xs) NoX := by
  unfold m__law_pick
  rw [FP_run]
  unfold b__law_pick
  obtain ⟨d, l', e, S', k, n, rfl, hn, h0, h1⟩ := dr_take (i := 0) (s := [some (.ow l), some (.fz (.lst xs))]) (a := iFn oLen (iCons (iVar 1) iNil)) rfl S (num_eq (k := xs.length) rfl) (fun k e => by omega)
  subst hn
  have hx : 0 < xs.length := List.length_pos_iff.mpr h
  obtain ⟨x, ex, hm⟩ := atI_mem (xs := xs) (i := k) ⟨h0, by omega⟩
  refine SP_ret.mpr (OP_iBin.mpr ?_)
  show OP (iCall 2 m__law_take 0 _ [some (.ow l), some (.fz (.lst xs))]) _ _
  rw [e]
  exact ⟨x, ex, [.ow l'], rfl, l', rfl, S', x, rfl, hm⟩
theorem pick_str {l : List D} (S : Sto l) {z : Str} (h : 0 < z.length) (hl : z.length < 16777216) : FP (m__law_pick [.ow l, .fz (.str z)]) (fun r o => ∃ l', o = [.ow l'] ∧ Sto l' ∧ ∃ c, r = .fz (.str ⟨#[c]⟩) ∧ c ∈ z.cps.toList) NoX := by
  unfold m__law_pick
  rw [FP_run]
  unfold b__law_pick
  have el : iFn oLen (iCons (iVar 1) iNil) [some (.ow l), some (.fz (.str z))] = .ok (.int z.length) [some (.ow l), some (.fz (.str z))] := by
    show (Res.opt (if z.length ≤ 16777216 then some (D.int z.length) else none)).out _ = _
    rw [if_pos (by omega)]
    rfl
  obtain ⟨d, l', e, S', k, n, rfl, hn, h0, h1⟩ := dr_take (i := 0) (s := [some (.ow l), some (.fz (.str z))]) (a := iFn oLen (iCons (iVar 1) iNil)) rfl S (num_eq (k := z.length) el) (fun k e => by omega)
  subst hn
  obtain ⟨x, ex, hm⟩ := atI_mem (xs := z.cps.toList) (i := k) ⟨h0, by
    have : z.cps.toList.length = z.length := by simp [PySem.Str.length]
    omega⟩
  refine SP_ret.mpr (OP_iBin.mpr ?_)
  show OP (iCall 2 m__law_take 0 _ [some (.ow l), some (.fz (.str z))]) _ _
  rw [e]
  refine ⟨.str ⟨#[x]⟩, ?_, [.ow l'], rfl, l', rfl, S', x, rfl, hm⟩
  show (if z.length ≤ 16777216 then (atI z.cps.toList k).map fun c => D.str ⟨#[c]⟩ else none) = _
  rw [if_pos (by omega), ex]
  rfl
theorem dr_pick {i : Nat} {c : IC} {s : AS} {l xs : List D} (hs : FL.get s i = some (.ow l)) (S : Sto l) (hc : c s = .ok (.lst xs) s) (h : xs ≠ []) (hl : xs.length < 16777216) : Dr i (iCall 2 m__law_pick i (iCons c iNil)) s (· ∈ xs) := by
  refine dr_call (ds := [.lst xs]) hs (by simp [iCons, iNil, hc, Out.bind]) rfl ?_
  have t := pick_lst S h hl
  show FP (m__law_pick [.ow l, .fz (.lst xs)]) _ _
  cases q : m__law_pick [.ow l, .fz (.lst xs)] with
  | rt r o =>
    rw [q] at t
    obtain ⟨l', rfl, S', x, rfl, hx⟩ := t
    exact ⟨l', rfl, S', hx⟩
  | exn x o => rw [q] at t; exact t.elim
  | stuck => rw [q] at t; exact t.elim
theorem dr_pickS {i : Nat} {c : IC} {s : AS} {l : List D} {z : Str} (hs : FL.get s i = some (.ow l)) (S : Sto l) (hc : c s = .ok (.str z) s) (h : 0 < z.length) (hl : z.length < 16777216) : Dr i (iCall 2 m__law_pick i (iCons c iNil)) s (fun d => ∃ c, d = .str ⟨#[c]⟩ ∧ c ∈ z.cps.toList) := by
  refine dr_call (ds := [.str z]) hs (by simp [iCons, iNil, hc, Out.bind]) rfl ?_
  have t := pick_str S h hl
  show FP (m__law_pick [.ow l, .fz (.str z)]) _ _
  cases q : m__law_pick [.ow l, .fz (.str z)] with
  | rt r o =>
    rw [q] at t
    obtain ⟨l', rfl, S', x, rfl, hx⟩ := t
    exact ⟨l', rfl, S', x, rfl, hx⟩
  | exn x o => rw [q] at t; exact t.elim
  | stuck => rw [q] at t; exact t.elim
theorem third_ok {l : List D} (S : Sto l) : FP (m__law_third [.ow l]) (fun r o => ∃ l', o = [.ow l'] ∧ Sto l' ∧ ∃ b, r = .fz (.bl b)) NoX := by
  unfold m__law_third
  rw [FP_run]
  unfold b__law_third
  obtain ⟨d, l', e, S', k, n, rfl, hn, h0, h1⟩ := dr_take (i := 0) (s := [some (.ow l)]) (a := iC (.int 3)) rfl S num_c (fun k e => by omega)
  refine SP_ret.mpr (OP_iBin.mpr ?_)
  show OP (iCall 2 m__law_take 0 _ [some (.ow l)]) _ _
  rw [e]
  exact ⟨_, rfl, [.ow l'], rfl, l', rfl, S', _, rfl⟩
theorem size_ok {l : List D} (S : Sto l) {n : Int} (h0 : 2 ≤ n) (h1 : n < 1000) : FP (m__law_size [.ow l, .fz (.int n)]) (fun r o => ∃ l', o = [.ow l'] ∧ Sto l' ∧ ∃ k, r = .fz (.int k) ∧ 0 ≤ k ∧ k ≤ n) NoX := by
  unfold m__law_size
  rw [FP_run]
  unfold b__law_size
  simp only [SP_seq]
  obtain ⟨d, l', e, S', b, hb⟩ : Dr 0 (iCall 1 m__law_third 0 iNil) [some (.ow l), some (.fz (.int n))] (fun d => ∃ b, d = .bl b) := dr_call (ds := []) rfl rfl rfl (by
    have t := third_ok S
    show FP (m__law_third [.ow l]) _ _
    cases q : m__law_third [.ow l] with
    | rt r o =>
      rw [q] at t
      obtain ⟨l', rfl, S', x, rfl⟩ := t
      exact ⟨l', rfl, S', x, rfl⟩
    | exn x o => rw [q] at t; exact t.elim
    | stuck => rw [q] at t; exact t.elim)
  subst hb
  refine SP_if.mpr (OP_iBl.mpr ?_)
  show OP (iCall 1 m__law_third 0 iNil [some (.ow l), some (.fz (.int n))]) _ _
  rw [e]
  refine ⟨b, rfl, ?_⟩
  cases b
  · rw [if_neg Bool.false_ne_true]
    obtain ⟨d, l2, e, S2, k, _, rfl, ⟨_, _, rfl, rfl, rfl⟩, g0, g1⟩ := dr_take (i := 0) (s := [some (.ow l'), some (.fz (.int n))]) (a := iBin oAdd (iVar 1) (iC (.int 1))) rfl S' (num_add (num_v rfl) num_c) (by rintro _ ⟨_, _, rfl, rfl, rfl⟩; omega)
    refine SP_ret.mpr ?_
    show OP (iCall 2 m__law_take 0 _ [some (.ow l'), some (.fz (.int n))]) _ _
    rw [e]
    exact ⟨[.ow l2], rfl, l2, rfl, S2, k, rfl, g0, by omega⟩
  · rw [if_pos rfl]
    obtain ⟨d, l2, e, S2, hm⟩ := dr_pick (i := 0) (s := [some (.ow l'), some (.fz (.int n))]) (xs := [.int 0, .int 1, .int 2, .int n]) (c := iFz (iLs (iCons (iC (.int 0)) (iCons (iC (.int 1)) (iCons (iC (.int 2)) (iCons (iVar 1) iNil)))))) rfl S' rfl (by simp) (by simp)
    refine SP_ret.mpr (OP_iFn.mpr (OP_iCons.mpr (OP_iVar.mpr ⟨_, rfl, OP_iCons.mpr ?_⟩)))
    show OP (iCall 2 m__law_pick 0 _ [some (.ow l'), some (.fz (.int n))]) _ _
    rw [e]
    simp only [List.mem_cons, List.not_mem_nil, or_false] at hm
    rcases hm with rfl | rfl | rfl | rfl
    all_goals exact ⟨_, rfl, [.ow l2], rfl, l2, rfl, S2, _, rfl, by split <;> omega, by split <;> omega⟩
end K31

set_option maxHeartbeats 0
namespace K31
open PySem PySem.Spec PyProof.Rows L2 FL
inductive All2 {α β : Type} (P : α → β → Prop) : List α → List β → Prop where
  | nil : All2 P [] []
  | cons {a : α} {b : β} {as : List α} {bs : List β} (h : P a b) (t : All2 P as bs) : All2 P (a :: as) (b :: bs)
theorem All2.len {α β : Type} {P : α → β → Prop} {as : List α} {bs : List β} (h : All2 P as bs) : bs.length = as.length := by
  induction h with
  | nil => rfl
  | cons _ _ ih => simp [ih]
theorem All2.all {α β : Type} {P : β → Prop} {as : List α} {bs : List β} (h : All2 (fun _ => P) as bs) : ∀ b ∈ bs, P b := by
  induction h with
  | nil => simp
  | cons h _ ih => simpa using ⟨h, ih⟩
/-- a def that draws -/
abbrev DF (m : FM) (l : List D) (ds : List D) (P : D → Prop) : Prop := FP (m (.ow l :: ds.map .fz)) (fun r o => ∃ l', o = [.ow l'] ∧ Sto l' ∧ P (retD r)) NoX
theorem dr_imp {i : Nat} {c : IC} {s : AS} {P Q : D → Prop} (h : Dr i c s P) (g : ∀ d, P d → Q d) : Dr i c s Q := by
  obtain ⟨d, l, e, S, p⟩ := h
  exact ⟨d, l, e, S, g d p⟩
theorem dr_set {s : AS} {k : Nat} (h : fzO (FL.get s k) = FL.get s k) : s.set k (fzO (FL.get s k)) = s := by
  rw [h]
  apply List.ext_getElem?
  intro j
  by_cases hj : k = j
  · subst hj
    by_cases hk : k < s.length
    · rw [List.getElem?_set_self hk]
      simp [FL.get, List.getElem?_eq_getElem hk]
    · rw [List.getElem?_eq_none (by simpa using Nat.le_of_not_lt hk), List.getElem?_eq_none (by simpa using Nat.le_of_not_lt hk)]
  · rw [List.getElem?_set_ne hj]
theorem go_dr {i k : Nat} {te : IC} {s : AS} {P : D → D → Prop} (hik : i ≠ k) :
    ∀ (ds acc l : List D), Sto l → (∀ d ∈ ds, ∀ l, Sto l → Dr i te ((s.set i (some (.ow l))).set k (some (.fz d))) (P d)) → acc.length + ds.length ≤ 16777216 →
      ∃ xs l', compGo [k] (gSlot k) (fun ŝ => .ok true ŝ) te ds acc ((s.set i (some (.ow l))).set k none) = .ok (acc ++ xs) ((s.set i (some (.ow l'))).set k none) ∧ Sto l' ∧ All2 P ds xs
  | [], acc, l, S, _, _ => ⟨[], l, by simp [compGo], S, .nil⟩
  | d :: ds, acc, l, S, h, hl => by
    obtain ⟨x, l1, e, S1, p⟩ := h d (by simp) l S
    have hl' : acc.length < 16777216 := by simp at hl; omega
    obtain ⟨xs, l2, e2, S2, q⟩ := go_dr (s := s) (P := P) hik ds (acc ++ [x]) l1 S1 (fun d' m => h d' (by simp [m])) (by simp at hl ⊢; omega)
    refine ⟨x :: xs, l2, ?_, S2, .cons p q⟩
    unfold compGo
    simp only [gSlot, List.set_set, e, if_pos hl', wipeA]
    have es : ((((s.set i (some (.ow l))).set k (some (.fz d))).set i (some (.ow l1))).set k none) = ((s.set i (some (.ow l1))).set k none) := by
      rw [List.set_comm _ _ hik.symm, List.set_set, List.set_set]
    rw [es, e2]
    simp
theorem lc_dr {i k : Nat} {c : IL} {te : IC} {s : AS} {l ds : List D} {P : D → D → Prop} (hik : i ≠ k) (hk : fzO (FL.get s k) = FL.get s k) (S : Sto l) (hc : c s = .ok ds (s.set i (some (.ow l)))) (hl : ds.length ≤ 16777216)
    (h : ∀ d ∈ ds, ∀ l, Sto l → Dr i te ((s.set i (some (.ow l))).set k (some (.fz d))) (P d)) :
    ∃ xs l', iLc [k] c (gSlot k) (fun ŝ => .ok true ŝ) te s = .ok xs (s.set i (some (.ow l'))) ∧ Sto l' ∧ All2 P ds xs := by
  obtain ⟨xs, l', e, S', q⟩ := go_dr (s := s) (P := P) hik ds [] l S h (by simpa using hl)
  refine ⟨xs, l', ?_, S', q⟩
  have hk2 : FL.get (s.set i (some (.ow l))) k = FL.get s k := by simp [FL.get, List.getElem?_set_ne hik]
  simp only [iLc, hc, Out.bind, wipeA, e, List.nil_append, restoreA, List.set_set, hk2]
  congr 1
  rw [List.set_comm _ _ hik, dr_set hk]
/-- a call whose arguments draw, too -/
theorem dr_call2 {i n : Nat} {m : FM} {cs : IL} {s : AS} {l0 l ds : List D} {P : D → Prop} (hs : FL.get s i = some (.ow l0)) (hc : cs s = .ok ds (s.set i (some (.ow l)))) (hn : ds.length + 1 = n) (h : DF m l ds P) : Dr i (iCall n m i cs) s P := by
  have g : FL.get (s.set i (some (.ow l))) i = some (.ow l) := get_setS (lt_get hs)
  cases q : m (.ow l :: ds.map .fz) with
  | rt r o =>
    unfold DF at h
    rw [q] at h
    obtain ⟨l', rfl, S, p⟩ := h
    refine ⟨retD r, l', ?_, S, p⟩
    cases r <;> simp only [iCall, hs, hc, Out.bind, iCallR, g, if_pos hn, q, retD, List.set_set]
  | exn x o => unfold DF at h; rw [q] at h; exact h.elim
  | stuck => unfold DF at h; rw [q] at h; exact h.elim
theorem pick_df {l : List D} (S : Sto l) {xs : List D} (h : xs ≠ []) (hl : xs.length < 16777216) : DF m__law_pick l [.lst xs] (· ∈ xs) := by
  have t := pick_lst S h hl
  show FP (m__law_pick [.ow l, .fz (.lst xs)]) _ _
  cases q : m__law_pick [.ow l, .fz (.lst xs)] with
  | rt r o =>
    rw [q] at t
    obtain ⟨l', rfl, S', x, rfl, hx⟩ := t
    exact ⟨l', rfl, S', hx⟩
  | exn x o => rw [q] at t; exact t.elim
  | stuck => rw [q] at t; exact t.elim
theorem word_ok {l : List D} (S : Sto l) : DF m__law_word l [] (fun d => d ∈ [D.str "all", .str "roads", .str "trees"]) := by
  unfold m__law_word DF
  rw [FP_run]
  unfold b__law_word
  obtain ⟨d, l2, e, S2, hm⟩ := dr_pick (i := 0) (s := [some (.ow l)]) (xs := [.str "all", .str "roads", .str "trees"]) (c := iFz (iLs (iCons (iC (.str "all")) (iCons (iC (.str "roads")) (iCons (iC (.str "trees")) iNil))))) rfl S rfl (by simp) (by simp)
  refine SP_ret.mpr ?_
  show OP (iCall 2 m__law_pick 0 _ [some (.ow l)]) _ _
  rw [e]
  exact ⟨[.ow l2], rfl, l2, rfl, S2, hm⟩
/-- a number of an order -/
def NumO (d : D) : Prop := ∃ k : Int, d = .int k ∧ 0 ≤ k ∧ k < 1000000000000
theorem order_number_ok {l : List D} (S : Sto l) : DF m__law_order_number l [] NumO := by
  unfold m__law_order_number DF
  rw [FP_run]
  unfold b__law_order_number
  simp only [SP_seq]
  obtain ⟨d, l2, e, S2, k, n, rfl, hn, h0, h1⟩ := dr_take (i := 0) (s := [some (.ow l)]) (a := iC (.int 5)) rfl S num_c (fun k e => by omega)
  refine SP_if.mpr (OP_iBl.mpr (OP_iBin.mpr ?_))
  show OP (iCall 2 m__law_take 0 _ [some (.ow l)]) _ _
  rw [e]
  refine ⟨_, rfl, _, rfl, ?_⟩
  have pn : ∀ s, iBin oPow (iC (.int 10)) (iC (.int 9)) s = .ok (.int 1000000000) s := fun s => by simp [iBin, iC, pC, oPow, Out.bind, Res.out, Res.opt]
  have pt : ∀ s, iBin oPow (iC (.int 10)) (iC (.int 12)) s = .ok (.int 1000000000000) s := fun s => by simp [iBin, iC, pC, oPow, Out.bind, Res.out, Res.opt]
  split
  · obtain ⟨d, l3, e, S3, k, n, rfl, hn, h0, h1⟩ := dr_take (i := 0) (s := [some (.ow l2)]) (a := iBin oPow (iC (.int 10)) (iC (.int 12))) rfl S2 (num_eq (pt _)) (fun k e => by omega)
    subst hn
    have hc : (iCons (iFz (iLs (iCons (iC (.int 0)) (iCons (iC (.int 10)) (iCons (iBin oPow (iC (.int 10)) (iC (.int 9))) (iCons (iBin oAdd (iBin oPow (iC (.int 10)) (iC (.int 9))) (iC (.int 1))) (iCons (iBin oSub (iBin oPow (iC (.int 10)) (iC (.int 12))) (iC (.int 1))) (iCons (iCall 2 m__law_take 0 (iCons (iBin oPow (iC (.int 10)) (iC (.int 12))) iNil)) iNil)))))))) iNil) [some (.ow l2)] = .ok [.lst [.int 0, .int 10, .int 1000000000, .int 1000000001, .int 999999999999, .int k]] [some (.ow l3)] := by
      simp [iCons, iFz, iLs, iNil, Out.bind, pn, pt, iBin, iC, pC, oPow, Res.out, Res.opt] at e ⊢
      simp [e]
    obtain ⟨d, l4, e4, S4, hm⟩ := dr_call2 (i := 0) (n := 2) (s := [some (.ow l2)]) rfl hc rfl (pick_df S3 (by simp) (by simp))
    refine SP_ret.mpr ?_
    show OP (iCall 2 m__law_pick 0 _ [some (.ow l2)]) _ _
    rw [e4]
    refine ⟨[.ow l4], rfl, l4, rfl, S4, ?_⟩
    simp only [List.mem_cons, List.not_mem_nil, or_false] at hm
    rcases hm with rfl | rfl | rfl | rfl | rfl | rfl
    all_goals exact ⟨_, rfl, by omega, by omega⟩
  · obtain ⟨d, l3, e, S3, k, n, rfl, hn, h0, h1⟩ := dr_take (i := 0) (s := [some (.ow l2)]) (a := iC (.int 5)) rfl S2 num_c (fun k e => by omega)
    subst hn
    refine SP_ret.mpr ?_
    show OP (iCall 2 m__law_take 0 _ [some (.ow l2)]) _ _
    rw [e]
    exact ⟨[.ow l3], rfl, l3, rfl, S3, k, rfl, h0, by omega⟩
end K31

set_option maxHeartbeats 400000
namespace K31
open PySem PySem.Spec PyProof.Rows L2 FL
theorem rng_get {n k : Nat} {d : D} (h : (rng 0 n)[k]? = some d) : k < n ∧ d = .int k := by
  unfold rng at h
  rw [List.getElem?_map] at h
  by_cases hk : k < n
  · rw [List.getElem?_range hk] at h
    simp at h
    exact ⟨hk, h.symm⟩
  · rw [List.getElem?_eq_none (by simpa using Nat.le_of_not_lt hk)] at h
    cases h
/-- a text of plain signs -/
def Asc (z : Str) : Prop := ∀ c ∈ z.cps.toList, c < 128
theorem Asc.ok {z : Str} (h : Asc z) : PyData.strOk z = true := by
  unfold PyData.strOk
  rw [← Array.all_toList, List.all_eq_true]
  intro c hc
  have := h c hc
  exact decide_eq_true (by omega)
instance (z : Str) : Decidable (Asc z) := by unfold Asc; infer_instance
theorem blsOf_map {α : Type} (f : α → Bool) (xs : List α) : blsOf (xs.map fun x => D.bl (f x)) = some (xs.map f) := by
  induction xs with
  | nil => rfl
  | cons x xs ih => simp [blsOf, blOf, ih]
theorem oAll_map {α : Type} (f : α → Bool) (xs : List α) : oAll [.lst (xs.map fun x => D.bl (f x))] = some (.bl (xs.all f)) := by
  simp only [oAll, blsOf_map, Option.map_some, List.all_map]
  rfl
theorem oAny_map {α : Type} (f : α → Bool) (xs : List α) : oAny [.lst (xs.map fun x => D.bl (f x))] = some (.bl (xs.any f)) := by
  simp only [oAny, blsOf_map, Option.map_some, List.any_map]
  rfl
theorem signs_len (z : Str) : (FL.signs z).length = z.length := by simp [FL.signs, Str.length]
/-- a test of each sign -/
theorem CQ_signs {k : Nat} {te : IC} {s : AS} {z : Str} {X : Exn → AS → Prop} {Q : List D → AS → Prop} (p : Nat → Bool) (hz : z.length ≤ 16777216) (h : ∀ c ∈ z.cps.toList, letS (s.set k (some (.fz (.str ⟨#[c]⟩)))) fun t => OQ (te t) (fun x w => x = .bl (p c) ∧ w.set k none = s) (fun _ _ => False))
    (hq : Q (z.cps.toList.map fun c => .bl (p c)) s) : CQ (FL.signs z) [] s [k] (gSlot k) (fun ŝ => .ok true ŝ) te Q X := by
  refine CQ_map (fun d => match d with | .str x => .bl (p (x.cps.toList.headD 0)) | _ => .non) (by rw [signs_len]; simpa using hz) (fun d hd => ?_) ?_
  · unfold FL.signs at hd
    obtain ⟨c, hc, rfl⟩ := List.mem_map.mp hd
    exact h c hc
  · unfold FL.signs
    rw [List.map_map]
    exact hq
theorem oInS_one {g : Bool → Bool} {c : Nat} {y : Str} : oInS g (.str ⟨#[c]⟩) (.str y) = some (.bl (g (decide (c ∈ y.cps.toList)))) := rfl
def isName (z : Str) : Bool := decide (1 ≤ z.length) && decide (z.length ≤ 8) && z.cps.toList.all fun c => decide (c ∈ k_LETTERS.cps.toList)
theorem is_name_eq {z : Str} (hz : z.length ≤ 16777216) : m_is_name [.fz (.str z)] = .rt (.fz (.bl (isName z))) [] := by
  refine FQ_is ?_
  unfold m_is_name
  rw [FQ_run]
  unfold b_is_name
  simp [oLen_str hz, List.replicate_succ, subTy]
  split
  · split
    · refine CQ_signs (fun c => decide (c ∈ k_LETTERS.cps.toList)) hz (fun c hc => ?_) ?_
      · simp [oInS_one]
      · simp [oAll_map, isName]
        intros
        omega
    · simp [isName]; omega
  · simp [isName]; omega
def isNumW (z : Str) : Bool := decide (1 ≤ z.length) && decide (z.length ≤ 12) && !(decide (z.cps.toList.head? = some 48) && decide (1 < z.length)) && z.cps.toList.all fun c => decide (c ∈ k_DIGITS.cps.toList)
theorem oIx_str0 {z : Str} {c : Nat} {r : List Nat} (h : z.cps.toList = c :: r) (hz : z.length ≤ 16777216) : oIx (.str z) (.int 0) = some (.str ⟨#[c]⟩) := by
  simp [oIx, atI, ixN, hz, h]
theorem oEq_sign {c k : Nat} (h : c < 128) (hk : k < 128) : oEq (.str ⟨#[c]⟩) (.str ⟨#[k]⟩) = some (.bl (decide (c = k))) := by
  rw [oEq_str]
  · simp
  · exact Asc.ok (by intro x hx; simp at hx; omega)
  · exact Asc.ok (by intro x hx; simp at hx; omega)
theorem str0 : Str.ofString "0" = ⟨#[48]⟩ := by decide +kernel
theorem len_of {z : Str} {c : Nat} {r : List Nat} (h : z.cps.toList = c :: r) : z.length = r.length + 1 := by
  have := congrArg List.length h
  simpa [Str.length] using this
theorem is_number_word_eq {z : Str} (hz : z.length ≤ 16777216) (ha : Asc z) : m_is_number_word [.fz (.str z)] = .rt (.fz (.bl (isNumW z))) [] := by
  refine FQ_is ?_
  unfold m_is_number_word
  rw [FQ_run]
  unfold b_is_number_word
  cases e : z.cps.toList with
  | nil =>
    have : z.length = 0 := by simp [Str.length, ← Array.length_toList, e]
    simp [oLen_str hz, List.replicate_succ, subTy, this, isNumW]
  | cons c r =>
    have hl := len_of e
    have hc : c < 128 := ha c (by simp [e])
    simp [oLen_str hz, List.replicate_succ, subTy, oIx_str0 e hz, oEq_sign hc, str0]
    have fin : ∀ h : ((1 : Int) ≤ z.length ∧ (z.length : Int) ≤ 12 ∧ ¬ (c = 48 ∧ (1 : Int) < z.length)), CQ (FL.signs z) [] [some (Slot.fz (D.str z)), none] [1] (gSlot 1) (fun ŝ => Out.ok true ŝ) (iBin (oInS fun z => z) (iVar 1) (iC (D.str k_DIGITS))) (fun acc w => letS (List.set w 1 none) fun s => optP (oAll [D.lst acc]) fun z_3 => D.bl (isNumW z) = z_3) fun x s => False := fun ⟨h1, h2, h3⟩ => by
      refine CQ_signs (fun c => decide (c ∈ k_DIGITS.cps.toList)) hz (fun c hc => ?_) ?_
      · simp [oInS_one]
      · have h1' : 1 ≤ z.length := by omega
        have h2' : z.length ≤ 12 := by omega
        have h3' : ¬ (c = 48 ∧ 1 < z.length) := fun ⟨a, b⟩ => h3 ⟨a, by omega⟩
        simp only [List.set_cons_succ, List.set_cons_zero, letS_cons, oAll_map, optP_some]
        have h4 : (decide (z.cps.toList.head? = some 48) && decide (1 < z.length)) = false := by
          rw [e]
          simpa using fun hc => Nat.le_of_not_lt fun h => h3' ⟨hc, h⟩
        simp [isNumW, h1', h2', h4]
    split
    · split
      · split
        · split
          · have h5 : 1 < z.length := by omega
            have h4 : (decide (z.cps.toList.head? = some 48) && decide (1 < z.length)) = true := by
              rw [e]
              simp [h5]
              assumption
            simp [isNumW, h4]
          · exact fin ⟨by omega, by omega, by omega⟩
        · exact fin ⟨by omega, by omega, by omega⟩
      · simp [isNumW]; omega
    · simp [isNumW]; omega
theorem flVs_strs : ∀ zs : List Str, flVs (zs.map D.str) = some (zs.map V.str)
  | [] => rfl
  | z :: zs => by simp [flVs, flV, flVs_strs zs]
theorem inV_strs (z : Str) (zs : List Str) : inV (V.str z) (zs.map V.str) = decide (z ∈ zs) := by
  unfold inV
  rw [List.any_map]
  have : ((fun y => eqV y (V.str z)) ∘ V.str) = fun y => decide (y = z) := by
    funext y
    simp [eqV]
    by_cases h : y = z <;> simp [h]
  rw [this, List.any_eq]
  simp
theorem oInT_strs {g : Bool → Bool} {z : Str} {zs : List Str} : oInT g (.str z) (.tup (zs.map D.str)) = some (.bl (g (decide (z ∈ zs)))) := by
  simp [oInT, flV, flVs_strs, inV_strs]
abbrev kindsL : List Str := ["all", "roads", "trees"]
abbrev tailsL : List Str := ["text", "names", "numbers"]
theorem k_KINDS_eq : k_KINDS = kindsL.map D.str := rfl
theorem k_TAILS_eq : k_TAILS = tailsL.map D.str := rfl
def isKind (z : Str) : Bool := decide (z ∈ kindsL)
def isTail (z : Str) : Bool := decide (z ∈ tailsL)
theorem oInT_kinds {g : Bool → Bool} {z : Str} : oInT g (.str z) (.tup k_KINDS) = some (.bl (g (isKind z))) := by rw [k_KINDS_eq, oInT_strs]; rfl
theorem oInT_tails {g : Bool → Bool} {z : Str} : oInT g (.str z) (.tup k_TAILS) = some (.bl (g (isTail z))) := by rw [k_TAILS_eq, oInT_strs]; rfl
theorem is_kind_eq {z : Str} : m_is_kind [.fz (.str z)] = .rt (.fz (.bl (isKind z))) [] := by
  refine FQ_is ?_
  unfold m_is_kind
  rw [FQ_run]
  unfold b_is_kind
  simp [oInT_kinds, subTy]
theorem spS : Str.ofString " " = ⟨#[32]⟩ := by decide +kernel
theorem tiS : Str.ofString "~" = ⟨#[126]⟩ := by decide +kernel
theorem emS : Str.ofString "" = ⟨#[]⟩ := by decide +kernel
theorem toPys_strs : ∀ {zs : List Str}, (∀ z ∈ zs, Asc z) → toPys (zs.map D.str) = some (zs.map PyData.str)
  | [], _ => rfl
  | z :: zs, h => by
    simp only [List.mem_cons, forall_eq_or_imp] at h
    simp [toPys, toPy, h.1.ok, toPys_strs h.2]
theorem depthAll_strs : ∀ zs : List Str, PyData.depthAll (zs.map PyData.str) = 0
  | [] => rfl
  | z :: zs => by simp [PyData.depthAll, PyData.depth, depthAll_strs zs]
theorem oInL_strs {g : Bool → Bool} {z : Str} {zs : List Str} (hz : Asc z) (h : ∀ z ∈ zs, Asc z) : oInL g (.str z) (.lst (zs.map D.str)) = some (.bl (g (decide (z ∈ zs)))) := by
  simp only [oInL, toPy, hz.ok, if_true, toPys_strs h, PyData.depth, depthAll_strs]
  rw [if_pos (by decide), List.any_map]
  have : ((fun y => PyData.eqv y (PyData.str z)) ∘ PyData.str) = fun y => decide (y = z) := by
    funext y
    simp [PyData.eqv]
    by_cases h : y = z <;> simp [h]
  rw [this, List.any_eq]
  simp
def words (z : Str) : List Str := Txt.split z ⟨#[32]⟩
theorem jn_mem {c : Nat} : ∀ {ps : List (List Nat)} {p : List Nat} {x : Nat}, p ∈ ps → x ∈ p → x ∈ jn c ps
  | [q], p, x, h, hx => by simp at h; subst h; exact hx
  | q :: r :: t, p, x, h, hx => by
    rw [jn_cons c q (by simp)]
    rcases List.mem_cons.mp h with rfl | h
    · exact List.mem_append_left _ hx
    · exact List.mem_append_right _ (List.mem_cons_of_mem _ (jn_mem h hx))
theorem jn_len {c : Nat} : ∀ {ps : List (List Nat)}, ps ≠ [] → (jn c ps).length + 1 = (ps.map (·.length)).sum + ps.length
  | [q], _ => by simp [jn]
  | q :: r :: t, _ => by
    rw [jn_cons c q (by simp)]
    have := jn_len (c := c) (ps := r :: t) (by simp)
    simp at this ⊢
    omega
theorem split_jn (z : Str) (c : Nat) : jn c ((Txt.split z ⟨#[c]⟩).map (·.cps.toList)) = z.cps.toList := by
  rw [← sjoin_cps, StrLaws.join_split]
theorem words_mem {z w : Str} {c : Nat} (h : w ∈ words z) (hc : c ∈ w.cps.toList) : c ∈ z.cps.toList := by
  rw [← split_jn z 32]
  exact jn_mem (List.mem_map.mpr ⟨w, h, rfl⟩) hc
theorem words_asc {z : Str} (h : Asc z) : ∀ w ∈ words z, Asc w := fun w hw c hc => h c (words_mem hw hc)
theorem split_sum (z : Str) (c : Nat) : ((Txt.split z ⟨#[c]⟩).map (·.length)).sum + (Txt.split z ⟨#[c]⟩).length = z.length + 1 := by
  have := jn_len (c := c) (ps := (Txt.split z ⟨#[c]⟩).map (·.cps.toList)) (by simpa using split_ne z _)
  rw [split_jn] at this
  simp only [List.map_map, List.length_map] at this
  have e : ((fun x : List Nat => x.length) ∘ fun x : Str => x.cps.toList) = fun x : Str => x.length := by funext x; simp [Str.length]
  rw [e] at this
  rw [← this]
  simp [Str.length]
theorem split_str {z : Str} (hz : z.length ≤ 10000000) : oSplit (.str z) [.str ⟨#[32]⟩] = some ((words z).map .str) := by
  unfold oSplit
  exact if_pos ⟨by decide, by omega⟩
def isFree (z : Str) : Bool := (z.cps.toList.all fun c => decide (32 ≤ c) && decide (c ≤ 126)) && !decide ((⟨#[]⟩ : Str) ∈ words z)
theorem nlt1 {a b : Nat} : (!decide ([a] < [b])) = decide (b ≤ a) := by
  by_cases h : a < b
  · have : ¬ b ≤ a := by omega
    simp [List.cons_lt_cons_iff, h, this]
  · have : b ≤ a := by omega
    simp [List.cons_lt_cons_iff, h, this]
theorem is_free_text_eq {z : Str} (hz : z.length ≤ 1000000) (ha : Asc z) : m_is_free_text [.fz (.str z)] = .rt (.fz (.bl (isFree z))) [] := by
  refine FQ_is ?_
  unfold m_is_free_text
  rw [FQ_run]
  unfold b_is_free_text
  simp [List.replicate_succ, subTy, spS, tiS]
  refine CQ_signs (fun c => decide (32 ≤ c) && decide (c ≤ 126)) (by omega) (fun c hc => ?_) ?_
  · simp [nlt1]
    by_cases h : 32 ≤ c <;> simp [h]
  · simp only [List.set_cons_succ, List.set_cons_zero, letS_cons, oAll_map, optP_some, blP_bl]
    cases h : z.cps.toList.all fun c => decide (32 ≤ c) && decide (c ≤ 126) with
    | false => simp [isFree, h]
    | true => 
      have : Asc ⟨#[]⟩ := by decide
      simp [split_str (show z.length ≤ 10000000 by omega), emS, oInL_strs this (words_asc ha), isFree, h]
def numV (z : Str) : D := if isNumW z = true then .int (NumText.digitsVal z.cps.toList : Nat) else .non
def nameV (z : Str) : D := if isName z = true then .str z else .non
def kindV (z : Str) : D := if isKind z = true then .str z else .non
theorem digits_mem {c : Nat} (h : c ∈ k_DIGITS.cps.toList) : 48 ≤ c ∧ c ≤ 57 := by
  have e : k_DIGITS.cps.toList = [48, 49, 50, 51, 52, 53, 54, 55, 56, 57] := by decide +kernel
  rw [e] at h
  simp at h
  omega
theorem isNumW_digits {z : Str} (h : isNumW z = true) : NumText.AllDigits z.cps.toList ∧ z.cps.toList ≠ [] ∧ z.length ≤ 12 := by
  unfold isNumW at h
  simp only [Bool.and_eq_true, decide_eq_true_eq, List.all_eq_true] at h
  refine ⟨fun c hc => digits_mem (h.2 c hc), fun e => ?_, h.1.1.2⟩
  have := h.1.1.1
  simp [Str.length, ← Array.length_toList, e] at this
theorem oInt_numW {z : Str} (h : isNumW z = true) : oInt [.str z] = some (.int (NumText.digitsVal z.cps.toList : Nat)) := by
  obtain ⟨h1, h2, h3⟩ := isNumW_digits h
  simp only [oInt]
  rw [if_pos (by omega), intText_digits h1 h2 (by omega)]
  rfl
theorem eqK {a b : Str} {k : Bool} (h : (PyData.strOk a && PyData.strOk b && (decide (a = b) == k)) = true) : oEq (.str a) (.str b) = some (.bl k) := by
  simp only [Bool.and_eq_true, beq_iff_eq] at h
  rw [oEq_str h.1.1 h.1.2, h.2]
theorem e_nn : oEq (.str "number") (.str "number") = some (.bl true) := eqK (by decide +kernel)
theorem e_mn : oEq (.str "name") (.str "number") = some (.bl false) := eqK (by decide +kernel)
theorem e_mm : oEq (.str "name") (.str "name") = some (.bl true) := eqK (by decide +kernel)
theorem e_kn : oEq (.str "kind") (.str "number") = some (.bl false) := eqK (by decide +kernel)
theorem e_km : oEq (.str "kind") (.str "name") = some (.bl false) := eqK (by decide +kernel)
theorem word_value_num {z : Str} (hz : z.length ≤ 1000000) (ha : Asc z) : m_word_value [.fz (.str "number"), .fz (.str z)] = .rt (.fz (numV z)) [] := by
  refine FQ_is ?_
  unfold m_word_value
  rw [FQ_run]
  unfold b_word_value
  simp [List.replicate_succ, e_nn, is_number_word_eq (show z.length ≤ 16777216 by omega) ha]
  cases h : isNumW z <;> simp [numV, h, oInt_numW]
theorem word_value_name {z : Str} (hz : z.length ≤ 1000000) : m_word_value [.fz (.str "name"), .fz (.str z)] = .rt (.fz (nameV z)) [] := by
  refine FQ_is ?_
  unfold m_word_value
  rw [FQ_run]
  unfold b_word_value
  simp [List.replicate_succ, e_mn, e_mm, is_name_eq (show z.length ≤ 16777216 by omega)]
  cases h : isName z <;> simp [nameV, h]
theorem word_value_kind {z : Str} (hz : z.length ≤ 1000000) : m_word_value [.fz (.str "kind"), .fz (.str z)] = .rt (.fz (kindV z)) [] := by
  refine FQ_is ?_
  unfold m_word_value
  rw [FQ_run]
  unfold b_word_value
  simp [List.replicate_succ, e_kn, e_km, is_kind_eq]
  cases h : isKind z <;> simp [kindV, h]
end K31

set_option maxHeartbeats 400000
namespace K31
open PySem PySem.Spec PyProof.Rows L2 FL
theorem sum_mem {α : Type} (f : α → Nat) : ∀ {ws : List α} {w : α}, w ∈ ws → f w ≤ (ws.map f).sum
  | x :: ws, w, h => by
    rcases List.mem_cons.mp h with rfl | h
    · simp
    · have := sum_mem f h
      simp
      omega
/-- words that are short enough -/
def Wd (ws : List Str) : Prop := (ws.map (·.length)).sum + ws.length ≤ 100000 ∧ ∀ w ∈ ws, Asc w
theorem Wd.one {ws : List Str} (h : Wd ws) : ∀ w ∈ ws, w.length ≤ 100000 ∧ Asc w := fun w hw => by
  have : w.length ≤ (ws.map (·.length)).sum := by
    exact sum_mem (fun w : Str => w.length) hw
  exact ⟨by have := h.1; omega, h.2 w hw⟩
theorem Wd.drop {ws : List Str} (h : Wd ws) (k : Nat) : Wd (ws.drop k) := by
  have e := List.take_append_drop k ws
  have e2 : (ws.map (·.length)).sum = ((ws.take k).map (·.length)).sum + ((ws.drop k).map (·.length)).sum := by
    rw [← List.sum_append, ← List.map_append, e]
  exact ⟨by have := h.1; rw [List.length_drop]; omega, fun w hw => h.2 w (List.mem_of_mem_drop hw)⟩
theorem Wd.join {ws : List Str} (h : Wd ws) : oJoin (.str ⟨#[32]⟩) [.lst (ws.map D.str)] = some (.str (Txt.join ⟨#[32]⟩ ws)) :=
  join_str (by have := h.1; simp [Str.length] at this ⊢; omega)
theorem join_len (ws : List Str) (c : Nat) : (Txt.join ⟨#[c]⟩ ws).length ≤ (ws.map (·.length)).sum + ws.length := by
  rw [tjoin, Str.length, ← Array.length_toList, sjoin_cps]
  cases ws with
  | nil => simp [jn]
  | cons w ws =>
    have := jn_len (c := c) (ps := (w :: ws).map (·.cps.toList)) (by simp)
    rw [List.map_map] at this
    have e : ((fun x : List Nat => x.length) ∘ fun x : Str => x.cps.toList) = fun x : Str => x.length := by funext x; simp [Str.length]
    rw [e, List.length_map] at this
    omega
theorem Wd.joined {ws : List Str} (h : Wd ws) : (Txt.join ⟨#[32]⟩ ws).length ≤ 100000 ∧ Asc (Txt.join ⟨#[32]⟩ ws) := by
  refine ⟨by have := join_len ws 32; have := h.1; omega, fun c hc => ?_⟩
  rw [tjoin, sjoin_cps] at hc
  have : ∀ (ps : List (List Nat)), (∀ p ∈ ps, ∀ c ∈ p, c < 128) → ∀ c ∈ jn 32 ps, c < 128 := by
    intro ps
    induction ps with
    | nil => simp [jn]
    | cons p r ih =>
      intro h c hc
      by_cases hr : r = []
      · subst hr
        exact h p (by simp) c hc
      · rw [jn_cons _ _ hr] at hc
        simp at hc
        rcases hc with hc | rfl | hc
        · exact h p (by simp) c hc
        · omega
        · exact ih (fun q hq => h q (by simp [hq])) c hc
  refine this _ (fun p hp => ?_) c hc
  obtain ⟨w, hw, rfl⟩ := List.mem_map.mp hp
  exact h.2 w hw
def textV (ws : List Str) : D := if isFree (Txt.join ⟨#[32]⟩ ws) = true then .str (Txt.join ⟨#[32]⟩ ws) else .non
def listV (f : Str → D) (ws : List Str) : D := if (ws.any fun w => oIsN (f w)) = true then .non else .lst (ws.map f)
theorem e_tt : oEq (.str "text") (.str "text") = some (.bl true) := eqK (by decide +kernel)
theorem e_at : oEq (.str "names") (.str "text") = some (.bl false) := eqK (by decide +kernel)
theorem e_ut : oEq (.str "numbers") (.str "text") = some (.bl false) := eqK (by decide +kernel)
theorem e_aa : oEq (.str "names") (.str "names") = some (.bl true) := eqK (by decide +kernel)
theorem e_ua : oEq (.str "numbers") (.str "names") = some (.bl false) := eqK (by decide +kernel)
theorem tail_text {ws : List Str} (h : Wd ws) : m_tail_value [.fz (.str "text"), .fz (.lst (ws.map .str))] = .rt (.fz (textV ws)) [] := by
  refine FQ_is ?_
  unfold m_tail_value
  rw [FQ_run]
  unfold b_tail_value
  have j := h.joined
  simp [List.replicate_succ, e_tt, spS, h.join, is_free_text_eq (show (Txt.join ⟨#[32]⟩ ws).length ≤ 1000000 by omega) j.2]
  cases h : isFree (Txt.join ⟨#[32]⟩ ws) <;> simp [textV, h]
theorem tail_names {ws : List Str} (h : Wd ws) : m_tail_value [.fz (.str "names"), .fz (.lst (ws.map .str))] = .rt (.fz (listV nameV ws)) [] := by
  refine FQ_is ?_
  unfold m_tail_value
  rw [FQ_run]
  unfold b_tail_value
  have hl : ws.length ≤ 100000 := by have := h.1; omega
  simp [List.replicate_succ, e_at, e_aa]
  refine CQ_map (fun d => match d with | .str w => nameV w | _ => .non) (by simp; omega) (fun d hd => ?_) ?_
  · obtain ⟨w, hw, rfl⟩ := List.mem_map.mp hd
    simp [word_value_name (show w.length ≤ 1000000 by have := h.one w hw; omega)]
  · simp
    refine CQ_map (fun d => .bl (oIsN d)) (by simp; omega) (fun d hd => ?_) ?_
    · simp
    · simp
      have e : ((fun d => D.bl (oIsN d)) ∘ (fun d : D => match d with | .str w => nameV w | _ => .non) ∘ D.str) = fun w => D.bl (oIsN (nameV w)) := rfl
      rw [e, oAny_map]
      have e2 : ((fun d : D => match d with | .str w => nameV w | _ => .non) ∘ D.str) = nameV := rfl
      rw [e2]
      cases h : ws.any fun w => oIsN (nameV w) <;> simp [listV, h]
theorem tail_numbers {ws : List Str} (h : Wd ws) : m_tail_value [.fz (.str "numbers"), .fz (.lst (ws.map .str))] = .rt (.fz (listV numV ws)) [] := by
  refine FQ_is ?_
  unfold m_tail_value
  rw [FQ_run]
  unfold b_tail_value
  have hl : ws.length ≤ 100000 := by have := h.1; omega
  simp [List.replicate_succ, e_ut, e_ua]
  refine CQ_map (fun d => match d with | .str w => numV w | _ => .non) (by simp; omega) (fun d hd => ?_) ?_
  · obtain ⟨w, hw, rfl⟩ := List.mem_map.mp hd
    simp [word_value_num (show w.length ≤ 1000000 by have := h.one w hw; omega) (h.2 w hw)]
  · simp
    refine CQ_map (fun d => .bl (oIsN d)) (by simp; omega) (fun d hd => ?_) ?_
    · simp
    · simp
      have e : ((fun d => D.bl (oIsN d)) ∘ (fun d : D => match d with | .str w => numV w | _ => .non) ∘ D.str) = fun w => D.bl (oIsN (numV w)) := rfl
      rw [e, oAny_map]
      have e2 : ((fun d : D => match d with | .str w => numV w | _ => .non) ∘ D.str) = numV := rfl
      rw [e2]
      cases h : ws.any fun w => oIsN (numV w) <;> simp [listV, h]
/-- the sorts of a form -/
inductive Srt where
  | number | name | kind | text | names | numbers
  deriving DecidableEq
def Srt.str : Srt → Str
  | .number => "number" | .name => "name" | .kind => "kind" | .text => "text" | .names => "names" | .numbers => "numbers"
def Srt.tail : Srt → Bool
  | .number | .name | .kind => false
  | _ => true
def Srt.v1 : Srt → Str → D
  | .number => numV | .name => nameV | _ => kindV
def Srt.vs : Srt → List Str → D
  | .text => textV | .names => listV nameV | _ => listV numV
theorem isTail_str (s : Srt) : isTail s.str = s.tail := by cases s <;> decide +kernel
theorem word_value_eq (s : Srt) (hs : s.tail = false) {z : Str} (hz : z.length ≤ 1000000) (ha : Asc z) : m_word_value [.fz (.str s.str), .fz (.str z)] = .rt (.fz (s.v1 z)) [] := by
  cases s <;> first | cases hs | skip
  · exact word_value_num hz ha
  · exact word_value_name hz
  · exact word_value_kind hz
theorem tail_value_eq (s : Srt) (hs : s.tail = true) {ws : List Str} (h : Wd ws) : m_tail_value [.fz (.str s.str), .fz (.lst (ws.map .str))] = .rt (.fz (s.vs ws)) [] := by
  cases s <;> first | cases hs | skip
  · exact tail_text h
  · exact tail_names h
  · exact tail_numbers h
/-- the arguments of a line, and the words behind them -/
def argsOf : List Srt → List Str → Option (List D × List Str)
  | [], ws => some ([], ws)
  | s :: ss, ws => if s.tail = true then (if oIsN (s.vs ws) = true then none else (argsOf ss []).map fun p => (s.vs ws :: p.1, p.2))
    else match ws with
      | [] => none
      | w :: ws => if oIsN (s.v1 w) = true then none else (argsOf ss ws).map fun p => (s.v1 w :: p.1, p.2)
def forms : List (Str × List Srt) := [("table", [.name, .text]), ("figure", [.name, .text]), ("rule", [.name, .text]), ("book", [.name, .names]),
  ("groups", [.name, .name, .number]), ("tree", [.name, .name]), ("chain", [.name, .name, .number, .number, .number]), ("compare", [.name, .name, .kind]),
  ("least", [.name, .kind]), ("price", [.name, .name, .number]), ("steady", [.name]), ("keep", [.name, .name, .number]), ("put", [.number, .number, .number]),
  ("grow", [.numbers]), ("drop", [.number]), ("scale", [.number]), ("lay", [.name]), ("back", []), ("sample", [.name, .number, .text]),
  ("learn", [.number, .number]), ("axioms", [.name, .number, .number]), ("wide", [.name, .name, .number, .number])]
theorem k_FORMS_eq : k_FORMS = forms.map fun p => (p.1, D.tup (p.2.map fun s => D.str s.str)) := rfl
def formOf (z : Str) : Option (List Srt) := (forms.find? fun q => q.1 == z).map (·.2)
theorem tab_form (z : Str) : tabD k_FORMS z = (formOf z).map fun ss => D.tup (ss.map fun s => D.str s.str) := by
  unfold tabD formOf
  rw [k_FORMS_eq, List.find?_map]
  have e : ((fun q : Str × D => q.1 == z) ∘ fun p : Str × List Srt => (p.1, D.tup (p.2.map fun s => D.str s.str))) = fun p => p.1 == z := rfl
  rw [e]
  cases forms.find? fun p => p.1 == z <;> rfl
theorem cutD_from {α : Type} (xs : List α) {n : Nat} (h : n ≤ xs.length) : FL.cutD xs (some (n : Int)) none = xs.drop n := by
  unfold FL.cutD
  rw [HT.sIx_nat, HT.sIx_none, Nat.min_eq_left h, ← List.length_drop, List.take_length]
theorem cutD_to {α : Type} (xs : List α) {n : Nat} (h : n ≤ xs.length) : FL.cutD xs none (some (n : Int)) = xs.take n := by
  unfold FL.cutD
  rw [HT.sIx_nat, HT.sIx_none, Nat.min_eq_left h]
  simp
theorem oIx_lst {xs : List D} {n : Nat} {d : D} (h : xs[n]? = some d) : oIx (.lst xs) (.int n) = some d := by
  have hn : n < xs.length := (List.getElem?_eq_some_iff.mp h).1
  simp [oIx, atI, ixN, hn]
  simpa [List.getElem?_eq_getElem hn] using h
def b_order_loop : SC := (sSeq (sIf (iBl (iBin (oInT fun z => z) (iVar 4) (iC (.tup k_TAILS))))
 (sSeq (sSet 5 (iCallA 2 m_tail_value (iCons (iVar 4) (iCons (iFz (iSlL (iVar 1) (iqSome (iVar 3)) iqNone)) iNil))))
 (sSet 3 (iFn oLen (iCons (iVar 1) iNil))))
 (sIf (iBl (iBin oLt (iVar 3) (iFn oLen (iCons (iVar 1) iNil))))
 (sSeq (sSet 5 (iCallA 2 m_word_value (iCons (iVar 4) (iCons (iBin oIx (iVar 1) (iVar 3)) iNil))))
 (sAug 3 oAddI (iC (.int 1))))
 (sSet 5 (iC .non))))
 (sSeq (sIf (iBl (iUn (fun d => some (.bl (oIsN d))) (iVar 5)))
 (sRet (iC .non))
 sSkip)
 (sDrop (iOwn 2 gAppend (iCons (iVar 5) iNil)))))
theorem order_loop {ws : List Str} (hw : Wd ws) (line : D) {N : AS → Prop} {R : Ret → AS → Prop} {X : Exn → AS → Prop} : ∀ (ss : List Srt) (acc : List D) (n : Nat) (o4 o5 : Option Slot), n ≤ ws.length → acc.length + ss.length < 1000 →
    (argsOf ss (ws.drop n) = none → ∀ t, R (.fz .non) t) →
    (∀ as rest, argsOf ss (ws.drop n) = some (as, rest) → rest.length ≤ ws.length → ∀ o4 o5, N [some (.fz line), some (.fz (.lst (ws.map .str))), some (.ow (acc ++ as)), some (.fz (.int ((ws.length - rest.length : Nat) : Int))), o4, o5]) →
    LQ (ss.map fun s => D.str s.str) [some (.fz line), some (.fz (.lst (ws.map .str))), some (.ow acc), some (.fz (.int n)), o4, o5] (gSlot 4) b_order_loop N R X
  | [], acc, n, o4, o5, hn, hl, h1, h2 => by
    simp
    have := h2 [] (ws.drop n) rfl (by simp) o4 o5
    rw [List.length_drop, show ws.length - (ws.length - n) = n by omega, List.append_nil] at this
    exact this
  | s :: ss, acc, n, o4, o5, hn, hl, h1, h2 => by
    refine LQ_cons ?_
    unfold b_order_loop
    have hc : FL.cutD (ws.map D.str) (some (n : Int)) none = (ws.map D.str).drop n := cutD_from _ (by simpa using hn)
    simp [oInT_tails, isTail_str, hc]
    cases ht : s.tail with
    | true =>
      have tv := tail_value_eq s ht (hw.drop n)
      rw [List.map_drop] at tv
      simp [tv]
      by_cases hv : oIsN (s.vs (ws.drop n)) = true
      · simp [hv]
        exact h1 (by simp [argsOf, ht, hv]) _
      · simp [hv, gAppend, show acc.length < 16777216 by simp at hl; omega]
        refine order_loop hw line ss (acc ++ [s.vs (ws.drop n)]) ws.length _ _ (Nat.le_refl _) (by simp at hl ⊢; omega) (fun e => h1 ?_) fun as rest e hr o4 o5 => ?_
        · simp at e
          simp [argsOf, ht, hv, e]
        · simp at e
          have := h2 (s.vs (ws.drop n) :: as) rest (by simp [argsOf, ht, hv, e]) hr o4 o5
          simpa using this
    | false =>
      cases hd : ws.drop n with
      | nil =>
        have : ¬ n < ws.length := fun h => by
          have := congrArg List.length hd
          simp at this
          omega
        simp [this]
        exact h1 (by simp [argsOf, ht, hd]) _
      | cons w r =>
        have hlt : n < ws.length := by
          have := congrArg List.length hd
          simp at this
          omega
        have hw1 : ws[n]? = some w := by
          have := List.getElem?_drop (xs := ws) (i := n) (j := 0)
          rw [hd] at this
          simpa using this.symm
        have hr : ws.drop (n + 1) = r := by
          rw [← List.drop_drop, hd]
          rfl
        have hm : w ∈ ws := List.mem_of_getElem? hw1
        have ho := hw.one w hm
        simp [hlt, oIx_lst (xs := ws.map D.str) (n := n) (d := .str w) (by simp [hw1]), word_value_eq s ht (show w.length ≤ 1000000 by omega) ho.2]
        by_cases hv : oIsN (s.v1 w) = true
        · simp [hv]
          exact h1 (by simp [argsOf, ht, hd, hv]) _
        · simp [hv, gAppend, show acc.length < 16777216 by simp at hl; omega]
          refine order_loop hw line ss (acc ++ [s.v1 w]) (n + 1) _ _ hlt (by simp at hl ⊢; omega) (fun e => h1 ?_) fun as rest e hr2 o4 o5 => ?_
          · rw [hr] at e
            simp [argsOf, ht, hd, hv, e]
          · rw [hr] at e
            have := h2 (s.v1 w :: as) rest (by simp [argsOf, ht, hd, hv, e]) hr2 o4 o5
            simpa using this
end K31

set_option maxHeartbeats 400000
namespace K31
open PySem PySem.Spec PyProof.Rows L2 FL
def parseW (ws : List Str) : D := match ws with
  | [] => .non
  | w :: r => match formOf w with
    | none => .non
    | some ss => match argsOf ss r with
      | some (as, []) => .tup (.str w :: as)
      | _ => .non
def parse (z : Str) : D := if 200 < z.length then .non else parseW (words z)
theorem words_wd {z : Str} (hz : z.length ≤ 1000) (ha : Asc z) : Wd (words z) := ⟨by
  have := split_sum z 32
  unfold words
  omega, words_asc ha⟩
theorem forms_len {z : Str} {ss : List Srt} (h : formOf z = some ss) : ss.length ≤ 5 := by
  unfold formOf at h
  obtain ⟨p, hp, rfl⟩ := Option.map_eq_some_iff.mp h
  have hm := List.mem_of_find?_eq_some hp
  have : ∀ p ∈ forms, p.2.length ≤ 5 := by decide +kernel
  exact this p hm
theorem tuple_lst {xs : List D} : oTuple [.lst xs] = some (.tup xs) := rfl
theorem order_of_eq {z : Str} (hz : z.length ≤ 10000000) (ha : Asc z) : m_order_of [.fz (.str z)] = .rt (.fz (parse z)) [] := by
  refine FQ_is ?_
  unfold m_order_of
  rw [FQ_run]
  unfold b_order_of
  simp [List.replicate_succ, oLen_str (show z.length ≤ 16777216 by omega), spS, split_str hz]
  split
  · have : 200 < z.length := by omega
    simp [parse, this]
  · rename_i hl
    have hl' : z.length ≤ 200 := by omega
    have wd := words_wd (show z.length ≤ 1000 by omega) ha
    have np : ¬ 200 < z.length := by omega
    cases e : words z with
    | nil => exact absurd e (split_ne _ _)
    | cons w r =>
      rw [e] at wd
      have i0 : oIx (.lst ((w :: r).map D.str)) (.int 0) = some (.str w) := oIx_lst (n := 0) (by simp)
      rw [List.map_cons] at i0
      simp [i0, oInG, tab_form]
      cases hf : formOf w with
      | none => simp [parse, np, parseW, e, hf]
      | some ss =>
        simp [oIxG, tab_form, hf]
        have hs := forms_len hf
        refine order_loop (ws := w :: r) wd (.str z) ss [.str w] 1 none none (by simp) (by simp; omega) (fun en t => ?_) fun as rest en hr o4 o5 => ?_
        · simp at en
          simp [parse, np, parseW, e, hf, en]
        · simp at en
          simp [oEq_int]
          cases rest with
          | nil => simp [parse, np, parseW, e, hf, en]
          | cons a b =>
            have : ¬ (((r.length + 1 - (b.length + 1) : Nat) : Int) = (r.length : Int) + 1) := by omega
            simp [parse, np, parseW, e, hf, en]
            omega
/-- the lines read from the n-th on -/
def readL : List Str → Nat → Nat ⊕ List D
  | [], _ => .inr []
  | l :: ls, n => if 60 < n + 1 then .inl (n + 1) else if oIsN (parse l) = true then .inl (n + 1) else match readL ls (n + 1) with
    | .inl k => .inl k
    | .inr ds => .inr (parse l :: ds)
theorem log_small {k : Nat} (h : k < 1920) : (k : Int).natAbs.log2 < 1920 := by
  have := Nat.log2_le_self k
  simp
  omega
def read_body : SC := (sSeq (sAug 2 oAddI (iC (.int 1)))
 (sSeq (sIf (iBl (iBin oGt (iVar 2) (iC (.int 60))))
 (sRaiseX "TextBad" "line" (iVar 2))
 sSkip)
 (sSeq (sSet 4 (iCallA 1 m_order_of (iCons (iVar 3) iNil)))
 (sSeq (sIf (iBl (iUn (fun d => some (.bl (oIsN d))) (iVar 4)))
 (sRaiseX "TextBad" "line" (iVar 2))
 sSkip)
 (sDrop (iOwn 1 gAppend (iCons (iVar 4) iNil)))))))
theorem read_loop (text : D) {N : AS → Prop} {R : Ret → AS → Prop} {X : Exn → AS → Prop} : ∀ (ls : List Str) (acc : List D) (n : Nat) (o3 o4 : Option FL.Slot), (∀ l ∈ ls, l.length ≤ 10000000 ∧ Asc l) → n ≤ 60 → acc.length = n →
    (∀ k, readL ls n = .inl k → ∀ t, X ⟨"TextBad", ["line"], [.int k]⟩ t) →
    (∀ ds, readL ls n = .inr ds → ∀ m o3 o4, N [some (.fz text), some (.ow (acc ++ ds)), some (.fz (.int m)), o3, o4]) →
    LQ (ls.map D.str) [some (.fz text), some (.ow acc), some (.fz (.int n)), o3, o4] (gSlot 3) read_body N R X
  | [], acc, n, o3, o4, hw, hn, hl, h1, h2 => by
    simp
    simpa using h2 [] rfl n o3 o4
  | l :: ls, acc, n, o3, o4, hw, hn, hl, h1, h2 => by
    refine LQ_cons ?_
    unfold read_body
    have hwl := hw l (by simp)
    have lg := log_small (k := n + 1) (by omega)
    rw [show ((n + 1 : Nat) : Int) = (n : Int) + 1 from rfl] at lg
    by_cases h60 : 60 < n + 1
    · have : 60 < (n : Int) + 1 := by omega
      simp [this, lg]
      have := h1 (n + 1) (by simp [readL, h60]) [some (Slot.fz text), some (Slot.ow acc), some (Slot.fz (D.int (↑n + 1))), some (Slot.fz (D.str l)), o4]
      exact this
    · have : ¬ 60 < (n : Int) + 1 := by omega
      simp [this, order_of_eq hwl.1 hwl.2]
      by_cases hb : oIsN (parse l) = true
      · simp [hb, lg]
        exact h1 (n + 1) (by simp [readL, h60, hb]) _
      · simp [hb, gAppend, show acc.length < 16777216 by omega]
        refine read_loop text ls (acc ++ [parse l]) (n + 1) _ _ (fun l' m => hw l' (by simp [m])) (by omega) (by simp; omega) (fun k e => h1 k ?_) fun ds e m o3 o4 => ?_
        · simp [readL, h60, hb, e]
        · have := h2 (parse l :: ds) (by simp [readL, h60, hb, e]) m o3 o4
          simpa using this
theorem nlS : Str.ofString "\n" = ⟨#[10]⟩ := by decide +kernel
def linesOf (z : Str) : List Str := Txt.split z ⟨#[10]⟩
theorem linesOf_len {z l : Str} (h : l ∈ linesOf z) : l.length ≤ z.length := by
  have := split_sum z 10
  have s := sum_mem (fun w : Str => w.length) h
  have p : 0 < (linesOf z).length := List.length_pos_of_mem h
  unfold linesOf at s p
  omega
theorem linesOf_asc {z : Str} (h : Asc z) : ∀ w ∈ linesOf z, Asc w := fun w hw c hc => h c (by
  rw [← split_jn z 10]
  exact jn_mem (List.mem_map.mpr ⟨w, hw, rfl⟩) hc)
def readT (z : Str) : Nat ⊕ List D := if z = ⟨#[]⟩ then .inr [] else readL (linesOf z) 0
theorem read_script_eq {z : Str} (hz : z.length ≤ 10000000) (ha : Asc z) : m_read_script [.fz (.str z)] = match readT z with
    | .inl k => .exn ⟨"TextBad", ["line"], [.int k]⟩ []
    | .inr ds => .rt (.ow ds) [] := by
  refine FQ_is ?_
  unfold m_read_script
  rw [FQ_run]
  unfold b_read_script
  have e0 : oEq (.str z) (.str ⟨#[]⟩) = some (.bl (decide (z = ⟨#[]⟩))) := oEq_str ha.ok (by decide +kernel)
  have es : oSplit (.str z) [.str ⟨#[10]⟩] = some ((linesOf z).map .str) := if_pos ⟨by decide, by omega⟩
  simp [List.replicate_succ, subTy, emS, nlS, e0, es]
  by_cases h : z = ⟨#[]⟩
  · simp [h, readT]
  · simp [h]
    refine read_loop (.str z) (linesOf z) [] 0 none none (fun l m => ⟨Nat.le_trans (linesOf_len m) hz, linesOf_asc ha l m⟩) (by omega) rfl (fun k e t => ?_) fun ds e m o3 o4 => ?_
    · simp [readT, h, e]
    · simp [readT, h, e]
theorem read_script_no {d : D} (h : isiB "str" d = some false) : m_read_script [.fz d] = .exn ⟨"TextBad", ["line"], [.int 1]⟩ [] := by
  refine FQ_is ?_
  unfold m_read_script
  rw [FQ_run]
  unfold b_read_script
  have lg := log_small (k := 1) (by omega)
  simp [List.replicate_succ, h]
  exact Nat.lt_of_le_of_lt (Nat.log2_le_self 1) (by decide)
end K31

set_option maxHeartbeats 400000
namespace K31
open PySem PySem.Spec PyProof.Rows L2 FL
mutual
def szD : D → Nat
  | .lst xs => szL xs + 1
  | .tup xs => szL xs + 1
  | _ => 1
def szL : List D → Nat
  | [] => 0
  | x :: xs => szD x + szL xs
end
mutual
def okD : D → Bool
  | .non => true
  | .bl _ => true
  | .int _ => true
  | .str z => PyData.strOk z
  | .lst xs => okL xs
  | .tup xs => okL xs
  | _ => false
def okL : List D → Bool
  | [] => true
  | x :: xs => okD x && okL xs
end
theorem okL_mem : ∀ {xs : List D}, okL xs = true → ∀ x ∈ xs, okD x = true
  | [], _ => by simp
  | y :: xs, h => by
    simp only [okL, Bool.and_eq_true] at h
    simpa using ⟨h.1, okL_mem h.2⟩
theorem okL_of : ∀ {xs : List D}, (∀ x ∈ xs, okD x = true) → okL xs = true
  | [], _ => rfl
  | y :: xs, h => by
    simp only [okL, Bool.and_eq_true]
    exact ⟨h y (by simp), okL_of fun x m => h x (by simp [m])⟩
theorem szL_app : ∀ (xs ys : List D), szL (xs ++ ys) = szL xs + szL ys
  | [], ys => by simp [szL]
  | x :: xs, ys => by simp [szL, szL_app xs ys]; omega
theorem szL_len : ∀ (xs : List D), xs.length ≤ szL xs
  | [] => by simp [szL]
  | x :: xs => by
    have := szL_len xs
    have : 1 ≤ szD x := by cases x <;> simp [szD]
    simp [szL]
    omega
theorem oEq_refl_int {i : Int} : oEq (.int i) (.int i) = some (.bl true) := by simp [oEq_int]
theorem oEq_refl_bl {i : Bool} : oEq (.bl i) (.bl i) = some (.bl true) := by simp [oEq, toPy, PyData.depth, PyData.eqv]
theorem oEq_refl_str {i : Str} (h : PyData.strOk i = true) : oEq (.str i) (.str i) = some (.bl true) := by simp [oEq_str h h]
theorem same_here {x : D} (h : okD x = true) : m__law_same_here [.fz x, .fz x] = .rt (.fz (.bl true)) [] := by
  refine FQ_is ?_
  unfold m__law_same_here
  rw [FQ_run]
  unfold b__law_same_here
  cases x <;> first | (simp [okD] at h; done) | skip
  all_goals simp [List.replicate_succ, subTy, oEq_refl_int, oEq_refl_bl]
  rename_i z
  simp [oEq_refl_str (show PyData.strOk z = true from h)]
def pr2 (x : D) : D := .lst [x, x]
theorem same_inner {x a : D} {xs qs : List D} {o3 o5 : Option FL.Slot} {N : AS → Prop} {R : Ret → AS → Prop} {X : Exn → AS → Prop} (hix : ∀ (j : Nat) d, xs[j]? = some d → oIx x (.int j) = some d) (hl : qs.length + xs.length ≤ 100000)
    (hN : ∀ o5, N [some (.fz a), some (.fz a), some (.ow ((qs ++ xs).map pr2)), o3, some (.fz (.lst [x, x])), o5]) :
    LQ (rng 0 xs.length) [some (.fz a), some (.fz a), some (.ow (qs.map pr2)), o3, some (.fz (.lst [x, x])), o5] (gSlot 5) (sDrop (iOwn 2 gAppend (iCons (iFz (iLs (iCons (iBin oIx (iBin oIx (iVar 4) (iC (.int 0))) (iVar 5)) (iCons (iBin oIx (iBin oIx (iVar 4) (iC (.int 1))) (iVar 5)) iNil)))) iNil))) N R X := by
  have g0 : oIx (.lst [x, x]) (.int 0) = some x := oIx_lst (n := 0) (by simp)
  have g1 : oIx (.lst [x, x]) (.int 1) = some x := oIx_lst (n := 1) (by simp)
  refine LQ_inv (fun k s => ∃ o5, s = [some (.fz a), some (.fz a), some (.ow ((qs ++ xs.take k).map pr2)), o3, some (.fz (.lst [x, x])), o5]) ⟨o5, by simp⟩ ?_ ?_
  · rintro k d t hk ⟨o5, rfl⟩
    obtain ⟨hk1, hk2⟩ := rng_get hk
    subst hk2
    have hx := List.getElem?_eq_getElem hk1
    have hlen : (qs.map pr2).length + ((xs.take k).map pr2).length < 16777216 := by simp; omega
    simp at hlen
    simp [g0, g1, hix k _ hx, gAppend, hlen]
    simp [List.take_add_one, hx, pr2]
  · rintro t ⟨o5, rfl⟩
    rw [rng_len, List.take_length]
    exact hN o5
theorem same_ok {a : D} (h : okD a = true) (hs : szD a ≤ 100000) : m__law_same [.fz a, .fz a] = .rt (.fz (.bl true)) [] := by
  refine FQ_is ?_
  unfold m__law_same
  rw [FQ_run]
  unfold b__law_same
  simp [List.replicate_succ]
  refine LQ_inv (fun k s => ∃ ps o3 o4 o5, okL ps = true ∧ szL ps + k ≤ 100000 ∧ s = [some (.fz a), some (.fz a), some (.ow (ps.map pr2)), o3, o4, o5]) ?_ ?_ ?_
  · exact ⟨[a], none, none, none, by simp [okL, h], by simpa [szL] using hs, rfl⟩
  · rintro k d t hk ⟨ps, o3, o4, o5, hp, hl, rfl⟩
    have hk2 := (rng_get hk).2
    subst hk2
    simp [oEq_int]
    by_cases he : ps = []
    · simp [he]
    · obtain ⟨qs, x, rfl⟩ : ∃ qs x, ps = qs ++ [x] := ⟨ps.dropLast, ps.getLast he, (List.dropLast_concat_getLast he).symm⟩
      have hx : okD x = true := okL_mem hp x (by simp)
      have hq : okL qs = true := okL_of fun y m => okL_mem hp y (by simp [m])
      have g0 : oIx (.lst [x, x]) (.int 0) = some x := oIx_lst (n := 0) (by simp)
      have g1 : oIx (.lst [x, x]) (.int 1) = some x := oIx_lst (n := 1) (by simp)
      rw [szL_app] at hl
      simp [szL] at hl
      have ql := szL_len qs
      simp only [List.map_append, List.map_cons, List.map_nil]
      simp [gPop, pr2, g0, g1, same_here hx]
      have app : ∀ xs : List D, okL xs = true → szL xs + 1 + szL qs + k ≤ 100000 → ∃ ps, okL ps = true ∧ szL ps + (k + 1) ≤ 100000 ∧ qs.map pr2 ++ xs.map pr2 = ps.map pr2 := fun xs h1 h2 => ⟨qs ++ xs, okL_of fun y m => by
        rcases List.mem_append.mp m with m | m
        · exact okL_mem hq y m
        · exact okL_mem h1 y m, by rw [szL_app]; omega, by simp⟩
      cases x with
      | lst xs =>
        simp [okD] at hx
        simp [szD] at hl
        have xl := szL_len xs
        simp [subTy]
        refine And.intro (by omega) (same_inner (x := .lst xs) (fun j d h => oIx_lst h) (by omega) fun o5 => ?_)
        simpa using app xs hx (by omega)
      | tup xs =>
        simp [okD] at hx
        simp [szD] at hl
        have xl := szL_len xs
        simp [subTy]
        refine And.intro (by omega) (same_inner (x := .tup xs) (fun j d h => by
          have hn : j < xs.length := (List.getElem?_eq_some_iff.mp h).1
          simp [oIx, atI, ixN, hn]
          simpa [List.getElem?_eq_getElem hn] using h) (by omega) fun o5 => ?_)
        simpa using app xs hx (by omega)
      | non => simp [subTy]; exact ⟨qs, hq, by simp [szD] at hl; omega, rfl⟩
      | bl b => simp [subTy]; exact ⟨qs, hq, by simp [szD] at hl; omega, rfl⟩
      | int i => simp [subTy]; exact ⟨qs, hq, by simp [szD] at hl; omega, rfl⟩
      | str z => simp [subTy]; exact ⟨qs, hq, by simp [szD] at hl; omega, rfl⟩
      | _ => simp [okD] at hx
  · rintro t ⟨ps, o3, o4, o5, hp, hl, rfl⟩
    rw [rng_len] at hl
    simp at hl
end K31

set_option maxHeartbeats 400000
namespace K31
open PySem PySem.Spec PyProof.Rows L2 FL
/-! numbers as words -/
def numT (n : Nat) : Str := Str.ofString (toString ((n : Nat) : Int))
theorem numT_tl (n : Nat) : (numT n).cps.toList = TL.numL n := TL.tl_num n
theorem numT_len (n : Nat) : (numT n).length = (TL.numL n).length := by rw [← numT_tl]; simp [Str.length]
theorem numL_head : ∀ {n : Nat}, 0 < n → (TL.numL n).head? ≠ some 48 := by
  intro n
  induction n using Nat.strongRecOn with
  | _ n ih =>
    intro h
    by_cases h10 : n < 10
    · rw [TL.numL_lt h10]
      simp
      omega
    · rw [TL.numL_step (by omega)]
      have := ih (n / 10) (by omega) (by omega)
      have ne := TL.numL_ne (n / 10)
      cases e : TL.numL (n / 10) with
      | nil => exact absurd e ne
      | cons a r =>
        rw [e] at this
        simpa using this
theorem dig_in {c : Nat} (h : 48 ≤ c ∧ c ≤ 57) : c ∈ k_DIGITS.cps.toList := by
  have e : k_DIGITS.cps.toList = [48, 49, 50, 51, 52, 53, 54, 55, 56, 57] := by decide +kernel
  rw [e]
  simp
  omega
theorem isNumW_numT {n : Nat} (h : n < 1000000000000) : isNumW (numT n) = true := by
  have h1 := TL.numL_len (n := n) (k := 12) (by decide) h
  have h2 := TL.numL_ne n
  have h3 : 1 ≤ (TL.numL n).length := by
    cases e : TL.numL n with
    | nil => exact absurd e h2
    | cons a r => simp
  unfold isNumW
  rw [numT_len, numT_tl]
  simp only [Bool.and_eq_true, decide_eq_true_eq, List.all_eq_true, Bool.not_eq_true', Bool.and_eq_false_imp, decide_eq_false_iff_not]
  refine ⟨⟨⟨h3, h1⟩, fun hd => ?_⟩, fun c hc => dig_in (TL.numL_digits n c hc)⟩
  by_cases h0 : n = 0
  · subst h0
    rw [TL.numL_lt (by decide)]
    simp
  · exact absurd hd (numL_head (by omega))
theorem numV_numT {n : Nat} (h : n < 1000000000000) : numV (numT n) = .int n := by
  unfold numV
  rw [if_pos (isNumW_numT h), numT_tl, TL.numL_val]
theorem log_num {n : Nat} (h : n < 1000000000000) : (n : Int).natAbs.log2 < 1920 := by
  simp
  by_cases h0 : n = 0
  · subst h0; simp
  · have := (Nat.log2_lt h0 (k := 40)).mpr (by omega)
    omega
theorem oStr_num {n : Nat} (h : n < 1000000000000) : oStr [.int n] = some (.str (numT n)) := if_pos (log_num h)
/-! good words -/
def GoodW (w : Str) : Prop := w ≠ ⟨#[]⟩ ∧ ∀ c ∈ w.cps.toList, 32 ≤ c ∧ c ≤ 126
theorem ne_of_len {w : Str} (h : 1 ≤ w.length) : w ≠ ⟨#[]⟩ := fun e => by subst e; simp [Str.length] at h
theorem goodW_name {w : Str} (h : isName w = true) : GoodW w := by
  unfold isName at h
  simp only [Bool.and_eq_true, decide_eq_true_eq, List.all_eq_true] at h
  refine ⟨ne_of_len h.1.1, fun c hc => ?_⟩
  have := h.2 c hc
  have e : ∀ c ∈ k_LETTERS.cps.toList, 32 ≤ c ∧ c ≤ 126 := by decide +kernel
  exact e c this
theorem goodW_num {w : Str} (h : isNumW w = true) : GoodW w := by
  obtain ⟨h1, h2, h3⟩ := isNumW_digits h
  refine ⟨fun e => by subst e; exact h2 rfl, fun c hc => ?_⟩
  have := h1 c hc
  omega
theorem goodW_kind {w : Str} (h : isKind w = true) : GoodW w := by
  unfold isKind at h
  simp only [decide_eq_true_eq] at h
  have e : ∀ z ∈ kindsL, z ≠ (⟨#[]⟩ : Str) ∧ ∀ c ∈ z.cps.toList, 32 ≤ c ∧ c ≤ 126 := by decide +kernel
  exact e w h
theorem goodW_form {w : Str} {ss : List Srt} (h : formOf w = some ss) : GoodW w := by
  unfold formOf at h
  obtain ⟨p, hp, rfl⟩ := Option.map_eq_some_iff.mp h
  have hm := List.mem_of_find?_eq_some hp
  have hk := List.find?_some hp
  simp at hk
  have e : ∀ p ∈ forms, p.1 ≠ (⟨#[]⟩ : Str) ∧ ∀ c ∈ p.1.cps.toList, 32 ≤ c ∧ c ≤ 126 := by decide +kernel
  rw [← hk]
  exact e p hm
theorem words_join {ws : List Str} (h : ws ≠ []) (f : ∀ w ∈ ws, 32 ∉ w.cps.toList) : words (Txt.join ⟨#[32]⟩ ws) = ws := split_join h f
theorem words_free (z : Str) : ∀ w ∈ words z, 32 ∉ w.cps.toList := StrLaws.split_free z 32
theorem goodW_v1 {s : Srt} {w : Str} (h : oIsN (s.v1 w) = false) : GoodW w := by
  cases s
  all_goals
    simp only [Srt.v1] at h
  case number => 
    unfold numV at h
    split at h
    · exact goodW_num (by assumption)
    · cases h
  case name =>
    unfold nameV at h
    split at h
    · exact goodW_name (by assumption)
    · cases h
  all_goals
    unfold kindV at h
    split at h
    · exact goodW_kind (by assumption)
    · cases h
theorem join_mem {ws : List Str} {w : Str} {c : Nat} (h : w ∈ ws) (hc : c ∈ w.cps.toList) : c ∈ (Txt.join ⟨#[32]⟩ ws).cps.toList := by
  rw [tjoin, sjoin_cps]
  exact jn_mem (List.mem_map.mpr ⟨w, h, rfl⟩) hc
theorem goodW_free {ws : List Str} (f : ∀ w ∈ ws, 32 ∉ w.cps.toList) (h : isFree (Txt.join ⟨#[32]⟩ ws) = true) : ∀ w ∈ ws, GoodW w := fun w hw => by
  unfold isFree at h
  simp only [Bool.and_eq_true, decide_eq_true_eq, List.all_eq_true, Bool.not_eq_true', decide_eq_false_iff_not] at h
  refine ⟨fun e => h.2 ?_, fun c hc => h.1 c (join_mem hw hc)⟩
  rw [words_join (List.ne_nil_of_mem hw) f, ← e]
  exact hw
theorem goodW_list {g : Str → D} (hg : ∀ w, oIsN (g w) = false → GoodW w) {ws : List Str} (h : oIsN (listV g ws) = false) : ∀ w ∈ ws, GoodW w := fun w hw => by
  unfold listV at h
  split at h
  · cases h
  · rename_i hn
    simp only [Bool.not_eq_true, List.any_eq_false] at hn
    exact hg w (by simpa using hn w hw)
theorem goodW_vs {s : Srt} {ws : List Str} (f : ∀ w ∈ ws, 32 ∉ w.cps.toList) (h : oIsN (s.vs ws) = false) : ∀ w ∈ ws, GoodW w := by
  cases s
  all_goals
    simp only [Srt.vs] at h
  case text =>
    unfold textV at h
    split at h
    · exact goodW_free f (by assumption)
    · cases h
  case names => exact goodW_list (fun w hw => goodW_v1 (s := .name) hw) h
  all_goals exact goodW_list (fun w hw => goodW_v1 (s := .number) hw) h
theorem goodW_args : ∀ {ss : List Srt} {ws rest : List Str} {as : List D}, (∀ w ∈ ws, 32 ∉ w.cps.toList) → argsOf ss ws = some (as, rest) → ∀ w ∈ ws, w ∈ rest ∨ GoodW w
  | [], ws, rest, as, f, h => by
    simp only [argsOf, Option.some.injEq, Prod.mk.injEq] at h
    intro w hw
    exact .inl (h.2 ▸ hw)
  | s :: ss, ws, rest, as, f, h => by
    unfold argsOf at h
    split at h
    · split at h
      · cases h
      · rename_i hn
        intro w hw
        exact .inr (goodW_vs f (by simpa using hn) w hw)
    · split at h
      · cases h
      · rename_i w0 r0
        split at h
        · cases h
        · rename_i hn
          obtain ⟨p, hp, e⟩ := Option.map_eq_some_iff.mp h
          simp only [Prod.mk.injEq] at e
          intro w hw
          rcases List.mem_cons.mp hw with rfl | hw
          · exact .inr (goodW_v1 (by simpa using hn))
          · have := goodW_args (as := p.1) (rest := p.2) (fun w hw => f w (by simp [hw])) hp w hw
            rw [e.2] at this
            exact this
/-- a line with a bad word is bad -/
theorem parse_bad {z w : Str} (hw : w ∈ words z) (hb : ¬ GoodW w) : parse z = .non := by
  unfold parse
  split
  · rfl
  · unfold parseW
    have f := words_free z
    split
    · rfl
    · rename_i w0 r e
      rw [e] at hw f
      split
      · rfl
      · rename_i ss hf
        split
        · rename_i as ha
          exfalso
          rcases List.mem_cons.mp hw with rfl | hw
          · exact hb (goodW_form hf)
          · rcases goodW_args (fun w hw => f w (by simp [hw])) ha w hw with h | h
            · cases h
            · exact hb h
        · rfl
end K31

set_option maxHeartbeats 400000
namespace K31
open PySem PySem.Spec PyProof.Rows L2 FL
/-- a value of a sort, the texts told of it, its words -/
inductive ArgOk : Srt → D → List Str → List Str → Prop
  | number {n : Nat} (h : n < 1000000000000) : ArgOk .number (.int n) [numT n] [numT n]
  | name {z : Str} (h : isName z = true) : ArgOk .name (.str z) [z] [z]
  | kind {z : Str} (h : isKind z = true) : ArgOk .kind (.str z) [z] [z]
  | text {z : Str} (h : isFree z = true) (hl : z.length ≤ 2000) (ha : Asc z) : ArgOk .text (.str z) [z] (words z)
  | names {zs : List Str} (h : ∀ z ∈ zs, isName z = true) (hl : zs.length ≤ 200) : ArgOk .names (.lst (zs.map .str)) zs zs
  | numbers {ns : List Nat} (h : ∀ n ∈ ns, n < 1000000000000) (hl : ns.length ≤ 200) : ArgOk .numbers (.lst (ns.map fun n : Nat => .int n)) (ns.map numT) (ns.map numT)
inductive ArgsOk : List Srt → List D → List Str → List Str → Prop
  | nil : ArgsOk [] [] [] []
  | last {s : Srt} {d : D} {ts ws : List Str} (h : ArgOk s d ts ws) : ArgsOk [s] [d] ts ws
  | cons {s : Srt} {d : D} {ts ws : List Str} {ss : List Srt} {ds : List D} {ts2 ws2 : List Str} (hs : s.tail = false) (h : ArgOk s d ts ws) (r : ArgsOk ss ds ts2 ws2) : ArgsOk (s :: ss) (d :: ds) (ts ++ ts2) (ws ++ ws2)
theorem words_back (z : Str) : Txt.join ⟨#[32]⟩ (words z) = z := by
  apply str_ext
  rw [tjoin, sjoin_cps]
  exact split_jn z 32
theorem any_false {α : Type} {p : α → Bool} {xs : List α} (h : ∀ x ∈ xs, p x = false) : xs.any p = false := by
  rw [List.any_eq_false]
  intro x hx
  simp [h x hx]
theorem nameV_ok {z : Str} (h : isName z = true) : nameV z = .str z := if_pos h
theorem arg_one {s : Srt} (hs : s.tail = false) {d : D} {ts ws : List Str} (h : ArgOk s d ts ws) : ∃ w, ws = [w] ∧ ts = [w] ∧ s.v1 w = d ∧ oIsN d = false := by
  cases h
  · rename_i n h
    exact ⟨_, rfl, rfl, numV_numT h, rfl⟩
  · rename_i z h
    exact ⟨_, rfl, rfl, if_pos h, rfl⟩
  · rename_i z h
    exact ⟨_, rfl, rfl, if_pos h, rfl⟩
  all_goals cases hs
theorem arg_vs {s : Srt} (hs : s.tail = true) {d : D} {ts ws : List Str} (h : ArgOk s d ts ws) : s.vs ws = d ∧ oIsN d = false := by
  cases h
  all_goals first | cases hs | skip
  · rename_i z h hl ha
    simp only [Srt.vs, textV, words_back]
    rw [if_pos h]
    exact ⟨rfl, rfl⟩
  · rename_i h hl
    simp only [Srt.vs, listV]
    rw [any_false fun x hx => by rw [nameV_ok (h x hx)]; rfl]
    simp only [Bool.false_eq_true, if_false]
    exact ⟨congrArg D.lst (List.map_congr_left fun x hx => nameV_ok (h x hx)), rfl⟩
  · rename_i ns h hl
    simp only [Srt.vs, listV]
    rw [any_false fun x hx => by
      obtain ⟨n, hn, rfl⟩ := List.mem_map.mp hx
      rw [numV_numT (h n hn)]; rfl]
    simp only [Bool.false_eq_true, if_false, List.map_map]
    exact ⟨congrArg D.lst (List.map_congr_left fun n hn => numV_numT (h n hn)), rfl⟩
theorem args_ok : ∀ {ss : List Srt} {ds : List D} {ts ws : List Str}, ArgsOk ss ds ts ws → argsOf ss ws = some (ds, [])
  | _, _, _, _, .nil => rfl
  | _, _, _, _, .last (s := s) h => by
    unfold argsOf
    cases ht : s.tail with
    | true =>
      obtain ⟨e, hn⟩ := arg_vs ht h
      simp [e, hn, argsOf]
    | false =>
      obtain ⟨w, rfl, rfl, e, hn⟩ := arg_one ht h
      simp [e, hn, argsOf]
  | _, _, _, _, .cons (s := s) hs h r => by
    obtain ⟨w, rfl, rfl, e, hn⟩ := arg_one hs h
    simp [argsOf, hs, e, hn, args_ok r]
theorem jn_glue {c : Nat} : ∀ {xs ps qs : List (List Nat)}, jn c ps = jn c qs → (ps = [] ↔ qs = []) → jn c (xs ++ ps) = jn c (xs ++ qs)
  | [], ps, qs, h, _ => h
  | x :: xs, ps, qs, h, hn => by
    by_cases hx : xs ++ ps = []
    · have : xs ++ qs = [] := by
        simp at hx ⊢
        exact ⟨hx.1, hn.mp hx.2⟩
      rw [List.cons_append, List.cons_append, hx, this]
    · have : xs ++ qs ≠ [] := fun e => hx (by
        simp at e ⊢
        exact ⟨e.1, hn.mpr e.2⟩)
      rw [List.cons_append, List.cons_append, jn_cons _ _ hx, jn_cons _ _ this, jn_glue h hn]
/-- the same line -/
theorem arg_line {s : Srt} {d : D} {ts ws : List Str} (h : ArgOk s d ts ws) : jn 32 (ts.map (·.cps.toList)) = jn 32 (ws.map (·.cps.toList)) ∧ (ts = [] ↔ ws = []) ∧ ∀ w ∈ ws, 32 ∉ w.cps.toList := by
  have nsp : ∀ {w : Str}, GoodW w → True := fun _ => trivial
  have nm : ∀ {z : Str}, isName z = true → 32 ∉ z.cps.toList := fun {z} h hm => by
    unfold isName at h
    simp only [Bool.and_eq_true, decide_eq_true_eq, List.all_eq_true] at h
    have e : 32 ∉ k_LETTERS.cps.toList := by decide +kernel
    exact e (h.2 32 hm)
  have nn : ∀ {n : Nat}, 32 ∉ (numT n).cps.toList := fun {n} => by rw [numT_tl]; exact TL.numL_free (by omega)
  cases h
  · exact ⟨rfl, by simp, by simpa using nn⟩
  · rename_i h
    exact ⟨rfl, by simp, by simpa using nm h⟩
  · rename_i z h
    refine ⟨rfl, by simp, ?_⟩
    have e : ∀ z ∈ kindsL, 32 ∉ z.cps.toList := by decide +kernel
    unfold isKind at h
    simp only [decide_eq_true_eq] at h
    simpa using e z h
  · rename_i z h hl ha
    refine ⟨?_, by simpa using (show words z ≠ [] from split_ne z _), words_free z⟩
    show _ = jn 32 ((Txt.split z ⟨#[32]⟩).map (·.cps.toList))
    rw [split_jn]
    rfl
  · rename_i h hl
    exact ⟨rfl, Iff.rfl, fun w hw => nm (h w hw)⟩
  · rename_i ns h hl
    refine ⟨rfl, Iff.rfl, fun w hw => ?_⟩
    obtain ⟨n, _, rfl⟩ := List.mem_map.mp hw
    exact nn
theorem args_line : ∀ {ss : List Srt} {ds : List D} {ts ws : List Str}, ArgsOk ss ds ts ws → jn 32 (ts.map (·.cps.toList)) = jn 32 (ws.map (·.cps.toList)) ∧ (ts = [] ↔ ws = []) ∧ ∀ w ∈ ws, 32 ∉ w.cps.toList
  | _, _, _, _, .nil => ⟨rfl, by simp, by simp⟩
  | _, _, _, _, .last h => arg_line h
  | _, _, _, _, .cons hs h r => by
    obtain ⟨w, rfl, rfl, e, hn⟩ := arg_one hs h
    obtain ⟨h1, h2, h3⟩ := arg_line h
    obtain ⟨i1, i2, i3⟩ := args_line r
    refine ⟨?_, by simp, fun x hx => ?_⟩
    · rw [List.map_append, List.map_append]
      exact jn_glue i1 (by simpa using i2)
    · rcases List.mem_append.mp hx with hx | hx
      · exact h3 x hx
      · exact i3 x hx
/-- a good order and its line -/
def GoodO (o : D) (z : Str) : Prop := ∃ kd ss ds ts ws, o = .tup (.str kd :: ds) ∧ formOf kd = some ss ∧ ArgsOk ss ds ts ws ∧ z = Txt.join ⟨#[32]⟩ (kd :: ts)
theorem form_free {kd : Str} {ss : List Srt} (h : formOf kd = some ss) : 32 ∉ kd.cps.toList := by
  unfold formOf at h
  obtain ⟨p, hp, rfl⟩ := Option.map_eq_some_iff.mp h
  have hm := List.mem_of_find?_eq_some hp
  have hk := List.find?_some hp
  simp at hk
  have e : ∀ p ∈ forms, 32 ∉ p.1.cps.toList := by decide +kernel
  rw [← hk]
  exact e p hm
theorem goodO_words {o : D} {z : Str} (h : GoodO o z) : parseW (words z) = o := by
  obtain ⟨kd, ss, ds, ts, ws, rfl, hf, ha, rfl⟩ := h
  obtain ⟨i1, i2, i3⟩ := args_line ha
  have e : Txt.join ⟨#[32]⟩ (kd :: ts) = Txt.join ⟨#[32]⟩ (kd :: ws) := by
    apply str_ext
    rw [tjoin, tjoin, sjoin_cps, sjoin_cps]
    exact jn_glue (xs := [kd.cps.toList]) i1 (by simpa using i2)
  rw [e, words_join (by simp) (fun w hw => by
    rcases List.mem_cons.mp hw with rfl | hw
    · exact form_free hf
    · exact i3 w hw)]
  simp only [parseW, hf, args_ok ha]
theorem goodO_parse {o : D} {z : Str} (h : GoodO o z) : parse z = if 200 < z.length then .non else o := by
  unfold parse
  rw [goodO_words h]
end K31

set_option maxHeartbeats 400000
namespace K31
open PySem PySem.Spec PyProof.Rows L2 FL
def Plain (t : Str) : Prop := ∀ c ∈ t.cps.toList, 32 ≤ c ∧ c ≤ 126
def sumL (ts : List Str) : Nat := (ts.map (·.length)).sum + ts.length
theorem sumL_app (xs ys : List Str) : sumL (xs ++ ys) = sumL xs + sumL ys := by simp [sumL]; omega
theorem sumL_le {k : Nat} : ∀ {ts : List Str}, (∀ t ∈ ts, t.length ≤ k) → sumL ts ≤ ts.length * (k + 1)
  | [], _ => by simp [sumL]
  | t :: ts, h => by
    have := sumL_le (ts := ts) fun t m => h t (by simp [m])
    have h1 := h t (by simp)
    simp [sumL] at this ⊢
    rw [Nat.add_mul]
    omega
theorem numT_len12 {n : Nat} (h : n < 1000000000000) : (numT n).length ≤ 12 := by rw [numT_len]; exact TL.numL_len (by decide) h
theorem isName_len {z : Str} (h : isName z = true) : 1 ≤ z.length ∧ z.length ≤ 8 := by
  unfold isName at h
  simp only [Bool.and_eq_true, decide_eq_true_eq, List.all_eq_true] at h
  exact h.1
theorem plain_num (n : Nat) : Plain (numT n) := fun c hc => by
  rw [numT_tl] at hc
  have := TL.numL_digits n c hc
  omega
theorem arg_plain {s : Srt} {d : D} {ts ws : List Str} (h : ArgOk s d ts ws) : (∀ t ∈ ts, Plain t) ∧ sumL ts ≤ 4000 := by
  cases h
  · rename_i n h
    exact ⟨by simpa using plain_num n, by have := numT_len12 h; simp [sumL]; omega⟩
  · rename_i h
    exact ⟨fun t ht => by simp at ht; subst ht; exact (goodW_name h).2, by have := isName_len h; simp [sumL]; omega⟩
  · rename_i z h
    refine ⟨fun t ht => by simp at ht; subst ht; exact (goodW_kind h).2, ?_⟩
    unfold isKind at h
    have e : ∀ z ∈ kindsL, z.length ≤ 10 := by decide +kernel
    have := e z (by simpa using h)
    simp [sumL]
    omega
  · rename_i h hl ha
    unfold isFree at h
    simp only [Bool.and_eq_true, decide_eq_true_eq, List.all_eq_true, Bool.not_eq_true', decide_eq_false_iff_not] at h
    exact ⟨fun t ht => by simp at ht; subst ht; exact h.1, by simp [sumL]; omega⟩
  · rename_i h hl
    refine ⟨fun t ht => (goodW_name (h t ht)).2, ?_⟩
    have := sumL_le (k := 8) fun t ht => (isName_len (h t ht)).2
    omega
  · rename_i ns h hl
    refine ⟨fun t ht => ?_, ?_⟩
    · obtain ⟨n, _, rfl⟩ := List.mem_map.mp ht
      exact plain_num n
    · have := sumL_le (k := 12) (ts := ns.map numT) fun t ht => by
        obtain ⟨n, hn, rfl⟩ := List.mem_map.mp ht
        exact numT_len12 (h n hn)
      simp at this
      omega
theorem args_plain : ∀ {ss : List Srt} {ds : List D} {ts ws : List Str}, ArgsOk ss ds ts ws → (∀ t ∈ ts, Plain t) ∧ sumL ts ≤ 4000 * ss.length
  | _, _, _, _, .nil => ⟨by simp, by simp [sumL]⟩
  | _, _, _, _, .last h => by simpa using arg_plain h
  | _, _, _, _, .cons hs h r => by
    obtain ⟨h1, h2⟩ := arg_plain h
    obtain ⟨i1, i2⟩ := args_plain r
    refine ⟨fun t ht => ?_, ?_⟩
    · rcases List.mem_append.mp ht with ht | ht
      · exact h1 t ht
      · exact i1 t ht
    · rw [sumL_app]
      simp
      omega
theorem plain_asc {t : Str} (h : Plain t) : Asc t := fun c hc => by have := h c hc; omega
theorem plain_join {ts : List Str} (h : ∀ t ∈ ts, Plain t) : Plain (Txt.join ⟨#[32]⟩ ts) := fun c hc => by
  rw [tjoin, sjoin_cps] at hc
  have : ∀ (ps : List (List Nat)), (∀ p ∈ ps, ∀ c ∈ p, 32 ≤ c ∧ c ≤ 126) → ∀ c ∈ jn 32 ps, 32 ≤ c ∧ c ≤ 126 := by
    intro ps
    induction ps with
    | nil => simp [jn]
    | cons p r ih =>
      intro h c hc
      by_cases hr : r = []
      · subst hr
        exact h p (by simp) c hc
      · rw [jn_cons _ _ hr] at hc
        simp at hc
        rcases hc with hc | rfl | hc
        · exact h p (by simp) c hc
        · omega
        · exact ih (fun q hq => h q (by simp [hq])) c hc
  refine this _ (fun p hp => ?_) c hc
  obtain ⟨w, hw, rfl⟩ := List.mem_map.mp hp
  exact h w hw
theorem form_len {kd : Str} {ss : List Srt} (h : formOf kd = some ss) : kd.length ≤ 10 ∧ PyData.strOk kd = true := by
  unfold formOf at h
  obtain ⟨p, hp, rfl⟩ := Option.map_eq_some_iff.mp h
  have hm := List.mem_of_find?_eq_some hp
  have hk := List.find?_some hp
  simp at hk
  have e : ∀ p ∈ forms, p.1.length ≤ 10 ∧ PyData.strOk p.1 = true := by decide +kernel
  rw [← hk]
  exact e p hm
theorem told_wd {kd : Str} {ss : List Srt} {ds : List D} {ts ws : List Str} (hf : formOf kd = some ss) (ha : ArgsOk ss ds ts ws) : (∀ t ∈ kd :: ts, Plain t) ∧ sumL (kd :: ts) ≤ 20011 := by
  obtain ⟨h1, h2⟩ := args_plain ha
  have h3 := forms_len hf
  have h4 := (form_len hf).1
  refine ⟨fun t ht => ?_, ?_⟩
  · rcases List.mem_cons.mp ht with rfl | ht
    · exact (goodW_form hf).2
    · exact h1 t ht
  · simp [sumL] at h2 ⊢
    omega
theorem goodO_line {o : D} {z : Str} (h : GoodO o z) : Plain z ∧ z.length ≤ 20011 := by
  obtain ⟨kd, ss, ds, ts, ws, rfl, hf, ha, rfl⟩ := h
  obtain ⟨h1, h2⟩ := told_wd hf ha
  exact ⟨plain_join h1, by have := join_len (kd :: ts) 32; unfold sumL at h2; omega⟩
/-! the law's own line -/
inductive Ent : D → List Str → Prop
  | int {n : Nat} (h : n < 1000000000000) : Ent (.int n) [numT n]
  | str {z : Str} : Ent (.str z) [z]
  | strs {zs : List Str} (hl : zs.length ≤ 200) : Ent (.lst (zs.map .str)) zs
  | ints {ns : List Nat} (h : ∀ n ∈ ns, n < 1000000000000) (hl : ns.length ≤ 200) : Ent (.lst (ns.map fun n : Nat => .int n)) (ns.map numT)
inductive Ents : List D → List Str → Prop
  | nil : Ents [] []
  | cons {d : D} {ds : List D} {t ts : List Str} (h : Ent d t) (r : Ents ds ts) : Ents (d :: ds) (t ++ ts)
theorem ent_arg {s : Srt} {d : D} {ts ws : List Str} (h : ArgOk s d ts ws) : Ent d ts := by
  cases h
  · exact .int (by assumption)
  · exact .str
  · exact .str
  · exact .str
  · exact .strs (by assumption)
  · exact .ints (by assumption) (by assumption)
theorem ents_args : ∀ {ss : List Srt} {ds : List D} {ts ws : List Str}, ArgsOk ss ds ts ws → Ents ds ts
  | _, _, _, _, .nil => .nil
  | _, _, _, _, .last h => by simpa using Ents.cons (ent_arg h) .nil
  | _, _, _, _, .cons hs h r => .cons (ent_arg h) (ents_args r)
def line_body : SC := (sIf (iBl (iIsi (isiB "list") (iVar 2)))
 (sPre 1 (sSetO 1 (iBinN oCatD (iVar 1) (iFz (iLc [3] (iSq (iVar 2)) (gSlot 3) (fun ŝ => .ok true ŝ)
 (iFn oStr (iCons (iVar 3) iNil)))))))
 (sDrop (iOwn 1 gAppend (iCons (iFn oStr (iCons (iVar 2) iNil)) iNil))))
theorem line_loop (o : D) {N : AS → Prop} {R : Ret → AS → Prop} {X : Exn → AS → Prop} : ∀ (ds : List D) (ts acc : List Str) (o2 : Option FL.Slot), Ents ds ts → acc.length + ts.length ≤ 100000 →
    (∀ o2, N [some (.fz o), some (.ow ((acc ++ ts).map D.str)), o2, none]) → LQ ds [some (.fz o), some (.ow (acc.map D.str)), o2, none] (gSlot 2) line_body N R X
  | _, _, acc, o2, .nil, hl, hN => by
    simp
    simpa using hN o2
  | _, _, acc, o2, .cons (d := d) (ds := ds) (t := t) (ts := ts) h r, hl, hN => by
    refine LQ_cons ?_
    unfold line_body
    simp at hl
    have go : ∀ o2, LQ ds [some (.fz o), some (.ow ((acc ++ t).map D.str)), o2, none] (gSlot 2) line_body N R X := fun o2 => line_loop o ds ts (acc ++ t) o2 r (by simp; omega) fun o2 => by
      have := hN o2
      simpa using this
    cases h
    · rename_i n h
      simp [subTy, oStr_num h, gAppend, show acc.length < 16777216 by omega]
      simpa [line_body, Function.comp_def] using go _
    · simp [subTy, gAppend, show acc.length < 16777216 by omega]
      simpa [line_body, Function.comp_def] using go _
    · simp [subTy]
      refine CQ_map (fun d => d) (by simp; omega) (fun d hd => ?_) ?_
      · obtain ⟨z, _, rfl⟩ := List.mem_map.mp hd
        simp
      · simp [oCatD, oCat, lstD, show acc.length + t.length ≤ 16777216 by omega]
        simpa [line_body, Function.comp_def] using go _
    · rename_i ns h hl2
      simp [subTy]
      refine CQ_map (fun d => match d with | .int i => .str (numT i.toNat) | _ => .non) (by simp; omega) (fun d hd => ?_) ?_
      · obtain ⟨n, hn, rfl⟩ := List.mem_map.mp hd
        simp [oStr_num (h n hn)]
      · simp at hl
        have e : ((fun d : D => match d with | .int i => D.str (numT i.toNat) | _ => .non) ∘ fun n : Nat => D.int n) = D.str ∘ numT := by
          funext n
          simp
        simp [oCatD, oCat, lstD, e, show acc.length + ns.length ≤ 16777216 by omega]
        simpa [line_body, Function.comp_def] using go _
theorem order_line_eq {ds : List D} {ts : List Str} {o : D} (ho : o = .lst ds ∨ o = .tup ds) (h : Ents ds ts) (hs : sumL ts ≤ 100000) : m__law_order_line [.fz o] = .rt (.fz (.str (Txt.join ⟨#[32]⟩ ts))) [] := by
  refine FQ_is ?_
  unfold m__law_order_line
  rw [FQ_run]
  unfold b__law_order_line
  have hj : oJoin (.str ⟨#[32]⟩) [.lst (ts.map D.str)] = some (.str (Txt.join ⟨#[32]⟩ ts)) := join_str (by unfold sumL at hs; simp [Str.length] at hs ⊢; omega)
  have : ∀ (o : D), LQ ds [some (Slot.fz o), some (Slot.ow ([].map D.str)), none, none] (gSlot 2) line_body (fun s => letS (frzA s 1) fun s => getF s 1 fun d => optP (oJoin (.str ⟨#[32]⟩) [d]) fun w => .str (Txt.join ⟨#[32]⟩ ts) = w) (fun r s => Ret.fz (.str (Txt.join ⟨#[32]⟩ ts)) = r) fun x s => False := fun o => line_loop o ds ts [] none h (by unfold sumL at hs; simp; omega) fun o2 => by
    simp [hj]
  rcases ho with rfl | rfl
  · simp [List.replicate_succ, spS]
    exact this _
  · simp [List.replicate_succ, spS]
    exact this _
theorem goodO_line_eq {o : D} {z : Str} (h : GoodO o z) : m__law_order_line [.fz o] = .rt (.fz (.str z)) [] := by
  obtain ⟨kd, ss, ds, ts, ws, rfl, hf, ha, rfl⟩ := h
  obtain ⟨h1, h2⟩ := told_wd hf ha
  exact order_line_eq (.inr rfl) (by simpa using Ents.cons (.str (z := kd)) (ents_args ha)) (by omega)
end K31

set_option maxHeartbeats 400000
namespace K31
open PySem PySem.Spec PyProof.Rows L2 FL
theorem pw12 : oPow (.int 10) (.int 12) = some (.int 1000000000000) := by simp [oPow]
theorem number_told_ok {n : Nat} (h : n < 1000000000000) : m_number_told [.fz (.int n)] = .rt (.fz (.str (numT n))) [] := by
  refine FQ_is ?_
  unfold m_number_told
  rw [FQ_run]
  unfold b_number_told
  have h' : (n : Int) < 1000000000000 := by omega
  simp [List.replicate_succ, subTy, pw12, h', oStr_num h]
theorem told_num {n : Nat} (h : n < 1000000000000) : m_word_told [.fz (.str "number"), .fz (.int n)] = .rt (.fz (.str (numT n))) [] := by
  refine FQ_is ?_
  unfold m_word_told
  rw [FQ_run]
  unfold b_word_told
  simp [List.replicate_succ, e_nn, number_told_ok h]
theorem told_name {z : Str} (h : isName z = true) : m_word_told [.fz (.str "name"), .fz (.str z)] = .rt (.fz (.str z)) [] := by
  refine FQ_is ?_
  unfold m_word_told
  rw [FQ_run]
  unfold b_word_told
  have := isName_len h
  simp [List.replicate_succ, e_mn, e_mm, is_name_eq (show z.length ≤ 16777216 by omega), h]
theorem told_kind {z : Str} (h : isKind z = true) : m_word_told [.fz (.str "kind"), .fz (.str z)] = .rt (.fz (.str z)) [] := by
  refine FQ_is ?_
  unfold m_word_told
  rw [FQ_run]
  unfold b_word_told
  simp [List.replicate_succ, e_kn, e_km, is_kind_eq, h]
theorem e_nt : oEq (.str "number") (.str "text") = some (.bl false) := eqK (by decide +kernel)
theorem e_mt : oEq (.str "name") (.str "text") = some (.bl false) := eqK (by decide +kernel)
theorem e_kt : oEq (.str "kind") (.str "text") = some (.bl false) := eqK (by decide +kernel)
theorem t_n : isTail "number" = false := by decide +kernel
theorem t_m : isTail "name" = false := by decide +kernel
theorem t_k : isTail "kind" = false := by decide +kernel
theorem t_a : isTail "names" = true := by decide +kernel
theorem t_u : isTail "numbers" = true := by decide +kernel
theorem any_non (zs : List Str) : oAny [.lst (zs.map fun _ => D.bl false)] = some (.bl false) := by
  rw [oAny_map]
  simp
theorem words_told_ok {s : Srt} {d : D} {ts ws : List Str} (h : ArgOk s d ts ws) : m_words_told [.fz (.str s.str), .fz d] = .rt (.fz (.lst (ts.map .str))) [] := by
  refine FQ_is ?_
  unfold m_words_told
  rw [FQ_run]
  unfold b_words_told
  have one : ∀ (w : Str) (s : AS) (Q : List D → AS → Prop) (k : Nat) (X : Exn → AS → Prop), Q [.bl false] s → s.length > k → (∀ d, letS (s.set k (some (.fz d))) fun t => OQ (iUn (fun d => some (.bl (oIsN d))) (iVar k) t) (fun x w => x = .bl (oIsN d) ∧ w.set k none = s) (fun _ _ => False)) → CQ [.str w] [] s [k] (gSlot k) (fun ŝ => .ok true ŝ) (iUn (fun d => some (.bl (oIsN d))) (iVar k)) Q X := fun w s Q k X hq _ h2 => CQ_map (fun d => .bl (oIsN d)) (by simp) (fun d _ => h2 d) (by simpa using hq)
  have fa : oAny [.lst [.bl false]] = some (.bl false) := rfl
  cases h
  · rename_i n h
    simp [List.replicate_succ, Srt.str, e_nt, oInT_tails, t_n, told_num h]
    refine one _ _ _ _ _ ?_ (by simp) (fun d => by simp)
    simp [fa]
  · rename_i z h
    simp [List.replicate_succ, Srt.str, e_mt, oInT_tails, t_m, told_name h]
    refine one _ _ _ _ _ ?_ (by simp) (fun d => by simp)
    simp [fa]
  · rename_i z h
    simp [List.replicate_succ, Srt.str, e_kt, oInT_tails, t_k, told_kind h]
    refine one _ _ _ _ _ ?_ (by simp) (fun d => by simp)
    simp [fa]
  · rename_i z h hl ha
    simp [List.replicate_succ, Srt.str, e_tt, is_free_text_eq (show z.length ≤ 1000000 by omega) ha, h]
  · rename_i h hl
    simp [List.replicate_succ, Srt.str, e_at, oInT_tails, t_a, subTy, e_aa]
    refine CQ_map (fun d => d) (by simp; omega) (fun d hd => ?_) ?_
    · obtain ⟨z, hz, rfl⟩ := List.mem_map.mp hd
      simp [told_name (h z hz)]
    · simp [Function.comp_def]
      refine CQ_map (fun d => .bl (oIsN d)) (by simp; omega) (fun d hd => by simp) ?_
      simp [Function.comp_def, any_non]
  · rename_i ns h hl
    simp [List.replicate_succ, Srt.str, e_ut, oInT_tails, t_u, subTy, e_ua]
    refine CQ_map (fun d => match d with | .int i => .str (numT i.toNat) | _ => .non) (by simp; omega) (fun d hd => ?_) ?_
    · obtain ⟨n, hn, rfl⟩ := List.mem_map.mp hd
      simp [told_num (h n hn)]
    · simp [Function.comp_def]
      refine CQ_map (fun d => .bl (oIsN d)) (by simp; omega) (fun d hd => by simp) ?_
      have := any_non (ns.map numT)
      simp [Function.comp_def] at this
      simp [Function.comp_def, this]
def toldD : D → List Str
  | .int i => [numT i.toNat]
  | .str z => [z]
  | .lst xs => xs.map fun d => match d with
    | .int i => numT i.toNat
    | .str z => z
    | _ => Str.empty
  | _ => []
theorem arg_told {s : Srt} {d : D} {ts ws : List Str} (h : ArgOk s d ts ws) : ts = toldD d := by
  cases h <;> simp [toldD, Function.comp_def]
theorem args_parts : ∀ {ss : List Srt} {ds : List D} {ts ws : List Str}, ArgsOk ss ds ts ws → ts = (ds.map toldD).flatten ∧ ds.length = ss.length ∧ ∀ (k : Nat) (s : Srt), ss[k]? = some s → ∃ d ts ws, ds[k]? = some d ∧ ArgOk s d ts ws
  | _, _, _, _, .nil => ⟨rfl, rfl, by simp⟩
  | _, _, _, _, .last h => ⟨by simp [arg_told h], rfl, fun k s e => by
    cases k with
    | zero => simp at e; subst e; exact ⟨_, _, _, rfl, h⟩
    | succ k => simp at e⟩
  | _, _, _, _, .cons hs h r => by
    obtain ⟨i1, i2, i3⟩ := args_parts r
    refine ⟨by simp [arg_told h, i1], by simp [i2], fun k s e => ?_⟩
    cases k with
    | zero => simp at e; subst e; exact ⟨_, _, _, rfl, h⟩
    | succ k => simpa using i3 k s (by simpa using e)
theorem oIx_tup {xs : List D} {n : Nat} {d : D} (h : xs[n]? = some d) : oIx (.tup xs) (.int n) = some d := by
  have hn : n < xs.length := (List.getElem?_eq_some_iff.mp h).1
  simp [oIx, atI, ixN, hn]
  simpa [List.getElem?_eq_getElem hn] using h
theorem sumL_take {ds : List D} (k : Nat) : sumL ((ds.take k).map toldD).flatten ≤ sumL (ds.map toldD).flatten := by
  conv => rhs; rw [← List.take_append_drop k ds]
  rw [List.map_append, List.flatten_append, sumL_app]
  omega
theorem line_of_ok {o : D} {z : Str} (h : GoodO o z) : m_line_of [.fz o] = .rt (.fz (if z.length ≤ 200 then .str z else .non)) [] := by
  have hg := goodO_line h
  obtain ⟨kd, ss, ds, ts, ws, rfl, hf, ha, hz⟩ := h
  obtain ⟨h1, h2⟩ := told_wd hf ha
  obtain ⟨i1, i2, i3⟩ := args_parts ha
  have hs := forms_len hf
  refine FQ_is ?_
  unfold m_line_of
  rw [FQ_run]
  unfold b_line_of
  have i0 : oIx (.tup (.str kd :: ds)) (.int 0) = some (.str kd) := oIx_tup (n := 0) (by simp)
  have n1 : ¬ ((ds.length : Int) + 1 = 0) := by omega
  simp [List.replicate_succ, subTy, oEq_int, n1, i0, oInG, oIxG, tab_form, hf, oNe_int, i2]
  refine And.intro (by omega) ?_
  refine LQ_inv (fun k s => ∃ o3 o4, s = [some (.fz (.tup (.str kd :: ds))), some (.fz (.tup (ss.map fun s => .str s.str))), some (.ow ((kd :: ((ds.take k).map toldD).flatten).map .str)), o3, o4, none]) ⟨none, none, by simp⟩ ?_ ?_
  · rintro k d t hk ⟨o3, o4, rfl⟩
    obtain ⟨hk1, rfl⟩ := rng_get hk
    obtain ⟨d, ts1, ws1, hd, ok⟩ := i3 k _ (List.getElem?_eq_getElem hk1)
    have e1 : oIx (.tup (ss.map fun s => D.str s.str)) (.int k) = some (.str (ss[k]).str) := oIx_tup (by simp [hk1])
    have e2 : oIx (.tup (.str kd :: ds)) (.int ((k : Int) + 1)) = some d := oIx_tup (n := k + 1) (by simpa using hd)
    have b1 := sumL_take (ds := ds) k
    have b2 : sumL ts1 ≤ 4000 := (arg_plain ok).2
    rw [← i1] at b1
    have b3 : sumL (kd :: ts) = kd.length + 1 + sumL ts := by simp [sumL]; omega
    have hacc1 : ((ds.take (k + 1)).map toldD).flatten = ((ds.take k).map toldD).flatten ++ ts1 := by
      rw [List.take_add_one]
      simp [hd, arg_told ok]
    simp only [hacc1]
    generalize ((ds.take k).map toldD).flatten = acc at *
    have b4 : acc.length ≤ sumL acc := by simp only [sumL]; omega
    have b5 : ts1.length ≤ sumL ts1 := by simp only [sumL]; omega
    have e3 : gExtend (D.str kd :: List.map D.str acc) [D.lst (List.map D.str ts1)] = some (.non, (D.str kd :: List.map D.str acc) ++ List.map D.str ts1) := if_pos (by simp only [List.length_cons, List.length_map]; omega)
    simp [e1, e2, words_told_ok ok, e3]
  · rintro t ⟨o3, o4, rfl⟩
    have hj : oJoin (.str ⟨#[32]⟩) [.lst ((kd :: ts).map D.str)] = some (.str z) := by
      rw [hz]
      exact join_str (by unfold sumL at h2; simp [Str.length] at h2 ⊢; omega)
    have e : ((ds.take (rng 0 ss.length).length).map toldD).flatten = ts := by rw [rng_len, ← i2, List.take_length, i1]
    rw [e]
    simp at hj
    simp [hj, spS, oLen_str (show z.length ≤ 16777216 by omega)]
    split
    · omega
    · omega
end K31

set_option maxHeartbeats 400000
namespace K31
open PySem PySem.Spec PyProof.Rows L2 FL
def lnD : Option Str → D
  | some z => .str z
  | none => .non
def LnR (d : D) (o : Option Str) : Prop := m_line_of [.fz d] = .rt (.fz (lnD o)) [] ∧ ∀ z, o = some z → z.length ≤ 20011
inductive LnsR : List D → List (Option Str) → Prop
  | nil : LnsR [] []
  | cons {d : D} {o : Option Str} {ds : List D} {os : List (Option Str)} (h : LnR d o) (r : LnsR ds os) : LnsR (d :: ds) (o :: os)
theorem LnsR.app {ds es : List D} {os ps : List (Option Str)} (h : LnsR ds os) (k : LnsR es ps) : LnsR (ds ++ es) (os ++ ps) := by
  induction h with
  | nil => exact k
  | cons h _ ih => exact .cons h ih
theorem LnsR.len {ds : List D} {os : List (Option Str)} (h : LnsR ds os) : ds.length = os.length := by
  induction h with
  | nil => rfl
  | cons h _ ih => simp [ih]
def somes : List (Option Str) → Option (List Str)
  | [] => some []
  | none :: _ => none
  | some z :: os => (somes os).map (z :: ·)
def tell_body : SC := (sSeq (sSet 3 (iCallA 1 m_line_of (iCons (iVar 2) iNil)))
 (sSeq (sIf (iBl (iUn (fun d => some (.bl (oIsN d))) (iVar 3)))
 (sRaise "BadPaper" (iCons (iC (.str "not an order of a script")) iNil))
 sSkip)
 (sDrop (iOwn 1 gAppend (iCons (iVar 3) iNil)))))
theorem tell_loop (o : D) {N : AS → Prop} {R : Ret → AS → Prop} {X : Exn → AS → Prop} : ∀ (ds : List D) (os : List (Option Str)) (acc : List Str) (o2 o3 : Option FL.Slot), LnsR ds os → acc.length + ds.length ≤ 60 →
    (somes os = none → ∀ t, X ⟨"BadPaper", [], []⟩ t) →
    (∀ zs, somes os = some zs → ∀ o2 o3, N [some (.fz o), some (.ow ((acc ++ zs).map D.str)), o2, o3]) → LQ ds [some (.fz o), some (.ow (acc.map D.str)), o2, o3] (gSlot 2) tell_body N R X
  | _, _, acc, o2, o3, .nil, hl, h1, h2 => by
    simp
    simpa using h2 [] rfl o2 o3
  | _, _, acc, o2, o3, .cons (d := d) (o := ol) (ds := ds) (os := os) h r, hl, h1, h2 => by
    refine LQ_cons ?_
    unfold tell_body
    simp at hl
    cases ol with
    | none =>
      simp [h.1, lnD]
      exact h1 rfl _
    | some z =>
      simp [h.1, lnD, gAppend, show acc.length < 16777216 by omega]
      have := tell_loop o ds os (acc ++ [z]) (some (.fz d)) (some (.fz (.str z))) r (N := N) (R := R) (X := X) (by simp; omega) (fun e => h1 (by simp [somes, e])) fun zs e o2 o3 => by
        have := h2 (z :: zs) (by simp [somes, e]) o2 o3
        simpa using this
      simpa [tell_body] using this
theorem LnsR.sum {ds : List D} {os : List (Option Str)} (h : LnsR ds os) : ∀ {zs : List Str}, somes os = some zs → zs.length = ds.length ∧ ∀ z ∈ zs, z.length ≤ 20011 := by
  induction h with
  | nil => intro zs e; cases e; simp
  | @cons d o ds os h r ih =>
    intro zs e
    cases o with
    | none => cases e
    | some z =>
      obtain ⟨ys, e1, rfl⟩ := Option.map_eq_some_iff.mp e
      obtain ⟨i1, i2⟩ := ih e1
      exact ⟨by simp [i1], by simpa using ⟨h.2 z rfl, i2⟩⟩
theorem tell_script_eq {ds : List D} {os : List (Option Str)} (h : LnsR ds os) (hl : ds.length ≤ 60) : m_tell_script [.fz (.lst ds)] = match somes os with
    | none => .exn ⟨"BadPaper", [], []⟩ []
    | some zs => .rt (.fz (.str (Txt.join ⟨#[10]⟩ zs))) [] := by
  refine FQ_is ?_
  unfold m_tell_script
  rw [FQ_run]
  unfold b_tell_script
  have n60 : ¬ 60 < (ds.length : Int) := by omega
  simp [List.replicate_succ, subTy, n60]
  refine tell_loop (.lst ds) ds os [] none none h (by simpa using hl) (fun e t => ?_) fun zs e o2 o3 => ?_
  · simp [e]
  · obtain ⟨i1, i2⟩ := h.sum e
    have b := sumL_le i2
    have hj : oJoin (.str ⟨#[10]⟩) [.lst (zs.map D.str)] = some (.str (Txt.join ⟨#[10]⟩ zs)) := by
      refine join_str ?_
      have e1 : (⟨#[10]⟩ : Str).length = 1 := rfl
      rw [e1]
      unfold sumL at b
      have : zs.length * 20012 ≤ 60 * 20012 := Nat.mul_le_mul_right _ (by omega)
      omega
    simp [e, nlS, hj]
theorem tell_script_no {d : D} (h : isiB "list" d = some false) : m_tell_script [.fz d] = .exn ⟨"BadPaper", [], []⟩ [] := by
  refine FQ_is ?_
  unfold m_tell_script
  rw [FQ_run]
  unfold b_tell_script
  simp [List.replicate_succ, h]
theorem tell_script_long {ds : List D} (h : 60 < ds.length) : m_tell_script [.fz (.lst ds)] = .exn ⟨"BadPaper", [], []⟩ [] := by
  refine FQ_is ?_
  unfold m_tell_script
  rw [FQ_run]
  unfold b_tell_script
  have n60 : 60 < (ds.length : Int) := by omega
  simp [List.replicate_succ, subTy, n60]
theorem x1 : exm_BadPaper "BadPaper" = some true := by kernel_rfl
theorem x2 : isE_FigureError "BadPaper" = some true := by kernel_rfl
theorem x3 : isE_TextBad "BadPaper" = some false := by kernel_rfl
theorem x4 : isE_BadCount "BadPaper" = some false := by kernel_rfl
theorem x5 : exm_TextBad "TextBad" = some true := by kernel_rfl
theorem x6 : isE_BadPaper "TextBad" = some false := by kernel_rfl
theorem x7 : isE_BadCount "TextBad" = some false := by kernel_rfl
theorem refused_ok {d : D} (h : m_tell_script [.fz d] = .exn ⟨"BadPaper", [], []⟩ []) : m__law_refused [.fz d] = .rt (.fz (.bl true)) [] := by
  refine FQ_is ?_
  unfold m__law_refused
  rw [FQ_run]
  unfold b__law_refused
  simp [List.replicate_succ, h, x1, x2, x3, x4]
theorem law_read_bad {d : D} {k : Nat} (h : m_read_script [.fz d] = .exn ⟨"TextBad", ["line"], [.int k]⟩ []) : m__law_read [.fz d] = .rt (.ow [.int k, .non]) [] := by
  refine FQ_is ?_
  unfold m__law_read
  rw [FQ_run]
  unfold b__law_read
  simp [List.replicate_succ, h, x5, x6, x7]
theorem law_read_good {d : D} {ds : List D} (h : m_read_script [.fz d] = .rt (.ow ds) []) : m__law_read [.fz d] = .rt (.ow [.int 0, .lst ds]) [] := by
  refine FQ_is ?_
  unfold m__law_read
  rw [FQ_run]
  unfold b__law_read
  simp [List.replicate_succ, h]
end K31

set_option maxHeartbeats 400000
namespace K31
open PySem PySem.Spec PyProof.Rows L2 FL
theorem intsOf_map {α : Type} (f : α → Int) (xs : List α) : intsOf (xs.map fun x => D.int (f x)) = some (xs.map f) := by
  induction xs with
  | nil => rfl
  | cons x xs ih => simp [intsOf, intOf, ih]
def longs (lines : List Str) (n : Nat) : List Int := ((List.range n).filter fun j => decide (200 < (lines.getD j ⟨#[]⟩).length)).map fun j : Nat => (j : Int) + 1
def badL (lines : List Str) (spots : List Int) : List Int := spots.map (· + 1) ++ (if 60 < lines.length then [61] else []) ++ longs lines lines.length
theorem longs_succ (lines : List Str) (n : Nat) : longs lines (n + 1) = longs lines n ++ (if 200 < (lines.getD n ⟨#[]⟩).length then [(n : Int) + 1] else []) := by
  unfold longs
  rw [List.range_succ, List.filter_append, List.map_append]
  congr 1
  by_cases h : 200 < (lines.getD n ⟨#[]⟩).length
  · rw [if_pos h, List.filter_cons_of_pos (by simpa using h)]
    rfl
  · rw [if_neg h, List.filter_cons_of_neg (by simpa using h)]
    rfl
def due (lines : List Str) (spots : List Int) : Int := if badL lines spots = [] ∨ lines = [⟨#[]⟩] then 0 else minL (badL lines spots)
theorem longs_len (lines : List Str) (n : Nat) : (longs lines n).length ≤ n := by
  unfold longs
  rw [List.length_map]
  exact Nat.le_trans (List.length_filter_le _ _) (by simp)
theorem oMin_map {is : List Int} (h : is ≠ []) : oMin [.lst (is.map D.int)] = some (.int (minL is)) := by
  have := intsOf_map (fun i : Int => i) is
  simp only [oMin, this, Option.bind_some, List.map_id']
  cases is with
  | nil => exact absurd rfl h
  | cons i is => rfl
theorem first_bad_eq {lines : List Str} {spots : List Int} (hl : lines.length ≤ 1000) (hs : spots.length ≤ 1000) (hb : ∀ l ∈ lines, l.length ≤ 1000000 ∧ Asc l) : m__law_first_bad [.fz (.lst (lines.map .str)), .fz (.lst (spots.map .int))] = .rt (.fz (.int (due lines spots))) [] := by
  refine FQ_is ?_
  unfold m__law_first_bad
  rw [FQ_run]
  unfold b__law_first_bad
  have fin : ∀ (bs : List Int) (hbs : bs = badL lines spots) (o3 : Option FL.Slot), SQ ((sSeq (sIf (ibOr (iBl (iBin oEq (iLenE 2) (iC (.int 0)))) (ibAnd (iBl (iBin oEq (iFn oLen (iCons (iVar 0) iNil)) (iC (.int 1)))) (iBl (iBin oEq (iBin oIx (iVar 0) (iC (.int 0))) (iC (.str ""))))))
 (sRet (iC (.int 0)))
 sSkip)
 (sPre 2 (sRet (iFn oMin (iCons (iVar 2) iNil))))) [some (.fz (.lst (lines.map .str))), some (.fz (.lst (spots.map .int))), some (.ow (bs.map .int)), o3]) (fun s => outP s [] fun o => FOut.rt (.fz (.int (due lines spots))) [] = .rt (.fz .non) o) (fun r s => outP s [] fun o => FOut.rt (.fz (.int (due lines spots))) [] = .rt r o) (fun x s => outP s [] fun o => FOut.rt (.fz (.int (due lines spots))) [] = .exn x o) := by
    intro bs hbs o3
    simp [oEq_int]
    by_cases h0 : bs = []
    · simp [h0, due, ← hbs]
    · simp [h0]
      have mn : optP (oMin [D.lst (List.map D.int bs)]) fun z => D.int (minL bs) = z := by simp [oMin_map h0]
      by_cases h1 : lines.length = 1
      · match lines, h1 with
        | [l], _ =>
          have hbl := hb l (by simp)
          have i0 : oIx (.lst [D.str l]) (.int 0) = some (.str l) := oIx_lst (n := 0) (by simp)
          have e0 : oEq (.str l) (.str ⟨#[]⟩) = some (.bl (decide (l = ⟨#[]⟩))) := oEq_str hbl.2.ok (by decide +kernel)
          simp [i0, emS, e0]
          by_cases h2 : l = ⟨#[]⟩
          · simp [h2, due]
          · simp [h2, due, ← hbs, h0, oMin_map h0]
      · have h1' : ¬ (lines.length : Int) = 1 := by omega
        have h2 : lines ≠ [⟨#[]⟩] := fun e => h1 (by simp [e])
        simp [h1, h1', due, ← hbs, h0, h2, oMin_map h0]
  have loop : ∀ (bs : List Int) (o3 : Option FL.Slot), bs = spots.map (· + 1) ++ (if 60 < lines.length then [61] else []) → LQ (rng 0 lines.length) [some (.fz (.lst (lines.map .str))), some (.fz (.lst (spots.map .int))), some (.ow (bs.map .int)), o3] (gSlot 3) (sIf (iBl (iBin oGt (iFn oLen (iCons (iBin oIx (iVar 0) (iVar 3)) iNil)) (iC (.int 200))))
 (sDrop (iOwn 2 gAppend (iCons (iBin oAdd (iVar 3) (iC (.int 1))) iNil)))
 sSkip) (fun s => SQ ((sSeq (sIf (ibOr (iBl (iBin oEq (iLenE 2) (iC (.int 0)))) (ibAnd (iBl (iBin oEq (iFn oLen (iCons (iVar 0) iNil)) (iC (.int 1)))) (iBl (iBin oEq (iBin oIx (iVar 0) (iC (.int 0))) (iC (.str ""))))))
 (sRet (iC (.int 0)))
 sSkip)
 (sPre 2 (sRet (iFn oMin (iCons (iVar 2) iNil))))) s) (fun s => outP s [] fun o => FOut.rt (.fz (.int (due lines spots))) [] = .rt (.fz .non) o) (fun r s => outP s [] fun o => FOut.rt (.fz (.int (due lines spots))) [] = .rt r o) (fun x s => outP s [] fun o => FOut.rt (.fz (.int (due lines spots))) [] = .exn x o)) (fun r s => outP s [] fun o => FOut.rt (.fz (.int (due lines spots))) [] = .rt r o) (fun x s => outP s [] fun o => FOut.rt (.fz (.int (due lines spots))) [] = .exn x o) := by
    intro bs o3 hbs
    have hbl : bs.length ≤ 1001 := by
      rw [hbs]
      split <;> simp <;> omega
    refine LQ_inv (fun k s => ∃ o3, s = [some (.fz (.lst (lines.map .str))), some (.fz (.lst (spots.map .int))), some (.ow ((bs ++ longs lines k).map .int)), o3]) ⟨o3, by simp [longs]⟩ ?_ ?_
    · rintro k d t hk ⟨o3, rfl⟩
      obtain ⟨hk1, rfl⟩ := rng_get hk
      have e1 : oIx (.lst (lines.map D.str)) (.int k) = some (.str lines[k]) := oIx_lst (by simp [hk1])
      have hm := hb lines[k] (List.getElem_mem hk1)
      have hlo := longs_len lines k
      have hd : lines.getD k ⟨#[]⟩ = lines[k] := by simp [List.getD, hk1]
      simp only [longs_succ, hd]
      simp [e1, oLen_str (show lines[k].length ≤ 16777216 by omega)]
      by_cases h : 200 < lines[k].length
      · have h' : 200 < (lines[k].length : Int) := by omega
        simp [h, h', gAppend, show bs.length + (longs lines k).length < 16777216 by omega]
      · have h' : ¬ 200 < (lines[k].length : Int) := by omega
        simp [h, h']
        omega
    · rintro t ⟨o3, rfl⟩
      exact fin _ (by rw [hbs, rng_len]; rfl) o3
  simp [List.replicate_succ]
  refine CQ_map (fun d => match d with | .int i => .int (i + 1) | _ => .non) (by simp; omega) (fun d hd => ?_) ?_
  · obtain ⟨i, _, rfl⟩ := List.mem_map.mp hd
    simp
  · have e : ((fun d : D => match d with | .int i => D.int (i + 1) | _ => .non) ∘ D.int) = D.int ∘ (· + 1) := rfl
    simp [e]
    have hl1 : -4611686018427387904 ≤ (lines.length : Int) := by omega
    have hl2 : (lines.length : Int) < 4611686018427387904 := by omega
    by_cases h : 60 < lines.length
    · have h' : 60 < (lines.length : Int) := by omega
      simp [h', gAppend, show spots.length < 16777216 by omega]
      refine And.intro (by omega) ?_
      have := loop (spots.map (· + 1) ++ [61]) none (by simp [h])
      simpa using this
    · have h' : ¬ 60 < (lines.length : Int) := by omega
      simp [h']
      refine And.intro (by omega) ?_
      have := loop (spots.map (· + 1)) none (by simp [h])
      simpa using this
end K31

set_option maxHeartbeats 400000
namespace K31
open PySem PySem.Spec PyProof.Rows L2 FL
section
variable {l : List D} {R : Ret → List FL.Slot → Prop} {X : Exn → List FL.Slot → Prop}
theorem take_q {n : Int} (S : Sto l) (hN : n < 18446744073709551616) (h : ∀ (k : Nat) l', Sto l' → ((k : Int) < n ∨ n ≤ 1 ∧ k = 0) → R (.fz (.int k)) [.ow l']) : FQ (m__law_take [.ow l, .fz (.int n)]) R X := by
  refine FQ.imp ⟨take_ok S n hN⟩ (fun r o ⟨k, l', e1, e2, S', h0, h1⟩ => ?_) fun _ _ z => z.elim
  subst e1; subst e2
  obtain ⟨m, rfl⟩ := Int.eq_ofNat_of_zero_le h0
  exact h m l' S' (h1.imp id fun ⟨a, b⟩ => ⟨a, by omega⟩)
theorem pick_q {xs : List D} (S : Sto l) (hx : xs ≠ []) (hl : xs.length < 16777216) (h : ∀ x ∈ xs, ∀ l', Sto l' → R (.fz x) [.ow l']) : FQ (m__law_pick [.ow l, .fz (.lst xs)]) R X := by
  refine FQ.imp ⟨pick_lst S hx hl⟩ (fun r o ⟨l', e, S', x, e2, hm⟩ => ?_) fun _ _ z => z.elim
  subst e; subst e2
  exact h x hm l' S'
theorem pickS_q {z : Str} (S : Sto l) (hx : 0 < z.length) (hl : z.length < 16777216) (h : ∀ c ∈ z.cps.toList, ∀ l', Sto l' → R (.fz (.str ⟨#[c]⟩)) [.ow l']) : FQ (m__law_pick [.ow l, .fz (.str z)]) R X := by
  refine FQ.imp ⟨pick_str S hx hl⟩ (fun r o ⟨l', e, S', x, e2, hm⟩ => ?_) fun _ _ z => z.elim
  subst e; subst e2
  exact h x hm l' S'
end
theorem tlA (a b : Str) : (a ++ b).cps.toList = a.cps.toList ++ b.cps.toList := TL.tl_append a b
theorem words_app (a b : Str) : words (a ++ ⟨#[32]⟩ ++ b) = words a ++ words b := by
  refine sjoin_unique (c := 32) (split_ne _ _) (fun e => (show words a ≠ [] from split_ne a _) (List.append_eq_nil_iff.mp e).1) (words_free _) (fun p hp => ?_) ?_
  · rcases List.mem_append.mp hp with hp | hp
    · exact words_free a p hp
    · exact words_free b p hp
  · show Str.join ⟨#[32]⟩ (Txt.split (a ++ ⟨#[32]⟩ ++ b) ⟨#[32]⟩) = _
    rw [StrLaws.join_split]
    apply str_ext
    have hj : ∀ (xs ys : List (List Nat)), xs ≠ [] → ys ≠ [] → jn 32 (xs ++ ys) = jn 32 xs ++ 32 :: jn 32 ys := by
      intro xs
      induction xs with
      | nil => intro ys h; exact absurd rfl h
      | cons x r ih =>
        intro ys _ hy
        by_cases hr : r = []
        · subst hr
          rw [List.cons_append, List.nil_append, jn_cons _ _ hy]
          rfl
        · rw [List.cons_append, jn_cons _ _ (by simp [hr]), ih ys hr hy, jn_cons _ _ hr]
          simp
    rw [sjoin_cps, List.map_append, hj _ _ (by simpa using (show words a ≠ [] from split_ne a _)) (by simpa using (show words b ≠ [] from split_ne b _))]
    have wa : jn 32 ((words a).map (·.cps.toList)) = a.cps.toList := split_jn a 32
    have wb : jn 32 ((words b).map (·.cps.toList)) = b.cps.toList := split_jn b 32
    rw [wa, wb, tlA, tlA]
    simp
theorem words_empty : (⟨#[]⟩ : Str) ∈ words ⟨#[]⟩ := by decide +kernel
theorem bad_empty : ¬ GoodW ⟨#[]⟩ := fun h => h.1 rfl
theorem jn_inv {c x : Nat} : ∀ {ps : List (List Nat)}, x ∈ jn c ps → x ≠ c → ∃ p ∈ ps, x ∈ p
  | [], h, _ => by simp [jn] at h
  | p :: r, h, hx => by
    by_cases hr : r = []
    · subst hr
      exact ⟨p, by simp, h⟩
    · rw [jn_cons _ _ hr] at h
      rcases List.mem_append.mp h with h | h
      · exact ⟨p, by simp, h⟩
      · rcases List.mem_cons.mp h with h | h
        · exact absurd h hx
        · obtain ⟨q, hq, hm⟩ := jn_inv h hx
          exact ⟨q, by simp [hq], hm⟩
theorem word_of {z : Str} {c : Nat} (h : c ∈ z.cps.toList) (hc : c ≠ 32) : ∃ w ∈ words z, c ∈ w.cps.toList := by
  rw [← split_jn z 32] at h
  obtain ⟨p, hp, hm⟩ := jn_inv h hc
  obtain ⟨w, hw, rfl⟩ := List.mem_map.mp hp
  exact ⟨w, hw, hm⟩
theorem cut_to {z : Str} {n : Nat} (h : n ≤ z.length) : cutS z none (some (n : Int)) = ⟨(z.cps.toList.take n).toArray⟩ := by
  unfold cutS
  rw [HT.sIx_nat, HT.sIx_none, Nat.min_eq_left h]
  simp
theorem cut_from {z : Str} {n : Nat} (h : n ≤ z.length) : cutS z (some (n : Int)) none = ⟨(z.cps.toList.drop n).toArray⟩ := by
  unfold cutS
  have e : z.length = z.cps.toList.length := by simp [Str.length]
  rw [HT.sIx_nat, HT.sIx_none, Nat.min_eq_left h, e, ← List.length_drop, List.take_length]
/-- a spoilt line -/
def Spoilt (z : Str) : Prop := Asc z ∧ 10 ∉ z.cps.toList ∧ z.length ≤ 100000 ∧ oIsN (parse z) = true
theorem spoilt_of {z : Str} (h1 : Asc z) (h2 : 10 ∉ z.cps.toList) (h3 : z.length ≤ 100000) (h4 : ∃ w ∈ words z, ¬ GoodW w) : Spoilt z := ⟨h1, h2, h3, by
  obtain ⟨w, hw, hb⟩ := h4
  rw [parse_bad hw hb]
  rfl⟩
abbrev rows0 : List Str := ["steady abcdefghi", "drop 1234567890123", "drop 01", "drop 00", "put 0 1", "put 0 1 2 3", "least B road", "tree A", "table A", "book", "book B f1", "lay", "Back", "back 0", "grow 1 02", "paint A B", "drop -1",
 "wide A B 1", "learn 3", "sample A x 0", "sample A 1", "axioms R 3 2 1", "compare A B", "keep A B one", "chain A B 1 2", "table abcdefghi 2: 1", "price A B 1000000000000", "rule R1 near", "figure f\t2: 1"]
theorem rows0_bad : ∀ z ∈ rows0, Asc z ∧ 10 ∉ z.cps.toList ∧ z.length ≤ 100000 ∧ oIsN (parse z) = true := by decide +kernel
end K31

set_option maxHeartbeats 1000000
namespace K31
open PySem PySem.Spec PyProof.Rows L2 FL
theorem taS : Str.ofString "\t" = ⟨#[9]⟩ := by decide +kernel
theorem len_app (a b : Str) : (a ++ b).length = a.length + b.length := by
  have := congrArg List.length (tlA a b)
  simpa [Str.length] using this
theorem oAdd_str {a b : Str} (h : a.length + b.length ≤ 16777216) : oAdd (.str a) (.str b) = some (.str (a ++ b)) := by
  simp [oAdd, h]
theorem oIx_sign {z : Str} {n : Nat} (hz : z.length ≤ 16777216) (h : n < z.cps.toList.length) : oIx (.str z) (.int n) = some (.str ⟨#[z.cps.toList[n]]⟩) := by
  simp [oIx, atI, ixN, hz]
  simp at h
  simp [h]
def isSp (z : Str) : D → Bool
  | .int i => decide (z.cps.toList[i.toNat]? = some 32)
  | _ => false
theorem mk_len (l : List Nat) : (⟨l.toArray⟩ : Str).length = l.length := by simp [Str.length]
theorem spoilt_tab {z : Str} (hp : Plain z) (hl : z.length ≤ 20011) {n : Nat} : Spoilt (⟨(z.cps.toList.take n).toArray⟩ ++ ⟨#[9]⟩ ++ ⟨(z.cps.toList.drop n).toArray⟩) := by
  have zl : z.length = z.cps.toList.length := by simp [Str.length]
  have e : (⟨(z.cps.toList.take n).toArray⟩ ++ ⟨#[9]⟩ ++ ⟨(z.cps.toList.drop n).toArray⟩ : Str).cps.toList = z.cps.toList.take n ++ 9 :: z.cps.toList.drop n := by simp [tlA]
  have hm : ∀ c ∈ z.cps.toList.take n ++ 9 :: z.cps.toList.drop n, c = 9 ∨ c ∈ z.cps.toList := fun c hc => by
    rcases List.mem_append.mp hc with hc | hc
    · exact .inr (List.mem_of_mem_take hc)
    · rcases List.mem_cons.mp hc with hc | hc
      · exact .inl hc
      · exact .inr (List.mem_of_mem_drop hc)
  refine spoilt_of (fun c hc => ?_) (fun hc => ?_) ?_ ?_
  · rw [e] at hc
    rcases hm c hc with rfl | h
    · omega
    · have := hp c h; omega
  · rw [e] at hc
    rcases hm 10 hc with h | h
    · omega
    · have := hp 10 h; omega
  · have : (⟨#[9]⟩ : Str).length = 1 := rfl
    rw [len_app, len_app, this]
    simp only [mk_len, List.length_take, List.length_drop]
    omega
  · obtain ⟨w, hw, h9⟩ := word_of (c := 9) (z := ⟨(z.cps.toList.take n).toArray⟩ ++ ⟨#[9]⟩ ++ ⟨(z.cps.toList.drop n).toArray⟩) (by rw [e]; simp) (by decide)
    exact ⟨w, hw, fun g => by have := g.2 9 h9; omega⟩
theorem spoilt_sp {a b : Str} (ha : Plain a) (hb : Plain b) (hl : a.length + b.length ≤ 50000) (h : (⟨#[]⟩ : Str) ∈ words a ∨ (⟨#[]⟩ : Str) ∈ words b) : Spoilt (a ++ ⟨#[32]⟩ ++ b) := by
  have e : (a ++ ⟨#[32]⟩ ++ b : Str).cps.toList = a.cps.toList ++ 32 :: b.cps.toList := by simp [tlA]
  have hm : ∀ c ∈ a.cps.toList ++ 32 :: b.cps.toList, 32 ≤ c ∧ c ≤ 126 := fun c hc => by
    rcases List.mem_append.mp hc with hc | hc
    · exact ha c hc
    · rcases List.mem_cons.mp hc with hc | hc
      · omega
      · exact hb c hc
  refine spoilt_of (fun c hc => ?_) (fun hc => ?_) ?_ ⟨_, ?_, bad_empty⟩
  · rw [e] at hc
    have := hm c hc
    omega
  · rw [e] at hc
    have := hm 10 hc
    omega
  · rw [len_app, len_app]
    have : (⟨#[32]⟩ : Str).length = 1 := rfl
    omega
  · rw [words_app]
    exact List.mem_append.mpr h
theorem app_nil (a : Str) : a ++ ⟨#[]⟩ = a := TL.ext_tl (by rw [TL.tl_append]; simp)
theorem nil_app (a : Str) : (⟨#[]⟩ : Str) ++ a = a := TL.ext_tl (by rw [TL.tl_append]; simp)
theorem plain_nil : Plain ⟨#[]⟩ := fun c hc => by simp at hc
theorem spoilt_line_q {l : List D} {z : Str} {R : Ret → List FL.Slot → Prop} {X : Exn → List FL.Slot → Prop} (S : Sto l) (hp : Plain z) (hl : z.length ≤ 20011) (h : ∀ y l', Sto l' → Spoilt y → R (.fz (.str y)) [.ow l']) : FQ (m__law_spoilt_line [.ow l, .fz (.str z)]) R X := by
  have asc := plain_asc hp
  have zl : z.length = z.cps.toList.length := by simp [Str.length]
  unfold m__law_spoilt_line
  rw [FQ_run]
  unfold b__law_spoilt_line
  simp [List.replicate_succ, oLen_str (show z.length ≤ 16777216 by omega)]
  refine take_q S (by omega) fun w l1 S1 hw => ?_
  simp [oLen_str (show z.length ≤ 16777216 by omega)]
  refine take_q S1 (by omega) fun at' l2 S2 hat => ?_
  have hat : at' ≤ z.length := by omega
  simp [oLen_str (show z.length ≤ 16777216 by omega)]
  refine And.intro (by omega) ?_
  have hr : rng 0 z.length = (List.range z.length).map fun n : Nat => D.int n := by simp [rng]
  refine CQ_filter (isSp z) (fun d => d) (by rw [hr]; simp; omega) (fun d hd => ?_) ?_
  · rw [hr] at hd
    obtain ⟨n, hn, rfl⟩ := List.mem_map.mp hd
    have hn' : n < z.cps.toList.length := by rw [← zl]; simpa using hn
    have hc : z.cps.toList[n] < 128 := asc _ (List.getElem_mem hn')
    have e1 : isSp z (.int n) = decide (z.cps.toList[n] = 32) := by
      simp only [isSp, Int.toNat_natCast, List.getElem?_eq_getElem hn', Option.some.injEq]
    simp only [List.set_cons_succ, List.set_cons_zero, letS_cons, OQ_iBl, OQ_iBin, OQ_iVar, getF_succ, getF_zero, OQ_iC, optP_some, blP_bl, oIx_sign (show z.length ≤ 16777216 by omega) hn', spS, oEq_sign hc (show 32 < 128 by decide), e1]
    simp
  · have hsp : ∀ d ∈ (List.filter (isSp z) (rng 0 z.length)).map (fun d => d), ∃ n : Nat, d = .int n ∧ n < z.cps.toList.length ∧ z.cps.toList[n]? = some 32 := fun d hd => by
      rw [List.map_id'] at hd
      obtain ⟨h1, h2⟩ := List.mem_filter.mp hd
      rw [hr] at h1
      obtain ⟨n, hn, rfl⟩ := List.mem_map.mp h1
      exact ⟨n, rfl, by rw [← zl]; simpa using hn, by simpa [isSp] using h2⟩
    have hlen : ((List.filter (isSp z) (rng 0 z.length)).map (fun d => d)).length < 16777216 := by
      rw [List.map_id']
      have := List.length_filter_le (isSp z) (rng 0 z.length)
      rw [rng_len] at this
      omega
    generalize ((List.filter (isSp z) (rng 0 z.length)).map (fun d => d)) = sps at *
    simp
    have cl : ∀ n : Nat, n ≤ z.length → (cutS z none (some (n : Int))).length ≤ z.length ∧ (cutS z (some (n : Int)) none).length ≤ z.length := fun n hn => by
      rw [cut_to hn, cut_from hn]
      simp only [mk_len, List.length_take, List.length_drop]
      omega
    by_cases h1 : (w : Int) ≤ 1
    · have c := cl at' hat
      have t1 : (⟨#[9]⟩ : Str).length = 1 := rfl
      have sp := spoilt_tab hp hl (n := at')
      rw [← cut_to hat, ← cut_from hat] at sp
      simp [h1, show z.length ≤ 16777216 by omega, taS, oAdd_str (show (cutS z none (some (at' : Int))).length + (⟨#[9]⟩ : Str).length ≤ 16777216 by omega), oAdd_str (show (cutS z none (some (at' : Int)) ++ ⟨#[9]⟩).length + (cutS z (some (at' : Int)) none).length ≤ 16777216 by rw [len_app]; omega)]
      exact h _ l2 S2 sp
    have t1 : (⟨#[32]⟩ : Str).length = 1 := rfl
    by_cases h2 : (w : Int) = 2
    · have sp := spoilt_sp (a := z) (b := ⟨#[]⟩) hp plain_nil (by simp [Str.length] at hl ⊢; omega) (.inr words_empty)
      rw [app_nil] at sp
      simp [h1, h2, oEq_int, spS, oAdd_str (show z.length + (⟨#[32]⟩ : Str).length ≤ 16777216 by omega)]
      exact h _ l2 S2 sp
    by_cases h3 : (w : Int) = 3
    · have sp := spoilt_sp (a := ⟨#[]⟩) (b := z) plain_nil hp (by simp [Str.length] at hl ⊢; omega) (.inl words_empty)
      rw [nil_app] at sp
      simp [h1, h3, oEq_int, spS, oAdd_str (show (⟨#[32]⟩ : Str).length + z.length ≤ 16777216 by omega)]
      exact h _ l2 S2 sp
    have fin : ∀ k : Int, k = w → FQ (m__law_pick [.ow l2, .fz (.lst (rows0.map .str))]) (fun r o => ow1 o fun ys => R (Ret.fz (retD r)) [Slot.ow ys]) (fun x o => ow1 o fun ys => X x [Slot.ow ys]) := fun k _ => by
      refine pick_q S2 (by simp) (by simp) fun x hx l3 S3 => ?_
      obtain ⟨y, hy, rfl⟩ := List.mem_map.mp hx
      have := rows0_bad y hy
      simp
      exact h y l3 S3 this
    have hsb : Spoilt (Str.ofString "") := by unfold Spoilt; decide +kernel
    have rest : SQ ((sSeq (sIf (iBl (iBin oEq (iVar 2) (iC (.int 5))))
 (sRet (iC (.str "")))
 sSkip)
 (sSeq (sSet 5 (iFz (iLs (iCons (iC (.str "steady abcdefghi")) (iCons (iC (.str "drop 1234567890123")) (iCons (iC (.str "drop 01")) (iCons (iC (.str "drop 00")) (iCons (iC (.str "put 0 1")) (iCons (iC (.str "put 0 1 2 3")) (iCons (iC (.str "least B road")) iNil))))))))))
 (sSeq (sSet 5 (iFz (iBinN oCatD (iVar 5) (iFz (iLs (iCons (iC (.str "tree A")) (iCons (iC (.str "table A")) (iCons (iC (.str "book")) (iCons (iC (.str "book B f1")) (iCons (iC (.str "lay")) (iCons (iC (.str "Back")) (iCons (iC (.str "back 0")) (iCons (iC (.str "grow 1 02")) (iCons (iC (.str "paint A B")) (iCons (iC (.str "drop -1")) iNil)))))))))))))))
 (sSeq (sSet 5 (iFz (iBinN oCatD (iVar 5) (iFz (iLs (iCons (iC (.str "wide A B 1")) (iCons (iC (.str "learn 3")) (iCons (iC (.str "sample A x 0")) (iCons (iC (.str "sample A 1")) (iCons (iC (.str "axioms R 3 2 1")) (iCons (iC (.str "compare A B")) (iCons (iC (.str "keep A B one")) iNil))))))))))))
 (sSeq (sSet 5 (iFz (iBinN oCatD (iVar 5) (iFz (iLs (iCons (iC (.str "chain A B 1 2")) (iCons (iC (.str "table abcdefghi 2: 1")) (iCons (iC (.str "price A B 1000000000000")) (iCons (iC (.str "rule R1 near")) (iCons (iC (.str "figure f\t2: 1")) iNil))))))))))
 (sRet (iCall 2 m__law_pick 0 (iCons (iVar 5) iNil)))))))) [some (.ow l2), some (.fz (.str z)), some (.fz (.int w)), some (.fz (.int at')), some (.fz (.lst sps)), none, none]) (fun s => outP s [0] fun o => R (.fz .non) o) (fun r s => outP s [0] fun o => R r o) (fun x s => outP s [0] fun o => X x o) := by
      simp [oEq_int, oCatD, oCat, lstD]
      by_cases h5 : (w : Int) = 5
      · simp [h5]
        exact h _ l2 S2 hsb
      · simp [h5]
        refine FQ.imp (pick_q (R := fun r o => ∃ y l', r = .fz (.str y) ∧ o = [.ow l'] ∧ Sto l' ∧ Spoilt y) (X := fun _ _ => False) (xs := rows0.map .str) S2 (by simp) (by simp) fun x hx l3 S3 => ?_) (fun r o h0 => ?_) fun _ _ z => z.elim
        · obtain ⟨y, hy, rfl⟩ := List.mem_map.mp hx
          exact ⟨y, l3, rfl, rfl, S3, rows0_bad y hy⟩
        · obtain ⟨y, l', e1, e2, S3, sp⟩ := h0
          subst e1; subst e2
          simp
          exact h y l' S3 sp
    simp at rest
    simp [h1, h2, h3, oEq_int]
    by_cases h4 : (w : Int) = 4
    · by_cases h6 : sps = []
      · simp [h4, h6, oEq_int] at rest ⊢
        exact rest
      · have h6' : ¬ ((sps.length : Int) = 0) := by simpa using h6
        have h6'' : 0 < sps.length := List.length_pos_iff.mpr h6
        simp [h4, h6'']
        refine pick_q S2 h6 hlen fun x hx l3 S3 => ?_
        obtain ⟨n, rfl, hn, h32⟩ := hsp x hx
        have hn' : n ≤ z.length := by omega
        have c := cl n hn'
        simp [show z.length ≤ 16777216 by omega, spS, oAdd_str (show (cutS z none (some (n : Int))).length + (⟨#[32]⟩ : Str).length ≤ 16777216 by omega), oAdd_str (show (cutS z none (some (n : Int)) ++ ⟨#[32]⟩).length + (cutS z (some (n : Int)) none).length ≤ 16777216 by rw [len_app]; omega)]
        refine h _ l3 S3 (spoilt_sp ?_ ?_ (by omega) (.inr ?_))
        · rw [cut_to hn']
          exact fun c hc => hp c (List.mem_of_mem_take hc)
        · rw [cut_from hn']
          exact fun c hc => hp c (List.mem_of_mem_drop hc)
        · rw [cut_from hn']
          have ed : z.cps.toList.drop n = 32 :: z.cps.toList.drop (n + 1) := by
            rw [List.drop_eq_getElem_cons hn]
            rw [List.getElem?_eq_getElem hn] at h32
            rw [Option.some.inj h32]
          have e : (⟨(z.cps.toList.drop n).toArray⟩ : Str) = ⟨#[]⟩ ++ ⟨#[32]⟩ ++ ⟨(z.cps.toList.drop (n + 1)).toArray⟩ := str_ext (by rw [ed]; simp [tlA])
          rw [e, words_app]
          exact List.mem_append_left _ words_empty
    · simp [h4, oEq_int] at rest ⊢
      exact rest
end K31

set_option maxHeartbeats 1000000
namespace K31
open PySem PySem.Spec PyProof.Rows L2 FL
theorem CQ_draw {k : Nat} {te : IC} {QL : List D → AS → Prop} {X : Exn → AS → Prop} {ds l : List D} (st : List D → AS) (P : D → Prop) (hl : ds.length ≤ 16777216) (S : Sto l)
    (h : ∀ d ∈ ds, ∀ l, Sto l → letS ((st l).set k (some (.fz d))) fun t => OQ (te t) (fun x w => ∃ l', Sto l' ∧ P x ∧ w.set k none = st l') (fun _ _ => False))
    (hq : ∀ acc l', Sto l' → acc.length = ds.length → (∀ x ∈ acc, P x) → QL acc (st l')) : CQ ds [] (st l) [k] (gSlot k) (fun ŝ => .ok true ŝ) te QL X := by
  refine CQ_inv (I := fun n a t => ∃ l, Sto l ∧ t = st l ∧ a.length = n ∧ ∀ x ∈ a, P x) 0 ⟨l, S, rfl, rfl, by simp⟩ (by simpa using hl) (fun n d a t e hl2 ⟨l, S, ht, ha, hP⟩ => ?_) fun a t ⟨l, S, ht, ha, hP⟩ => ?_
  · subst ht
    refine optP_some.mpr (OQ_ok.mpr ?_)
    rw [if_pos rfl]
    refine ((h d (List.mem_of_getElem? e) l S).run).imp (fun x w ⟨l', S', hx, hw⟩ => ⟨l', S', hw, by simp [ha], fun y hy => ?_⟩) fun _ _ z => z
    rcases List.mem_append.mp hy with hy | hy
    · exact hP y hy
    · simp at hy
      subst hy
      exact hx
  · subst ht
    exact hq a l S (ha.trans (Nat.zero_add _)) hP
section
variable {l : List D} {R : Ret → List FL.Slot → Prop} {X : Exn → List FL.Slot → Prop}
theorem shuffled_q {xs : List D} (S : Sto l) (hl : xs.length < 1000000) (h : ∀ r ys l', Sto l' → retD r = .lst ys → ys.length = xs.length → (∀ y ∈ ys, y ∈ xs) → R r [.ow l']) : FQ (m__law_shuffled [.ow l, .fz (.lst xs)]) R X := by
  unfold m__law_shuffled
  rw [FQ_run]
  unfold b__law_shuffled
  simp [List.replicate_succ]
  refine And.intro (by omega) ?_
  refine LQ_inv (fun k t => ∃ l found o, Sto l ∧ found.length = k ∧ (∀ y ∈ found, y ∈ xs) ∧ t = [some (.ow l), some (.fz (.lst xs)), some (.ow found), o]) ⟨l, [], none, S, rfl, by simp, rfl⟩ ?_ ?_
  · rintro k d t hk ⟨l, found, o, S, hf, hm, rfl⟩
    obtain ⟨hk1, rfl⟩ := rng_get hk
    simp
    refine take_q S (by omega) fun z l2 S2 hz => ?_
    have hz : z ≤ found.length := by omega
    have e1 : oIx (.lst xs) (.int k) = some xs[k] := oIx_lst (List.getElem?_eq_getElem hk1)
    have eg : gInsert found [.int z, xs[k]] = some (.non, found.take z ++ [xs[k]] ++ found.drop z) := by
      unfold gInsert
      exact if_pos (And.intro (by omega) (And.intro (by omega) (by omega)))
    simp [e1, eg]
    refine ⟨l2, S2, found.take z ++ xs[k] :: found.drop z, by simp; omega, fun y hy => ?_, rfl, rfl⟩
    simp at hy
    rcases hy with hy | rfl | hy
    · exact hm y (List.mem_of_mem_take hy)
    · simp
    · exact hm y (List.mem_of_mem_drop hy)
  · rintro t ⟨l, found, o, S, hf, hm, rfl⟩
    simp
    exact h _ found l S rfl (by rw [hf, rng_len]) hm
theorem word_q (S : Sto l) (h : ∀ r z l', Sto l' → retD r = .str z → isKind z = true → R r [.ow l']) : FQ (m__law_word [.ow l]) R X := by
  refine FQ.imp ⟨word_ok S⟩ (fun r o ⟨l', e, S', hm⟩ => ?_) fun _ _ z => z.elim
  subst e
  simp only [List.mem_cons, List.not_mem_nil, or_false] at hm
  rcases hm with e | e | e
  all_goals exact h r _ l' S' e (by decide +kernel)
theorem order_number_q (S : Sto l) (h : ∀ r (n : Nat) l', Sto l' → retD r = .int n → n < 1000000000000 → R r [.ow l']) : FQ (m__law_order_number [.ow l]) R X := by
  refine FQ.imp ⟨order_number_ok S⟩ (fun r o ⟨l', e, S', k, e2, h0, h1⟩ => ?_) fun _ _ z => z.elim
  subst e
  obtain ⟨n, rfl⟩ := Int.eq_ofNat_of_zero_le h0
  exact h r n l' S' e2 (by omega)
theorem size_q {n : Nat} (S : Sto l) (h0 : 2 ≤ n) (h1 : n < 1000) (h : ∀ (k : Nat) l', Sto l' → k ≤ n → R (.fz (.int k)) [.ow l']) : FQ (m__law_size [.ow l, .fz (.int n)]) R X := by
  refine FQ.imp ⟨size_ok S (n := n) (by omega) (by omega)⟩ (fun r o ⟨l', e, S', k, e2, h0, h1⟩ => ?_) fun _ _ z => z.elim
  subst e; subst e2
  obtain ⟨n, rfl⟩ := Int.eq_ofNat_of_zero_le h0
  exact h n l' S' (by omega)
end
abbrev way0 : List Str := ["table", "figure", "book", "groups", "keep", "none", "all"]
theorem way0_ok : ∀ z ∈ way0, isName z = true := by decide +kernel
theorem letters_len : k_LETTERS.length = 52 := by decide +kernel
theorem oIx_letters {n : Nat} (h : n < 52) : ∃ c, oIx (.str k_LETTERS) (.int n) = some (.str ⟨#[c]⟩) ∧ c ∈ k_LETTERS.cps.toList := by
  have hl : k_LETTERS.cps.toList.length = 52 := by decide +kernel
  exact ⟨_, oIx_sign (by rw [letters_len]; decide) (by omega), List.getElem_mem _⟩
theorem isName_of {z : Str} (h1 : 1 ≤ z.length) (h2 : z.length ≤ 8) (h3 : ∀ c ∈ z.cps.toList, c ∈ k_LETTERS.cps.toList) : isName z = true := by
  unfold isName
  simp only [Bool.and_eq_true, decide_eq_true_eq, List.all_eq_true]
  exact ⟨⟨h1, h2⟩, h3⟩
theorem letS_def2 : Str.ofString "abcdefghijklmnopqrstuvwxyzABCDEFGHIJKLMNOPQRSTUVWXYZ" = k_LETTERS := rfl
theorem oMulS_ok {z : Str} {n : Nat} (h : z.length * n ≤ 16777216) (hn : n < 1000000) : oMulS (.str z) (.int n) = some (.str (Txt.mul z n)) := by
  simp only [oMulS]
  rw [if_pos]
  refine And.intro ?_ (And.intro ?_ ?_)
  · omega
  · omega
  · simpa using h
theorem sum1 : ∀ cs : List Nat, ((cs.map fun c => (⟨#[c]⟩ : Str)).map (·.length)).sum = cs.length
  | [] => rfl
  | c :: cs => by
    have := sum1 cs
    simp only [List.map_cons, List.sum_cons, List.length_cons]
    rw [this]
    show 1 + _ = _
    omega
theorem rng3 : rng 0 3 = [.int 0, .int 1, .int 2] := by simp [rng, List.range_succ]
theorem join0 {cs : List Nat} (h : cs.length ≤ 100000) : oJoin (.str ⟨#[]⟩) [.lst (cs.map fun c => D.str ⟨#[c]⟩)] = some (.str ⟨cs.toArray⟩) := by
  have e : (cs.map fun c => D.str ⟨#[c]⟩) = (cs.map fun c => (⟨#[c]⟩ : Str)).map D.str := by simp
  rw [e, join_str]
  · congr 2
    apply str_ext
    rw [tjoin, sjoin0_cps]
    simp
    clear h e
    induction cs with
    | nil => rfl
    | cons c cs ih => simp [ih]
  · rw [sum1]
    simp [Str.length]
    omega
theorem strs_of {ds : List D} {A : List Nat} (h : ∀ x ∈ ds, ∃ c, x = D.str ⟨#[c]⟩ ∧ c ∈ A) : ∃ cs : List Nat, ds = (cs.map fun c => D.str ⟨#[c]⟩) ∧ ∀ c ∈ cs, c ∈ A := by
  induction ds with
  | nil => exact ⟨[], rfl, by simp⟩
  | cons d ds ih =>
    obtain ⟨c, rfl, hc⟩ := h d (by simp)
    obtain ⟨cs, rfl, hcs⟩ := ih fun x m => h x (by simp [m])
    exact ⟨c :: cs, by simp, by simpa using ⟨hc, hcs⟩⟩
theorem names_q {l : List D} {R : Ret → List FL.Slot → Prop} {X : Exn → List FL.Slot → Prop} (S : Sto l) (h : ∀ a b c l', Sto l' → isName a = true → isName b = true → isName c = true → R (.ow [.str a, .str b, .str c]) [.ow l']) : FQ (m__law_names [.ow l, .fz (.int 3)]) R X := by
  unfold m__law_names
  rw [FQ_run]
  unfold b__law_names
  simp [List.replicate_succ]
  refine take_q S (by omega) fun w l1 S1 hw => ?_
  simp
  refine take_q S1 (by omega) fun st l2 S2 hst => ?_
  have hst : st < 52 := by omega
  simp [oEq_int]
  by_cases h0 : w = 0
  · simp [h0]
    refine shuffled_q S2 (by decide) fun r ys l3 S3 e1 e2 e3 => ?_
    match ys, e2 with
    | [a, b, c, _, _, _, _], _ =>
      have ha := e3 a (by simp)
      have hb := e3 b (by simp)
      have hc := e3 c (by simp)
      obtain ⟨a, ma, rfl⟩ := List.mem_map.mp (show a ∈ way0.map D.str from ha)
      obtain ⟨b, mb, rfl⟩ := List.mem_map.mp (show b ∈ way0.map D.str from hb)
      obtain ⟨c, mc, rfl⟩ := List.mem_map.mp (show c ∈ way0.map D.str from hc)
      have cut : ∀ ys : List D, 3 ≤ ys.length → FL.cutD ys none (some (3 : Int)) = ys.take 3 := fun ys h => cutD_to (n := 3) ys h
      simp [e1, cut]
      exact h a b c l3 S3 (way0_ok a ma) (way0_ok b mb) (way0_ok c mc)
  simp [h0]
  by_cases h1 : w = 1
  · simp [h1]
    obtain ⟨c, ec, hc⟩ := oIx_letters hst
    have hr := rng3
    have om : ∀ n : Nat, n ≤ 3 → oMulS (.str ⟨#[c]⟩) (.int n) = some (.str (Txt.mul ⟨#[c]⟩ n)) := fun n hn => oMulS_ok (by
      have : (⟨#[c]⟩ : Str).length = 1 := rfl
      rw [this]
      omega) (by omega)
    have nm : ∀ k : Nat, 1 ≤ k → k ≤ 3 → isName (Txt.mul ⟨#[c]⟩ (k : Int)) = true := by
      intro k h1 h3
      have hm2 : c ∈ k_LETTERS.cps := by simpa using hc
      obtain rfl | rfl | rfl : k = 1 ∨ k = 2 ∨ k = 3 := by omega
      all_goals exact isName_of (by simp [Txt.mul, Str.length, List.replicate]) (by simp [Txt.mul, Str.length, List.replicate]) (by simp [Txt.mul, Str.length, hm2, List.replicate])
    have o3 : oMulS (.str ⟨#[c]⟩) (.int 3) = some (.str (Txt.mul ⟨#[c]⟩ 3)) := om 3 (by omega)
    have o2 : oMulS (.str ⟨#[c]⟩) (.int 2) = some (.str (Txt.mul ⟨#[c]⟩ 2)) := om 2 (by omega)
    have o1 : oMulS (.str ⟨#[c]⟩) (.int 1) = some (.str (Txt.mul ⟨#[c]⟩ 1)) := om 1 (by omega)
    rw [hr, letS_def2]
    refine CQ_map (fun d => match d with | .int i => .str (Txt.mul ⟨#[c]⟩ (3 - i)) | _ => .non) (by simp) (fun d hd => ?_) ?_
    · simp at hd
      rcases hd with rfl | rfl | rfl
      · simp [ec, o3]
      · simp [ec, o2]
      · simp [ec, o1]
    · simp
      exact h _ _ _ l2 S2 (nm 3 (by omega) (by omega)) (nm 2 (by omega) (by omega)) (nm 1 (by omega) (by omega))
  have h1' : ¬ (w : Int) = 1 := by omega
  simp [h1']
  refine take_q S2 (by omega) fun m l3 S3 hm => ?_
  have hm : m < 8 := by omega
  simp
  refine And.intro (by omega) ?_
  refine CQ_draw (st := fun l => [some (.ow l), some (.fz (.int 3)), some (.fz (.str k_LETTERS)), some (.fz (.int w)), some (.fz (.int st)), none, none, none, none]) (P := fun d => ∃ c, d = D.str ⟨#[c]⟩ ∧ c ∈ k_LETTERS.cps.toList) (by rw [rng_len]; omega) S3 (fun d hd l S => ?_) fun acc l4 S4 ha hP => ?_
  · simp
    refine pickS_q S (by rw [letters_len]; decide) (by rw [letters_len]; decide) fun c hc l' S' => ?_
    simp
    exact ⟨S', by simpa using hc⟩
  · rw [rng_len] at ha
    obtain ⟨cs, rfl, hcs⟩ := strs_of hP
    simp at ha
    simp [emS, join0 (show cs.length ≤ 100000 by omega), oLen_str (show (⟨cs.toArray⟩ : Str).length ≤ 16777216 by rw [mk_len]; omega)]
    refine take_q S4 (by rw [mk_len]; omega) fun at' l5 S5 hat => ?_
    rw [mk_len] at hat
    have hat' : at' ≤ (⟨cs.toArray⟩ : Str).length := by rw [mk_len]; omega
    simp
    have hr := rng3
    have nm : ∀ k : Nat, k < 3 → ∃ z, isName z = true ∧ OQ ((iBin oAdd (iBin oAdd (iSlT (iVar 6) iqNone (iqSome (iVar 7))) (iBin oIx (iVar 2) (iBin oMod (iFn oInt (iCons (iBin oAdd (iVar 4) (iVar 8)) iNil)) (iC (.int 52))))) (iSlT (iVar 6) (iqSome (iVar 7)) iqNone)) [some (.ow l5), some (.fz (.int 3)), some (.fz (.str k_LETTERS)), some (.fz (.int w)), some (.fz (.int st)), none, some (.fz (.str ⟨cs.toArray⟩)), some (.fz (.int at')), some (.fz (.int k))])
        (fun x w0 => x = .str z ∧ w0.set 8 none = [some (.ow l5), some (.fz (.int 3)), some (.fz (.str k_LETTERS)), some (.fz (.int w)), some (.fz (.int st)), none, some (.fz (.str ⟨cs.toArray⟩)), some (.fz (.int at')), none]) (fun _ _ => False) := by
      intro k hk
      obtain ⟨c, ec, hc⟩ := oIx_letters (n := (st + k) % 52) (Nat.mod_lt _ (by decide))
      have em : oMod (.int ((st : Int) + k)) (.int 52) = some (.int (((st + k) % 52 : Nat) : Int)) := by
        simp [oMod]
      rw [show (((st + k) % 52 : Nat) : Int) = ((st : Int) + k) % 52 by omega] at ec em
      have l1 : (⟨#[c]⟩ : Str).length = 1 := rfl
      have c1 : (cutS (⟨cs.toArray⟩ : Str) none (some (at' : Int))).length = at' := by rw [cut_to hat', mk_len]; simp; omega
      have c2 : (cutS (⟨cs.toArray⟩ : Str) (some (at' : Int)) none).length = cs.length - at' := by rw [cut_from hat', mk_len]; simp
      refine ⟨cutS ⟨cs.toArray⟩ none (some (at' : Int)) ++ ⟨#[c]⟩ ++ cutS ⟨cs.toArray⟩ (some (at' : Int)) none, isName_of ?_ ?_ ?_, ?_⟩
      · rw [len_app, len_app]; omega
      · rw [len_app, len_app]; omega
      · intro x hx
        rw [tlA, tlA, cut_to hat', cut_from hat'] at hx
        simp at hx
        rcases hx with hx | rfl | hx
        · exact hcs x (List.mem_of_mem_take hx)
        · exact hc
        · exact hcs x (List.mem_of_mem_drop hx)
      · simp [em, ec, show (⟨cs.toArray⟩ : Str).length ≤ 16777216 by rw [mk_len]; omega, oAdd_str (show (cutS (⟨cs.toArray⟩ : Str) none (some (at' : Int))).length + (⟨#[c]⟩ : Str).length ≤ 16777216 by omega), oAdd_str (show (cutS (⟨cs.toArray⟩ : Str) none (some (at' : Int)) ++ ⟨#[c]⟩).length + (cutS (⟨cs.toArray⟩ : Str) (some (at' : Int)) none).length ≤ 16777216 by rw [len_app]; omega)]
    obtain ⟨z0, n0, q0⟩ := nm 0 (by omega)
    obtain ⟨z1, n1, q1⟩ := nm 1 (by omega)
    obtain ⟨z2, n2, q2⟩ := nm 2 (by omega)
    rw [hr]
    refine CQ_map (fun d => match d with | .int 0 => .str z0 | .int 1 => .str z1 | _ => .str z2) (by simp) (fun d hd => ?_) ?_
    · simp only [List.mem_cons, List.not_mem_nil, or_false] at hd
      rcases hd with rfl | rfl | rfl
      · exact ⟨q0⟩
      · exact ⟨q1⟩
      · exact ⟨q2⟩
    · simp
      exact h z0 z1 z2 l5 S5 n0 n1 n2
end K31

set_option maxHeartbeats 1000000
namespace K31
open PySem PySem.Spec PyProof.Rows L2 FL
abbrev sg1 : Str := "!\"#$&'()*+,-./0123456789:;<=>?@ABCDEFGHIJKLMNOPQRSTUVWXYZ[\\]^_`"
abbrev sg2 : Str := "abcdefghijklmnopqrstuvwxyz{|}~"
def sgs : Str := ⟨(sg1.cps.toList ++ sg2.cps.toList).toArray⟩
theorem sgs_add : oAdd (.str sg1) (.str sg2) = some (.str sgs) := by
  rw [oAdd_str (by decide +kernel)]
  congr 2
theorem sgs_ok : 0 < sgs.length ∧ sgs.length < 1000 ∧ ∀ c ∈ sgs.cps.toList, 33 ≤ c ∧ c ≤ 126 := by decide +kernel
def Solid (w : Str) : Prop := w ≠ ⟨#[]⟩ ∧ ∀ c ∈ w.cps.toList, 33 ≤ c ∧ c ≤ 126
theorem free_join {ws : List Str} (hn : ws ≠ []) (h : ∀ w ∈ ws, Solid w) : isFree (Txt.join ⟨#[32]⟩ ws) = true := by
  have hp : Plain (Txt.join ⟨#[32]⟩ ws) := plain_join fun w hw c hc => by have := (h w hw).2 c hc; omega
  unfold isFree
  simp only [Bool.and_eq_true, decide_eq_true_eq, List.all_eq_true, Bool.not_eq_true', decide_eq_false_iff_not]
  refine ⟨fun c hc => hp c hc, fun hm => ?_⟩
  rw [words_join hn (fun w hw hc => by have := (h w hw).2 32 hc; omega)] at hm
  exact (h _ hm).1 rfl
theorem join_one (z : Str) : Txt.join ⟨#[32]⟩ [z] = z := by rw [tjoin]; rfl
theorem solid_free {z : Str} (h : Solid z) : isFree z = true := by
  have := free_join (ws := [z]) (by simp) (by simpa using h)
  rwa [join_one] at this
theorem solid_of {cs : List Nat} (hn : cs ≠ []) (h : ∀ c ∈ cs, c ∈ sgs.cps.toList) : Solid ⟨cs.toArray⟩ := ⟨fun e => hn (by
  have := congrArg (fun z : Str => z.cps.toList) e
  simpa using this), fun c hc => sgs_ok.2.2 c (h c hc)⟩
theorem mul_one (c : Nat) (n : Nat) : (Txt.mul ⟨#[c]⟩ (n : Int)).cps.toList = List.replicate n c := by
  have := mul_one_list c (n : Int)
  simpa using this
theorem mul_one_len (c : Nat) (n : Nat) : (Txt.mul ⟨#[c]⟩ (n : Int)).length = n := by
  have := congrArg List.length (mul_one c n)
  simpa [Str.length] using this
theorem solid_mul {c n : Nat} (hn : 0 < n) (h : c ∈ sgs.cps.toList) : Solid (Txt.mul ⟨#[c]⟩ (n : Int)) := ⟨ne_of_len (by rw [mul_one_len]; omega), fun x hx => by
  rw [mul_one] at hx
  rw [(List.mem_replicate.mp hx).2]
  exact sgs_ok.2.2 c h⟩
theorem solid_plain {w : Str} (h : Solid w) : Plain w := fun c hc => by have := h.2 c hc; omega
theorem free_text_q {l : List D} {R : Ret → List FL.Slot → Prop} {X : Exn → List FL.Slot → Prop} (S : Sto l) (h : ∀ r z l', Sto l' → retD r = .str z → isFree z = true → z.length ≤ 2000 → Asc z → R r [.ow l']) : FQ (m__law_free_text [.ow l]) R X := by
  unfold m__law_free_text
  rw [FQ_run]
  unfold b__law_free_text
  have hs := sgs_ok
  simp [List.replicate_succ, sgs_add]
  refine take_q S (by omega) fun w l1 S1 hw => ?_
  simp [oEq_int]
  by_cases h0 : w = 0
  · simp [h0]
    refine pickS_q S1 hs.1 (by omega) fun c hc l2 S2 => ?_
    simp
    refine take_q S2 (by omega) fun n l3 S3 hn => ?_
    have hn : n < 150 := by omega
    have hm : oMulS (.str ⟨#[c]⟩) (.int (1 + (n : Int))) = some (.str (Txt.mul ⟨#[c]⟩ ((1 + n : Nat) : Int))) := by
      have := oMulS_ok (z := ⟨#[c]⟩) (n := 1 + n) (by rw [show (⟨#[c]⟩ : Str).length = 1 from rfl]; omega) (by omega)
      simpa using this
    have so := solid_mul (n := 1 + n) (by omega) hc
    simp [hm]
    refine h _ _ l3 S3 rfl (solid_free ?_) ?_ (plain_asc (solid_plain ?_))
    · simpa using so
    · have := mul_one_len c (1 + n)
      simp at this
      omega
    · simpa using so
  simp [h0]
  refine take_q S1 (by omega) fun k l2 S2 hk => ?_
  have hk : k < 5 := by omega
  simp
  refine And.intro (by omega) ?_
  have hk1 : (1 + (k : Int)).toNat = k + 1 := by omega
  rw [hk1]
  refine LQ_inv (fun n t => ∃ l ws o3, Sto l ∧ ws.length = n ∧ (∀ w ∈ ws, Solid w ∧ w.length ≤ 6) ∧ t = [some (.ow l), some (.fz (.str sgs)), some (.ow (ws.map D.str)), o3, none]) ⟨l2, [], none, S2, rfl, by simp, by simp⟩ ?_ ?_
  · rintro n d t hn ⟨l, ws, o3, S, hws, hsol, rfl⟩
    obtain ⟨hn1, rfl⟩ := rng_get hn
    simp
    refine take_q S (by omega) fun m l4 S4 hm => ?_
    have hm : m < 6 := by omega
    simp
    refine And.intro (by omega) ?_
    have hm1 : (1 + (m : Int)).toNat = m + 1 := by omega
    rw [hm1]
    refine CQ_draw (st := fun l => [some (.ow l), some (.fz (.str sgs)), some (.ow (ws.map D.str)), some (.fz (.int n)), none]) (P := fun d => ∃ c, d = D.str ⟨#[c]⟩ ∧ c ∈ sgs.cps.toList) (by rw [rng_len]; omega) S4 (fun d hd l S => ?_) fun acc l5 S5 ha hP => ?_
    · simp
      refine pickS_q S hs.1 (by omega) fun c hc l' S' => ?_
      simp
      exact ⟨S', by simpa using hc⟩
    · rw [rng_len] at ha
      obtain ⟨cs, rfl, hcs⟩ := strs_of hP
      simp at ha
      have so := solid_of (cs := cs) (fun e => by simp [e] at ha) hcs
      simp [emS, join0 (show cs.length ≤ 100000 by omega), gAppend, show ws.length < 16777216 by omega]
      refine ⟨l5, S5, ws ++ [⟨cs.toArray⟩], by simp; omega, fun w hw => ?_, rfl, by simp⟩
      rcases List.mem_append.mp hw with hw | hw
      · exact hsol w hw
      · simp at hw
        subst hw
        exact ⟨so, by rw [mk_len]; omega⟩
  · rintro t ⟨l, ws, o3, S, hws, hsol, rfl⟩
    rw [rng_len] at hws
    have b := sumL_le (ts := ws) (k := 6) fun w hw => (hsol w hw).2
    have hj : oJoin (.str ⟨#[32]⟩) [.lst (ws.map D.str)] = some (.str (Txt.join ⟨#[32]⟩ ws)) := join_str (by unfold sumL at b; simp [Str.length] at b ⊢; omega)
    have bl := join_len ws 32
    unfold sumL at b
    simp [spS, hj]
    exact h _ _ l S rfl (free_join (fun e => by simp [e] at hws) fun w hw => (hsol w hw).1) (by omega) (plain_asc (plain_join fun w hw => solid_plain (hsol w hw).1))
end K31

set_option maxHeartbeats 2000000
namespace K31
open PySem PySem.Spec PyProof.Rows L2 FL
theorem ix0 {a : D} {r : List D} : oIx (.lst (a :: r)) (.int 0) = some a := oIx_lst (n := 0) (by simp)
theorem ix1 {a b : D} {r : List D} : oIx (.lst (a :: b :: r)) (.int 1) = some b := oIx_lst (n := 1) (by simp)
theorem ix2 {a b c : D} {r : List D} : oIx (.lst (a :: b :: c :: r)) (.int 2) = some c := oIx_lst (n := 2) (by simp)
theorem goodO_mk {kd : Str} {ss : List Srt} {ds : List D} {ts ws : List Str} (hf : formOf kd = some ss) (h : ArgsOk ss ds ts ws) : ∃ z, GoodO (.tup (.str kd :: ds)) z := ⟨_, kd, ss, ds, ts, ws, rfl, hf, h, rfl⟩
theorem order_q {l : List D} {R : Ret → List FL.Slot → Prop} {X : Exn → List FL.Slot → Prop} (S : Sto l) (h : ∀ r l', Sto l' → (∃ z, GoodO (retD r) z) → R r [.ow l']) : FQ (m__law_order [.ow l]) R X := by
  unfold m__law_order
  rw [FQ_run]
  unfold b__law_order
  simp [List.replicate_succ]
  refine names_q S fun a b c l1 S1 ha hb hc => ?_
  simp
  refine CQ_draw (st := fun l => [some (.ow l), some (.fz (.lst [.str a, .str b, .str c])), none, none, none, none, none]) (P := fun d => ∃ n : Nat, d = D.int n ∧ n < 1000000000000) (by rw [rng_len]; decide) S1 (fun d hd l S => ?_) fun acc l2 S2 hacc hP => ?_
  · simp
    refine order_number_q S fun r n l' S' e hn => ?_
    simp [e]
    exact ⟨S', n, rfl, hn⟩
  rw [rng_len] at hacc
  match acc, hacc with
  | [d0, d1, d2, d3], _ =>
    obtain ⟨n0, e0, h0⟩ := hP d0 (by simp)
    obtain ⟨n1, e1, h1⟩ := hP d1 (by simp)
    obtain ⟨n2, e2, h2⟩ := hP d2 (by simp)
    obtain ⟨n3, e3, h3⟩ := hP d3 (by simp)
    subst e0; subst e1; subst e2; subst e3
    simp
    refine word_q S2 fun r w l3 S3 ew hw => ?_
    simp [ix0, ix1, ix2, oCatD, oCat, lstD, ew]
    have all : ∀ rows : List D, rows = [.tup [.str "back"], .tup [.str "drop", .int n0], .tup [.str "scale", .int n0], .tup [.str "put", .int n0, .int n1, .int n2], .tup [.str "tree", .str a, .str b], .tup [.str "steady", .str a], .tup [.str "lay", .str a], .tup [.str "least", .str a, .str w], .tup [.str "groups", .str a, .str b, .int n0], .tup [.str "keep", .str a, .str b, .int n0], .tup [.str "chain", .str a, .str b, .int n0, .int n1, .int n2], .tup [.str "compare", .str a, .str b, .str w], .tup [.str "price", .str a, .str b, .int n0], .tup [.str "learn", .int n0, .int n1], .tup [.str "axioms", .str a, .int n0, .int n1], .tup [.str "wide", .str a, .str b, .int n0, .int n1]] → ∀ x ∈ rows, ∃ z, GoodO x z := by
      intro rows e x hx
      rw [e] at hx
      simp only [List.mem_cons, List.not_mem_nil, or_false] at hx
      have N : ∀ {z : Str}, isName z = true → ∀ {ss : List Srt} {ds : List D} {ts ws : List Str}, ArgsOk ss ds ts ws → ArgsOk (.name :: ss) (.str z :: ds) ([z] ++ ts) ([z] ++ ws) := fun h _ _ _ _ r => .cons rfl (.name h) r
      have M : ∀ {n : Nat}, n < 1000000000000 → ∀ {ss : List Srt} {ds : List D} {ts ws : List Str}, ArgsOk ss ds ts ws → ArgsOk (.number :: ss) (.int n :: ds) ([numT n] ++ ts) ([numT n] ++ ws) := fun h _ _ _ _ r => .cons rfl (.number h) r
      have K : ArgsOk [.kind] [.str w] [w] [w] := .last (.kind hw)
      rcases hx with rfl | rfl | rfl | rfl | rfl | rfl | rfl | rfl | rfl | rfl | rfl | rfl | rfl | rfl | rfl | rfl
      · exact goodO_mk (by decide +kernel) .nil
      · exact goodO_mk (by decide +kernel) (M h0 .nil)
      · exact goodO_mk (by decide +kernel) (M h0 .nil)
      · exact goodO_mk (by decide +kernel) (M h0 (M h1 (M h2 .nil)))
      · exact goodO_mk (by decide +kernel) (N ha (N hb .nil))
      · exact goodO_mk (by decide +kernel) (N ha .nil)
      · exact goodO_mk (by decide +kernel) (N ha .nil)
      · exact goodO_mk (by decide +kernel) (N ha K)
      · exact goodO_mk (by decide +kernel) (N ha (N hb (M h0 .nil)))
      · exact goodO_mk (by decide +kernel) (N ha (N hb (M h0 .nil)))
      · exact goodO_mk (by decide +kernel) (N ha (N hb (M h0 (M h1 (M h2 .nil)))))
      · exact goodO_mk (by decide +kernel) (N ha (N hb K))
      · exact goodO_mk (by decide +kernel) (N ha (N hb (M h0 .nil)))
      · exact goodO_mk (by decide +kernel) (M h0 (M h1 .nil))
      · exact goodO_mk (by decide +kernel) (N ha (M h0 (M h1 .nil)))
      · exact goodO_mk (by decide +kernel) (N ha (N hb (M h0 (M h1 .nil))))
    have txt : ∀ {kd : Str} {z : Str}, (formOf kd = some [.name, .text]) → isFree z = true → z.length ≤ 2000 → Asc z → ∃ y, GoodO (.tup [.str kd, .str a, .str z]) y := fun hf h1 h2 h3 => goodO_mk hf (.cons rfl (.name ha) (.last (.text h1 h2 h3)))
    refine take_q S3 (by omega) fun way l4 S4 hway => ?_
    generalize hrows : [D.tup [D.str (Str.ofString "back")], _, _, _, _, _, _, _, _, _, _, _, _, _, _, _] = rows
    have hall := all rows hrows.symm
    have hlen : rows.length = 16 := by rw [← hrows]; rfl
    by_cases h16 : (way : Int) < 16
    · have hl : way < rows.length := by omega
      simp [h16, oIx_lst (List.getElem?_eq_getElem hl)]
      exact h _ l4 S4 (hall _ (List.getElem_mem hl))
    by_cases h19 : (way : Int) < 19
    · simp [h16, h19]
      have : ∃ kd : Str, oIx (.lst [.str "table", .str "figure", .str "rule"]) (.int ((way : Int) - 16)) = some (.str kd) ∧ formOf kd = some [.name, .text] := by
        obtain hh | hh | hh : way = 16 ∨ way = 17 ∨ way = 18 := by omega
        · subst hh; exact ⟨_, ix0, by decide +kernel⟩
        · subst hh; exact ⟨_, ix1, by decide +kernel⟩
        · subst hh; exact ⟨_, ix2, by decide +kernel⟩
      obtain ⟨kd, e, hf⟩ := this
      simp [e]
      refine free_text_q S4 fun r z l5 S5 ez h1 h2 h3 => ?_
      simp [ez]
      exact h _ l5 S5 (txt hf h1 h2 h3)
    by_cases h21 : (way : Int) < 21
    · simp [h16, h19, h21]
      refine free_text_q S4 fun r z l5 S5 ez h1 h2 h3 => ?_
      simp [ez]
      exact h _ l5 S5 (goodO_mk (by decide +kernel) (.cons rfl (.name ha) (.cons rfl (.number h0) (.last (.text h1 h2 h3)))))
    by_cases h21' : (way : Int) = 21
    · simp [h16, h19, h21, oEq_int, h21']
      refine size_q (n := 11) S4 (by omega) (by omega) fun k l5 S5 hk => ?_
      simp
      refine And.intro (by omega) ?_
      refine CQ_draw (st := fun l => [some (.ow l), some (.fz (.lst [.str a, .str b, .str c])), some (.fz (.lst [.int n0, .int n1, .int n2, .int n3])), some (.fz (.str w)), some (.fz (.lst rows)), some (.fz (.int 21)), none]) (P := fun d => ∃ n : Nat, d = D.int n ∧ n < 1000000000000) (by rw [rng_len]; omega) S5 (fun d hd l S => ?_) fun acc l6 S6 hacc hP => ?_
      · simp
        refine order_number_q S fun r n l' S' e hn => ?_
        simp [e]
        exact ⟨S', n, rfl, hn⟩
      · rw [rng_len] at hacc
        have : ∃ ns : List Nat, acc = ns.map (fun n : Nat => D.int n) ∧ ∀ n ∈ ns, n < 1000000000000 := by
          clear hacc
          induction acc with
          | nil => exact ⟨[], rfl, by simp⟩
          | cons d ds ih =>
            obtain ⟨n, e, hn⟩ := hP d (by simp)
            obtain ⟨ns, e2, hns⟩ := ih fun x m => hP x (by simp [m])
            exact ⟨n :: ns, by simp [e, e2], by simpa using ⟨hn, hns⟩⟩
        obtain ⟨ns, rfl, hns⟩ := this
        simp at hacc
        simp
        exact h _ l6 S6 (goodO_mk (by decide +kernel) (.last (.numbers hns (by omega))))
    · simp [h16, h19, h21, oEq_int, h21']
      refine size_q (n := 18) S4 (by omega) (by omega) fun k l5 S5 hk => ?_
      simp
      refine And.intro (by omega) ?_
      refine CQ_draw (st := fun l => [some (.ow l), some (.fz (.lst [.str a, .str b, .str c])), some (.fz (.lst [.int n0, .int n1, .int n2, .int n3])), some (.fz (.str w)), some (.fz (.lst rows)), some (.fz (.int way)), none]) (P := fun d => ∃ z : Str, d = D.str z ∧ isName z = true) (by rw [rng_len]; omega) S5 (fun d hd l S => ?_) fun acc l6 S6 hacc hP => ?_
      · simp
        refine pick_q S (by simp) (by simp) fun x hx l' S' => ?_
        simp at hx
        simp
        refine ⟨S', ?_⟩
        rcases hx with rfl | rfl | rfl
        · exact ⟨_, rfl, ha⟩
        · exact ⟨_, rfl, hb⟩
        · exact ⟨_, rfl, hc⟩
      · rw [rng_len] at hacc
        have : ∃ ns : List Str, acc = ns.map D.str ∧ ∀ n ∈ ns, isName n = true := by
          clear hacc
          induction acc with
          | nil => exact ⟨[], rfl, by simp⟩
          | cons d ds ih =>
            obtain ⟨n, e, hn⟩ := hP d (by simp)
            obtain ⟨ns, e2, hns⟩ := ih fun x m => hP x (by simp [m])
            exact ⟨n :: ns, by simp [e, e2], by simpa using ⟨hn, hns⟩⟩
        obtain ⟨ns, rfl, hns⟩ := this
        simp at hacc
        simp
        exact h _ l6 S6 (goodO_mk (by decide +kernel) (.cons rfl (.name ha) (.last (.names hns (by omega)))))
end K31

set_option maxHeartbeats 2000000
namespace K31
open PySem PySem.Spec PyProof.Rows L2 FL
theorem two_free {a b : Str} (ha : Solid a) (hb : Solid b) : isFree (a ++ ⟨#[32]⟩ ++ b) = true := by
  have := free_join (ws := [a, b]) (by simp) (by simpa using ⟨ha, hb⟩)
  have e : Txt.join ⟨#[32]⟩ [a, b] = a ++ ⟨#[32]⟩ ++ b := by rw [tjoin]; rfl
  rwa [e] at this
theorem ones (n : Nat) : (rng 0 n).map (fun _ => D.int 1) = (List.replicate n 1).map (fun n : Nat => D.int n) := by
  unfold rng
  rw [List.map_map, List.map_replicate, List.eq_replicate_iff]
  refine ⟨by simp, fun b hb => ?_⟩
  obtain ⟨i, _, rfl⟩ := List.mem_map.mp hb
  rfl
theorem long_order_q {l : List D} {n : Nat} {R : Ret → List FL.Slot → Prop} {X : Exn → List FL.Slot → Prop} (S : Sto l) (h0 : 199 ≤ n) (h1 : n ≤ 201) (h : ∀ r l', Sto l' → (∃ z, GoodO (retD r) z) → R r [.ow l']) : FQ (m__law_long_order [.ow l, .fz (.int n)]) R X := by
  unfold m__law_long_order
  rw [FQ_run]
  unfold b__law_long_order
  simp [List.replicate_succ]
  have hsg : ∀ c ∈ (Str.ofString "x0A~!-").cps.toList, c ∈ sgs.cps.toList := by decide +kernel
  refine pickS_q S (by decide +kernel) (by decide +kernel) fun c hc l1 S1 => ?_
  have hc := hsg c hc
  simp
  refine take_q S1 (by omega) fun way l2 S2 hway => ?_
  simp [oEq_int]
  by_cases hw : way = 0
  · simp [hw]
    refine CQ_map (fun _ => .int 1) (by rw [rng_len]; decide) (fun d hd => by simp) ?_
    have : ∃ ns : List Nat, oIx (.lst [.lst [.int 12], .lst [.int 1, .int 1], .lst [.int 1, .int 12]]) (.int ((n : Int) - 199)) = some (.lst (ns.map fun n : Nat => D.int n)) ∧ (∀ n ∈ ns, n < 1000000000000) ∧ ns.length ≤ 2 := by
      obtain hh | hh | hh : n = 199 ∨ n = 200 ∨ n = 201 := by omega
      · subst hh; exact ⟨[12], ix0, by simp, by simp⟩
      · subst hh; exact ⟨[1, 1], ix1, by simp, by simp⟩
      · subst hh; exact ⟨[1, 12], ix2, by simp, by simp⟩
    obtain ⟨ns, e, hns, hl⟩ := this
    rw [ones]
    simp [e, oCatD, oCat, lstD, show 96 + ns.length ≤ 16777216 by omega]
    refine h _ l2 S2 ?_
    have := goodO_mk (kd := "grow") (by decide +kernel) (.last (.numbers (ns := List.replicate 96 1 ++ ns) (fun m hm => by
      rcases List.mem_append.mp hm with hm | hm
      · rw [(List.mem_replicate.mp hm).2]; decide
      · exact hns m hm) (by simp; omega)))
    simpa using this
  simp [hw]
  refine pick_q S2 (by simp) (by simp) fun nm hnm l3 S3 => ?_
  have hnm : ∃ z : Str, nm = .str z ∧ isName z = true := by
    simp at hnm
    rcases hnm with rfl | rfl | rfl | rfl
    all_goals exact ⟨_, rfl, by decide +kernel⟩
  obtain ⟨z, rfl, hz⟩ := hnm
  have zl := isName_len hz
  simp
  refine pick_q S3 (by simp) (by simp) fun kd hkd l4 S4 => ?_
  have hkd : ∃ k : Str, kd = .str k ∧ formOf k = some [.name, .text] ∧ k.length ≤ 10 := by
    simp at hkd
    rcases hkd with rfl | rfl | rfl
    all_goals exact ⟨_, rfl, by decide +kernel, by decide +kernel⟩
  obtain ⟨k, rfl, hk, hkl⟩ := hkd
  simp
  have fin : ∀ (hd : List D) (ts : List Str), Ents hd ts → sumL ts ≤ 60 → (∀ t : Str, isFree t = true → t.length ≤ 2000 → Asc t → ∃ y, GoodO (.tup (hd ++ [.str t])) y) → hd.length ≤ 5 → SQ ((sSeq (sSet 6 (iBin oSub (iBin oSub (iVar 1) (iFn oLen (iCons (iCallA 1 m__law_order_line (iCons (iVar 5) iNil)) iNil))) (iC (.int 1))))
 (sSeq (sSet 7 (iBin oAdd (iC (.int 1)) (iCall 2 m__law_take 0 (iCons (iBin oSub (iVar 6) (iC (.int 2))) iNil))))
 (sRet (iFn oTuple (iCons (iFz (iBinN oCatD (iVar 5) (iFz (iLs (iCons (iBin oAdd (iBin oAdd (iBin oMulS (iVar 2) (iVar 7)) (iC (.str " "))) (iBin oMulS (iVar 2) (iBin oSub (iBin oSub (iVar 6) (iVar 7)) (iC (.int 1))))) iNil))))) iNil))))) [some (.ow l4), some (.fz (.int n)), some (.fz (.str ⟨#[c]⟩)), some (.fz (.int way)), some (.fz (.str z)), some (.fz (.lst hd)), none, none, none]) (fun s => outP s [0] fun o => R (.fz .non) o) (fun r s => outP s [0] fun o => R r o) (fun x s => outP s [0] fun o => X x o) := by
    intro hd ts he hs hg hhd
    have e1 := order_line_eq (.inl rfl) he (by omega)
    have jl : (Txt.join ⟨#[32]⟩ ts).length ≤ 60 := by have := join_len ts 32; unfold sumL at hs; omega
    simp [e1, oLen_str (show (Txt.join ⟨#[32]⟩ ts).length ≤ 16777216 by omega)]
    generalize (Txt.join ⟨#[32]⟩ ts).length = jn at *
    refine take_q S4 (by omega) fun cut l5 S5 hcut => ?_
    obtain ⟨rest, hrest⟩ : ∃ rest : Nat, (n : Int) - jn - 1 = rest := ⟨n - jn - 1, by omega⟩
    rw [hrest] at hcut
    have h2 : rest - (cut + 1) - 1 < 1000000 := by omega
    have m1 : oMulS (.str ⟨#[c]⟩) (.int (1 + (cut : Int))) = some (.str (Txt.mul ⟨#[c]⟩ ((cut + 1 : Nat) : Int))) := by
      have := oMulS_ok (z := ⟨#[c]⟩) (n := cut + 1) (by rw [show (⟨#[c]⟩ : Str).length = 1 from rfl]; omega) (by omega)
      rw [show (1 + (cut : Int)) = ((cut + 1 : Nat) : Int) by omega]
      exact this
    have m2 : oMulS (.str ⟨#[c]⟩) (.int ((rest : Int) - (1 + (cut : Int)) - 1)) = some (.str (Txt.mul ⟨#[c]⟩ ((rest - (cut + 1) - 1 : Nat) : Int))) := by
      have := oMulS_ok (z := ⟨#[c]⟩) (n := rest - (cut + 1) - 1) (by rw [show (⟨#[c]⟩ : Str).length = 1 from rfl]; omega) (by omega)
      rw [show ((rest : Int) - (1 + (cut : Int)) - 1) = ((rest - (cut + 1) - 1 : Nat) : Int) by omega]
      exact this
    have b1 := mul_one_len c (cut + 1)
    have b2 := mul_one_len c (rest - (cut + 1) - 1)
    have s1 := solid_mul (n := cut + 1) (by omega) hc
    have s2 := solid_mul (n := rest - (cut + 1) - 1) (by omega) hc
    generalize Txt.mul ⟨#[c]⟩ ((cut + 1 : Nat) : Int) = w1 at *
    generalize Txt.mul ⟨#[c]⟩ ((rest - (cut + 1) - 1 : Nat) : Int) = w2 at *
    have t1 : (⟨#[32]⟩ : Str).length = 1 := rfl
    simp [hrest, m1, m2, spS, oAdd_str (show w1.length + (⟨#[32]⟩ : Str).length ≤ 16777216 by omega), oAdd_str (show (w1 ++ ⟨#[32]⟩).length + w2.length ≤ 16777216 by rw [len_app]; omega), oCatD, oCat, lstD, show hd.length + 1 ≤ 16777216 by omega]
    refine h _ l5 S5 (hg _ (two_free s1 s2) (by rw [len_app, len_app]; omega) (plain_asc fun x hx => ?_))
    rw [tlA, tlA] at hx
    simp at hx
    rcases hx with hx | rfl | hx
    · exact solid_plain s1 x (by simpa using hx)
    · omega
    · exact solid_plain s2 x (by simpa using hx)
  by_cases hw1 : (way : Int) = 1
  · have pw : oPow (.int 10) (.int 12) = some (.int 1000000000000) := pw12
    simp only [hw1] at fin ⊢
    have := fin [.str "sample", .str z, .int 999999999999] ([("sample" : Str)] ++ ([z] ++ ([numT 999999999999] ++ []))) (.cons .str (.cons .str (.cons (.int (n := 999999999999) (by decide)) .nil))) (by
      have := numT_len12 (n := 999999999999) (by decide)
      have h2 : (Str.ofString "sample").length = 6 := by decide +kernel
      simp [sumL]
      omega) (fun t t1 t2 t3 => goodO_mk (by decide +kernel) (.cons rfl (.name hz) (.cons rfl (.number (n := 999999999999) (by decide)) (.last (.text t1 t2 t3))))) (by simp)
    simp at this
    simp [pw]
    exact this
  · have := fin [.str k, .str z] ([k] ++ ([z] ++ [])) (.cons .str (.cons .str .nil)) (by simp [sumL]; omega) (fun t t1 t2 t3 => goodO_mk hk (.cons rfl (.name hz) (.last (.text t1 t2 t3)))) (by simp)
    simp at this
    simp [hw1]
    exact this
end K31

set_option maxHeartbeats 2000000
namespace K31
open PySem PySem.Spec PyProof.Rows L2 FL
theorem orders_drawn_q {l : List D} {R : Ret → List FL.Slot → Prop} {X : Exn → List FL.Slot → Prop} (S : Sto l) (h : ∀ r ds l', Sto l' → retD r = .lst ds → (∀ d ∈ ds, ∃ z, GoodO d z) → 1 ≤ ds.length → ds.length ≤ 62 → R r [.ow l']) : FQ (m__law_orders_drawn [.ow l]) R X := by
  unfold m__law_orders_drawn
  rw [FQ_run]
  unfold b__law_orders_drawn
  simp [List.replicate_succ]
  refine pick_q S (by simp) (by simp) fun x hx l1 S1 => ?_
  have hm : ∃ m : Nat, x = .int m ∧ 1 ≤ m ∧ m ≤ 62 := by
    simp at hx
    rcases hx with rfl | rfl | rfl | rfl | rfl | rfl | rfl | rfl | rfl | rfl
    · exact ⟨60, rfl, by omega, by omega⟩
    · exact ⟨3, rfl, by omega, by omega⟩
    · exact ⟨61, rfl, by omega, by omega⟩
    · exact ⟨1, rfl, by omega, by omega⟩
    · exact ⟨59, rfl, by omega, by omega⟩
    · exact ⟨8, rfl, by omega, by omega⟩
    · exact ⟨62, rfl, by omega, by omega⟩
    · exact ⟨2, rfl, by omega, by omega⟩
    · exact ⟨60, rfl, by omega, by omega⟩
    · exact ⟨5, rfl, by omega, by omega⟩
  clear hx
  obtain ⟨m, rfl, m1, m62⟩ := hm
  have om : oMin [.int (m : Int), .int 9] = some (.int ((min m 9 : Nat) : Int)) := by
    show some (D.int (if (9 : Int) < m then 9 else m)) = _
    split
    · rw [Nat.min_eq_right (by omega)]; rfl
    · rw [Nat.min_eq_left (by omega)]
  simp only [List.set_cons_succ, List.set_cons_zero, letS_cons, ow1_ow, retD_fz, OQ_iLc, OQ_iRng1, OQ_iFn, OQ_iCons, OQ_iVar, getF_succ, getF_zero, OQ_iC, OQ_iNil, om, optP_some, intP_int, wipeA_cons, wipeA_nil]
  refine And.intro (by omega) ?_
  rw [Int.toNat_natCast]
  have hmin : min m 9 ≤ m := Nat.min_le_left _ _
  have hmin1 : 1 ≤ min m 9 := by omega
  generalize min m 9 = q at *
  refine CQ_draw (st := fun l => [some (.ow l), some (.fz (.int m)), none, none, none]) (P := fun d => ∃ z, GoodO d z) (by rw [rng_len]; omega) S1 (fun d hd l S => ?_) fun acc l2 S2 hacc hP => ?_
  · simp
    refine order_q S fun r l' S' g => ?_
    simp
    exact ⟨S', g⟩
  rw [rng_len] at hacc
  simp
  refine And.intro (by omega) ?_
  have hk : m - acc.length = m - q := by omega
  rw [hk]
  refine CQ_map (fun d => .tup [.str "drop", d]) (by rw [rng_len]; simp; omega) (fun d hd => by simp) ?_
  have all : ∀ d ∈ acc ++ (rng 0 (m - q)).map (fun d => D.tup [.str "drop", d]), ∃ z, GoodO d z := fun d hd => by
    rcases List.mem_append.mp hd with hd | hd
    · exact hP d hd
    · obtain ⟨e, he, rfl⟩ := List.mem_map.mp hd
      unfold rng at he
      obtain ⟨n, hn, rfl⟩ := List.mem_map.mp he
      have hn : n < m - q := by simpa using hn
      have := goodO_mk (kd := "drop") (by decide +kernel) (.cons rfl (.number (n := n) (by omega)) .nil)
      simpa using this
  have hlen : (acc ++ (rng 0 (m - q)).map (fun d => D.tup [.str "drop", d])).length = m := by
    rw [List.length_append, List.length_map, rng_len]
    omega
  have oc : oCatD (.lst acc) (.lst ((rng 0 (m - q)).map (fun d => D.tup [.str "drop", d]))) = some (acc ++ (rng 0 (m - q)).map (fun d => D.tup [.str "drop", d])) := by
    show (if _ then _ else _) = _
    rw [if_pos (by rw [List.length_map, rng_len]; omega)]
  simp [oc]
  generalize acc ++ (rng 0 (m - q)).map (fun d => D.tup [.str "drop", d]) = ds at *
  refine take_q S2 (by omega) fun t3 l3 S3 h3 => ?_
  simp
  refine take_q S3 (by omega) fun t2 l4 S4 h2 => ?_
  simp [oEq_int]
  by_cases hz : t2 = 0
  · simp [hz]
    have := long_order_q (n := 199 + t3) (R := fun r o => ∃ l', o = [.ow l'] ∧ Sto l' ∧ ∃ z, GoodO (retD r) z) (X := fun _ _ => False) S4 (by omega) (by omega) fun r l' S' g => ⟨l', rfl, S', g⟩
    rw [show ((199 + t3 : Nat) : Int) = 199 + (t3 : Int) by omega] at this
    refine FQ.imp this (fun r o ⟨l5, e, S5, g⟩ => ?_) fun _ _ z => z.elim
    subst e
    simp
    refine take_q S5 (by omega) fun at' l6 S6 hat => ?_
    have hat : at' < ds.length := by omega
    simp [gSetAt, ixN, hat]
    refine h _ _ l6 S6 rfl (fun d hd => ?_) (by simp; omega) (by simp; omega)
    rcases List.mem_or_eq_of_mem_set hd with hd | rfl
    · exact all d hd
    · exact g
  · simp [hz]
    exact h _ _ l4 S4 rfl all (by omega) (by omega)
/-! orders that no line gives -/
def bads : List D := [.tup [.str "table", .str "A", .str ""], .tup [.str "table", .str "A", .str "a  b"], .tup [.str "table", .str "A", .str "a "], .tup [.str "rule", .str "abcdefghi", .str "x"], .tup [.str "drop", .int (-1)],
  .tup [.str "drop", .bl true], .tup [.str "drop", .int 1000000000000], .lst [.str "drop", .int 0], .tup [.str "grow", .tup [.int 1, .int 2]], .tup [.str "grow", .lst [.int 1, .bl true]], .tup [.str "back", .int 0],
  .tup [.str "book", .str "B", .tup [.str "f"]], .tup [.str "book", .str "B", .lst [.str "f1"]], .tup [.str "paint", .str "A"], .tup [.str "least", .str "B", .str "road"], .non, .tup [],
  .tup [.str "sample", .str "A", .str "1", .str "0"], .tup [.str "table", .str "A", .str "a\tb"], .tup [.str "groups", .str "A", .str "B"], .str "back", .tup [.str "steady", .str ""],
  .tup [.str "table", .str "A", .str (Txt.mul "x" 193)], .tup [.str "grow", .lst ((rng 0 97).map (fun _ => .int 1) ++ [.int 12])], .tup [.str "lay", .str "f", .str "g"], .tup [.str "drop", .str "0"],
  .tup [.str "figure", .str "f", .str " a"], .tup [.str "rule", .str "R", .str "a\nb"], .tup [.str "wide", .str "A", .str "B", .int 1], .tup [.str "drop"]]
def isNonRt : FOut → Bool
  | .rt (.fz .non) [] => true
  | _ => false
theorem isNonRt_eq {o : FOut} (h : isNonRt o = true) : o = .rt (.fz .non) [] := by
  unfold isNonRt at h
  split at h
  · rfl
  · cases h
theorem bads_ok : ∀ d ∈ bads, LnR d none := fun d hd => by
  have : bads.all (fun d => isNonRt (m_line_of [.fz d])) = true := by kernel_rfl
  rw [List.all_eq_true] at this
  exact ⟨isNonRt_eq (this d hd), by simp⟩
end K31

set_option maxHeartbeats 2000000
namespace K31
open PySem PySem.Spec PyProof.Rows L2 FL
theorem mul193 : oMulS (.str (Str.ofString "x")) (.int 193) = some (.str (Txt.mul (Str.ofString "x") 193)) := oMulS_ok (n := 193) (by decide +kernel) (by decide)
theorem bad_order_q {l : List D} {R : Ret → List FL.Slot → Prop} {X : Exn → List FL.Slot → Prop} (S : Sto l) (h : ∀ d ∈ bads, ∀ l', Sto l' → R (.fz d) [.ow l']) : FQ (m__law_bad_order [.ow l]) R X := by
  unfold m__law_bad_order
  rw [FQ_run]
  unfold b__law_bad_order
  simp [List.replicate_succ, oCatD, oCat, lstD, pw12, mul193]
  refine CQ_map (fun _ => .int 1) (by rw [rng_len]; decide) (fun d hd => by simp) ?_
  simp [oCatD, oCat, lstD, rng_len]
  refine FQ.imp (pick_q (R := fun r o => ∃ d l', d ∈ bads ∧ r = .fz d ∧ o = [.ow l'] ∧ Sto l') (X := fun _ _ => False) (xs := bads) S (by simp [bads]) (by simp [bads]) fun x hx l' S' => ⟨x, l', hx, rfl, rfl, S'⟩) (fun r o ⟨d, l', hd, e1, e2, S'⟩ => ?_) fun _ _ z => z.elim
  subst e1; subst e2
  simp
  exact h d hd l' S'
end K31

set_option maxHeartbeats 2000000
namespace K31
open PySem PySem.Spec PyProof.Rows L2 FL
theorem szL_le {k : Nat} : ∀ {xs : List D}, (∀ x ∈ xs, szD x ≤ k) → szL xs ≤ xs.length * k
  | [], _ => by simp [szL]
  | x :: xs, h => by
    have := szL_le (xs := xs) fun y m => h y (by simp [m])
    have h1 := h x (by simp)
    simp [szL]
    rw [Nat.add_mul]
    omega
theorem plain_ok {z : Str} (h : Plain z) : PyData.strOk z = true := (plain_asc h).ok
/-- what stands in an order -/
structure EntOk (e : D) : Prop where
  ok : okD e = true
  sz : szD e ≤ 201
  en : okEnt e = true
  ls : ∃ b, isiB "list" e = some b ∧ (b = true → ∃ xs, e = .lst xs)
theorem entOk_str {z : Str} (h : PyData.strOk z = true) : EntOk (.str z) := ⟨h, by simp [szD], rfl, false, by simp [subTy], by simp⟩
theorem arg_ent {s : Srt} {d : D} {ts ws : List Str} (h : ArgOk s d ts ws) : EntOk d := by
  have hp := (arg_plain h).1
  cases h
  · exact ⟨rfl, by simp [szD], rfl, false, by simp [subTy], by simp⟩
  · exact entOk_str (plain_ok (hp _ (by simp)))
  · exact entOk_str (plain_ok (hp _ (by simp)))
  · exact entOk_str (plain_ok (hp _ (by simp)))
  · rename_i h hl
    refine ⟨okL_of fun x hx => ?_, ?_, by simp [okEnt]; omega, true, by simp [subTy], fun _ => ⟨_, rfl⟩⟩
    · obtain ⟨z, hz, rfl⟩ := List.mem_map.mp hx
      exact plain_ok (hp z hz)
    · have := szL_le (k := 1) (xs := ts.map D.str) fun x hx => by
        obtain ⟨z, hz, rfl⟩ := List.mem_map.mp hx
        simp [szD]
      simp [szD] at this ⊢
      omega
  · rename_i ns h hl
    refine ⟨okL_of fun x hx => ?_, ?_, by simp [okEnt]; omega, true, by simp [subTy], fun _ => ⟨_, rfl⟩⟩
    · obtain ⟨z, hz, rfl⟩ := List.mem_map.mp hx
      rfl
    · have := szL_le (k := 1) (xs := ns.map fun n : Nat => D.int n) fun x hx => by
        obtain ⟨z, hz, rfl⟩ := List.mem_map.mp hx
        simp [szD]
      simp [szD] at this ⊢
      omega
theorem args_ent : ∀ {ss : List Srt} {ds : List D} {ts ws : List Str}, ArgsOk ss ds ts ws → ∀ d ∈ ds, EntOk d
  | _, _, _, _, .nil => by simp
  | _, _, _, _, .last h => by simpa using arg_ent h
  | _, _, _, _, .cons hs h r => by simpa using ⟨arg_ent h, args_ent r⟩
/-- an order -/
theorem goodO_ent {o : D} {z : Str} (h : GoodO o z) : ∃ es, o = .tup es ∧ es.length ≤ 6 ∧ ∀ e ∈ es, EntOk e := by
  obtain ⟨kd, ss, ds, ts, ws, rfl, hf, ha, rfl⟩ := h
  have h1 := forms_len hf
  have h2 := (args_parts ha).2.1
  exact ⟨_, rfl, by simp; omega, by simpa using ⟨entOk_str (form_len hf).2, args_ent ha⟩⟩
theorem goodO_okD {o : D} {z : Str} (h : GoodO o z) : okD o = true ∧ szD o ≤ 1300 ∧ okItem o = true := by
  obtain ⟨es, rfl, hl, he⟩ := goodO_ent h
  have := szL_le (k := 201) fun e m => (he e m).sz
  have : es.length * 201 ≤ 6 * 201 := Nat.mul_le_mul_right _ hl
  refine ⟨okL_of fun e m => (he e m).ok, by simp [szD]; omega, ?_⟩
  simp only [okItem, Bool.and_eq_true, decide_eq_true_eq, List.all_eq_true]
  exact ⟨by omega, fun e m => (he e m).en⟩
theorem copy_ok {es : List D} (he : ∀ e ∈ es, EntOk e) (hl : es.length ≤ 6) {s : AS} {t : D} (o5 : Option FL.Slot) {Q : D → AS → Prop} {X : Exn → AS → Prop} (hq : Q (.tup es) [some (.fz s0), some (.fz t), none, some (.fz (.tup es)), none, o5]) :
    OQ (iFn oTuple (iCons (iFz (iLc [4] (iSq (iVar 3)) (gSlot 4) (fun ŝ => .ok true ŝ) (iIf (iBl (iIsi (isiB "list") (iVar 4))) (iFz (iFnN oList (iCons (iVar 4) iNil))) (iVar 4)))) iNil) [some (.fz s0), some (.fz t), none, some (.fz (.tup es)), none, o5]) Q X := by
  simp
  refine CQ_map (fun d => d) (by simp; omega) (fun d hd => ?_) ?_
  · obtain ⟨b, hb, hx⟩ := (he d hd).ls
    simp [hb]
    cases b with
    | true =>
      obtain ⟨xs, rfl⟩ := hx rfl
      simp
    | false => simp
  · simp
    exact hq
theorem good_script_ok {ds : List D} {zs : List Str} {text : Str} (h : ∀ d ∈ ds, ∃ z, GoodO d z) (hl : ds.length ≤ 60) (hz : text.length ≤ 10000000) (ha : Asc text) (hr : readT text = .inr ds) (ht : m_tell_script [.fz (.lst ds)] = .rt (.fz (.str text)) []) : m__law_good_script [.fz (.lst ds), .fz (.str text)] = .rt (.fz (.bl true)) [] := by
  have rd : m_read_script [.fz (.str text)] = .rt (.ow ds) [] := by rw [read_script_eq hz ha, hr]
  have okds : okD (.lst ds) = true := okL_of fun d m => by obtain ⟨z, g⟩ := h d m; exact (goodO_okD g).1
  have szds : szD (.lst ds) ≤ 100000 := by
    have := szL_le (k := 1300) (xs := ds) fun d m => by obtain ⟨z, g⟩ := h d m; exact (goodO_okD g).2.1
    have : ds.length * 1300 ≤ 60 * 1300 := Nat.mul_le_mul_right _ hl
    simp [szD]
    omega
  have item : ds.all okItem = true := by
    rw [List.all_eq_true]
    exact fun d m => by obtain ⟨z, g⟩ := h d m; exact (goodO_okD g).2.2
  have sm := same_ok okds szds
  have smt : m__law_same [.fz (.str text), .fz (.str text)] = .rt (.fz (.bl true)) [] := same_ok ha.ok (by simp [szD])
  have rd0 : m_read_script [.fz (.str (Str.ofString ""))] = .rt (.ow []) [] := by
    rw [emS, read_script_eq (by decide) (by decide)]
    simp [readT]
  have t0 : m_tell_script [.fz (.lst [])] = .rt (.fz (.str (Str.ofString ""))) [] := by
    rw [tell_script_eq .nil (by decide)]
    simp [somes]
    decide +kernel
  have sm0 : m__law_same [.fz (.lst []), .fz (.lst [])] = .rt (.fz (.bl true)) [] := same_ok rfl (by simp [szD, szL])
  have sms : m__law_same [.fz (.str (Str.ofString "")), .fz (.str (Str.ofString ""))] = .rt (.fz (.bl true)) [] := same_ok (by decide +kernel) (by simp [szD])
  refine FQ_is ?_
  unfold m__law_good_script
  rw [FQ_run]
  unfold b__law_good_script
  simp [List.replicate_succ]
  unfold sSpoil
  simp only [gget_succ, gget_zero, rd, item, sm]
  rw [if_pos ⟨by omega, trivial⟩]
  simp
  refine CQ_inv (I := fun n a t => a = ds.take n ∧ t = [some (.fz (.lst ds)), some (.fz (.str text)), none, none, none, none]) 0 ⟨by simp, rfl⟩ (by simp; omega) (fun n d a t e hl2 ⟨h1, h2⟩ => ?_) fun a t ⟨h1, h2⟩ => ?_
  · subst h1; subst h2
    obtain ⟨z, g⟩ := h d (List.mem_of_getElem? e)
    obtain ⟨es, rfl, hes, he⟩ := goodO_ent g
    simp only [optP_gSlot, List.set_cons_succ, List.set_cons_zero, letS_cons, OQ_ok, if_true]
    refine copy_ok he hes (s := []) none ?_
    simp [List.take_add_one, e]
  · subst h1; subst h2
    simp [rd, sm, ht, smt, rd0, sm0, t0, sms]
end K31

set_option maxHeartbeats 2000000
namespace K31
open PySem PySem.Spec PyProof.Rows L2 FL
theorem p60 : oPow (.int 10) (.int 60) = some (.int (10 ^ 60)) := by kernel_rfl
theorem p18 : oPow (.int 10) (.int 18) = some (.int (10 ^ 18)) := by kernel_rfl
theorem m120 : oMul (.int (10 ^ 60)) (.int (10 ^ 60)) = some (.int (10 ^ 120)) := by kernel_rfl
theorem m180 : oMul (.int (10 ^ 120)) (.int (10 ^ 60)) = some (.int (10 ^ 180)) := by kernel_rfl
theorem m240 : oMul (.int (10 ^ 180)) (.int (10 ^ 60)) = some (.int (10 ^ 240)) := by kernel_rfl
theorem m300 : oMul (.int (10 ^ 240)) (.int (10 ^ 60)) = some (.int (10 ^ 300)) := by kernel_rfl
theorem mod300 (i : Int) : oMod (.int i) (.int (10 ^ 300)) = some (.int (i % 10 ^ 300)) := by
  simp only [oMod]
  rw [if_pos (by decide)]
theorem down_ok (i : Int) : ∃ k, m__law_down [.fz (.int i)] = .rt (.fz (.int k)) [] := by
  have : FQ (m__law_down [.fz (.int i)]) (fun r o => o = [] ∧ ∃ k, r = .fz (.int k)) (fun _ _ => False) := by
    unfold m__law_down
    rw [FQ_run]
    unfold b__law_down
    simp only [List.map_cons, List.map_nil, List.length_cons, List.length_nil, Nat.reduceAdd, Nat.reduceSub, List.replicate_succ, List.replicate_zero, List.cons_append, List.nil_append, letS_cons, SQ_seq, SQ_set, OQ_iFn, OQ_iCons, OQ_iVar, getF_zero, getF_succ, OQ_iNil, oInt_int, optP_some, List.set_cons_succ, List.set_cons_zero, SQ_if, OQ_iBl, OQ_iChain, OQ_iUn, OQ_iBin, OQ_iC, p18, p60, m120, m180, m240, m300, oNeg_int, oI_int, blP_bl, SQ_ret, SQ_skip, outP_nil, oAbs, mod300, oAdd_int]
    generalize (10 : Int) ^ 300 = L
    generalize (10 : Int) ^ 18 = M
    simp
  have h := this.run
  cases q : m__law_down [.fz (.int i)] with
  | rt r o =>
    rw [q] at h
    obtain ⟨rfl, k, rfl⟩ := h
    exact ⟨k, rfl⟩
  | exn x o => rw [q] at h; exact h.elim
  | stuck => rw [q] at h; exact h.elim
theorem store_q {ns : List Int} {R : Ret → List FL.Slot → Prop} {X : Exn → List FL.Slot → Prop} (h : ∀ l, Sto l → R (.ow l) []) : FQ (m__law_store [.fz (.scr (ns.map .int))]) R X := by
  unfold m__law_store
  rw [FQ_run]
  unfold b__law_store
  simp [List.replicate_succ]
  have hc : FL.cutD (ns.map D.int) none (some (63 : Int)) = (ns.take 63).map D.int := by
    unfold FL.cutD
    rw [show ((63 : Int)) = ((63 : Nat) : Int) from rfl, HT.sIx_nat, HT.sIx_none]
    simp
  rw [hc]
  refine CQ_inv (I := fun n a t => t = [some (.fz (.scr (ns.map .int))), none, none, none] ∧ ∃ ks : List Int, a = ks.map D.int ∧ ks.length = n) 0 ⟨rfl, [], rfl, rfl⟩ (by simp; omega) (fun n d a t e hl2 ⟨h1, ks, h2, h3⟩ => ?_) fun a t ⟨h1, ks, h2, h3⟩ => ?_
  · subst h1; subst h2
    have hm := List.mem_of_getElem? e
    obtain ⟨i, _, rfl⟩ := List.mem_map.mp hm
    obtain ⟨k, hk⟩ := down_ok i
    simp [hk]
    exact ⟨ks ++ [k], by simp, by simp; omega⟩
  · subst h1; subst h2
    simp
    refine LQ_inv (fun n t => ∃ (i : Int) (o3 : Option FL.Slot), t = [some (.fz (.scr (ns.map .int))), some (.fz (.lst (ks.map .int))), some (.fz (.int i)), o3]) ⟨2000000011, none, rfl⟩ ?_ ?_
    · rintro n d t hn ⟨i, o3, rfl⟩
      obtain ⟨j, _, rfl⟩ := List.mem_map.mp (List.mem_of_getElem? hn)
      have om : oMul (.int i) (.int 31) = some (.int (i * 31)) := by simp [oMul, mulOk]
      simp [om, oMod]
    · rintro t ⟨i, o3, rfl⟩
      simp
      exact h _ ⟨ks, 0, 0, 0, 0, i, rfl, by omega, by omega, by omega⟩
end K31

set_option maxHeartbeats 2000000
namespace K31
open PySem PySem.Spec PyProof.Rows L2 FL
def lnF : D → Str
  | .tup (.str kd :: ds) => Txt.join ⟨#[32]⟩ (kd :: (ds.map toldD).flatten)
  | _ => ⟨#[]⟩
theorem goodO_lnF {o : D} {z : Str} (h : GoodO o z) : z = lnF o := by
  obtain ⟨kd, ss, ds, ts, ws, rfl, hf, ha, rfl⟩ := h
  simp only [lnF]
  rw [(args_parts ha).1]
theorem goodO_tup {o : D} {z : Str} (h : GoodO o z) : oIsN o = false := by
  obtain ⟨es, rfl, _⟩ := goodO_ent h
  rfl
/-- the lines of a script: some spoilt, the others those of the orders -/
structure Lns (ds : List D) (ys : List Str) (sp : List Nat) : Prop where
  len : ys.length = ds.length
  l1 : 1 ≤ ys.length
  l62 : ys.length ≤ 62
  lt : ∀ s ∈ sp, s < ys.length
  bad : ∀ j y, ys[j]? = some y → j ∈ sp → Spoilt y
  good : ∀ j y, ys[j]? = some y → j ∉ sp → ∃ d, ds[j]? = some d ∧ GoodO d y
section
variable {ds : List D} {ys : List Str} {sp : List Nat}
theorem Lns.line (L : Lns ds ys sp) : ∀ y ∈ ys, Asc y ∧ 10 ∉ y.cps.toList ∧ y.length ≤ 100000 := fun y hy => by
  obtain ⟨j, hj, rfl⟩ := List.getElem_of_mem hy
  have e := List.getElem?_eq_getElem hj
  by_cases hs : j ∈ sp
  · obtain ⟨h1, h2, h3, _⟩ := L.bad j _ e hs
    exact ⟨h1, h2, h3⟩
  · obtain ⟨d, _, g⟩ := L.good j _ e hs
    obtain ⟨h1, h2⟩ := goodO_line g
    exact ⟨plain_asc h1, fun hm => by have := h1 10 hm; omega, by omega⟩
theorem Lns.isbad (L : Lns ds ys sp) {j : Nat} {y : Str} (e : ys[j]? = some y) : oIsN (parse y) = true ↔ j ∈ sp ∨ 200 < y.length := by
  by_cases hs : j ∈ sp
  · simp only [hs, true_or, iff_true]
    exact (L.bad j y e hs).2.2.2
  · obtain ⟨d, _, g⟩ := L.good j y e hs
    simp only [hs, false_or, goodO_parse g]
    by_cases h : 200 < y.length
    · simp [h]
    · simp [h, goodO_tup g]
theorem join10_app (ys : List Str) (h : ys ≠ []) : Txt.join ⟨#[10]⟩ ys ++ ⟨#[10]⟩ = Txt.join ⟨#[10]⟩ (ys ++ [⟨#[]⟩]) := by
  apply str_ext
  rw [tjoin, tjoin, tlA, sjoin_cps, sjoin_cps]
  have hj : ∀ (xs : List (List Nat)), xs ≠ [] → jn 10 (xs ++ [[]]) = jn 10 xs ++ [10] := by
    intro xs
    induction xs with
    | nil => intro h; exact absurd rfl h
    | cons x r ih =>
      intro _
      by_cases hr : r = []
      · subst hr
        rw [List.cons_append, List.nil_append, jn_cons _ _ (by simp)]
        simp [jn]
      · rw [List.cons_append, jn_cons _ _ (by simp [hr]), ih hr, jn_cons _ _ hr]
        simp
  rw [List.map_append]
  exact (hj _ (by simpa using h)).symm
theorem Lns.lines (L : Lns ds ys sp) : linesOf (Txt.join ⟨#[10]⟩ ys) = ys := split_join (fun e => by have := L.l1; simp [e] at this) fun y hy => (L.line y hy).2.1
theorem Lns.lines2 (L : Lns ds ys sp) : linesOf (Txt.join ⟨#[10]⟩ ys ++ ⟨#[10]⟩) = ys ++ [⟨#[]⟩] := by
  rw [join10_app ys fun e => by have := L.l1; simp [e] at this]
  refine split_join (by simp) fun y hy => ?_
  rcases List.mem_append.mp hy with hy | hy
  · exact (L.line y hy).2.1
  · simp at hy; subst hy; simp
theorem join_len10 {ys : List Str} {k : Nat} (h : ∀ y ∈ ys, y.length ≤ k) : (Txt.join ⟨#[10]⟩ ys).length ≤ ys.length * (k + 1) := by
  have := join_len ys 10
  have := sumL_le h
  unfold sumL at this
  omega
theorem Lns.textlen (L : Lns ds ys sp) : (Txt.join ⟨#[10]⟩ ys).length ≤ 7000000 := by
  have := join_len10 (k := 100000) fun y hy => (L.line y hy).2.2
  have := L.l62
  have : ys.length * (100000 + 1) ≤ 62 * (100000 + 1) := Nat.mul_le_mul_right _ L.l62
  omega
theorem asc_join10 {ys : List Str} (h : ∀ y ∈ ys, Asc y) : Asc (Txt.join ⟨#[10]⟩ ys) := fun c hc => by
  rw [tjoin, sjoin_cps] at hc
  by_cases h10 : c = 10
  · omega
  · obtain ⟨p, hp, hm⟩ := jn_inv hc h10
    obtain ⟨w, hw, rfl⟩ := List.mem_map.mp hp
    exact h w hw c hm
theorem Lns.textasc (L : Lns ds ys sp) : Asc (Txt.join ⟨#[10]⟩ ys) := asc_join10 fun y hy => (L.line y hy).1
theorem Lns.empty (L : Lns ds ys sp) : Txt.join ⟨#[10]⟩ ys = ⟨#[]⟩ ↔ ys = [⟨#[]⟩] := by
  constructor
  · intro e
    have := L.lines
    rw [e] at this
    rw [← this]
    decide +kernel
  · intro e
    rw [e]
    rfl
theorem readL_cases : ∀ (ls : List Str) (n : Nat), (∃ m y, ls[m]? = some y ∧ readL ls n = .inl (n + m + 1) ∧ (60 < n + m + 1 ∨ oIsN (parse y) = true) ∧ ∀ j x, j < m → ls[j]? = some x → ¬ 60 < n + j + 1 ∧ oIsN (parse x) = false) ∨
    (readL ls n = .inr (ls.map parse) ∧ ∀ j x, ls[j]? = some x → ¬ 60 < n + j + 1 ∧ oIsN (parse x) = false)
  | [], n => .inr ⟨rfl, by simp⟩
  | l :: ls, n => by
    by_cases h1 : 60 < n + 1
    · exact .inl ⟨0, l, rfl, by simp [readL, h1], .inl (by omega), fun j x h => absurd h (by omega)⟩
    · by_cases h2 : oIsN (parse l) = true
      · exact .inl ⟨0, l, rfl, by simp [readL, h1, h2], .inr h2, fun j x h => absurd h (by omega)⟩
      · have h2' : oIsN (parse l) = false := by simpa using h2
        rcases readL_cases ls (n + 1) with ⟨m, y, e, r, hb, ha⟩ | ⟨r, ha⟩
        · refine .inl ⟨m + 1, y, by simpa using e, ?_, hb.imp (fun h => by omega) id, fun j x hj ex => ?_⟩
          · simp only [readL, if_neg h1, if_neg h2, r]
            congr 1
            omega
          · cases j with
            | zero => simp at ex; subst ex; exact ⟨by omega, h2'⟩
            | succ j =>
              have := ha j x (by omega) (by simpa using ex)
              exact ⟨by omega, this.2⟩
        · refine .inr ⟨by simp only [readL, if_neg h1, if_neg h2, r, List.map_cons], fun j x ex => ?_⟩
          cases j with
          | zero => simp at ex; subst ex; exact ⟨by omega, h2'⟩
          | succ j =>
            have := ha j x (by simpa using ex)
            exact ⟨by omega, this.2⟩
theorem mem_longs {n : Nat} {y : Int} : y ∈ longs ys n ↔ ∃ j : Nat, j < n ∧ 200 < (ys.getD j ⟨#[]⟩).length ∧ y = (j : Int) + 1 := by
  unfold longs
  simp only [List.mem_map, List.mem_filter, List.mem_range, decide_eq_true_eq]
  exact ⟨fun ⟨j, ⟨h1, h2⟩, e⟩ => ⟨j, h1, h2, e.symm⟩, fun ⟨j, h1, h2, e⟩ => ⟨j, ⟨h1, h2⟩, e.symm⟩⟩
theorem Lns.mem_bad (L : Lns ds ys sp) {y : Int} : y ∈ badL ys (sp.map fun n : Nat => (n : Int)) ↔ (∃ j x, ys[j]? = some x ∧ oIsN (parse x) = true ∧ y = ((j : Nat) : Int) + 1) ∨ (60 < ys.length ∧ y = 61) := by
  unfold badL
  simp only [List.mem_append, List.map_map, List.mem_map, Function.comp, mem_longs]
  constructor
  · rintro ((⟨s, hs, rfl⟩ | h) | ⟨j, hj, hl, rfl⟩)
    · have := L.lt s hs
      have e := List.getElem?_eq_getElem this
      exact .inl ⟨s, _, e, (L.isbad e).mpr (.inl hs), rfl⟩
    · split at h
      · simp at h; exact .inr ⟨by assumption, h⟩
      · simp at h
    · have e := List.getElem?_eq_getElem hj
      have hd : ys.getD j ⟨#[]⟩ = ys[j] := by simp [List.getD, hj]
      rw [hd] at hl
      exact .inl ⟨j, _, e, (L.isbad e).mpr (.inr hl), rfl⟩
  · rintro (⟨j, x, e, hb, rfl⟩ | ⟨h, rfl⟩)
    · have hj : j < ys.length := (List.getElem?_eq_some_iff.mp e).1
      rcases (L.isbad e).mp hb with hs | hl
      · exact .inl (.inl ⟨j, hs, rfl⟩)
      · refine .inr ⟨j, hj, ?_, rfl⟩
        have hd : ys.getD j ⟨#[]⟩ = x := by simp [List.getD, e]
        rw [hd]
        exact hl
    · exact .inl (.inr (by rw [if_pos h]; simp))
/-- what the law expects, and what reading says -/
theorem Lns.due (L : Lns ds ys sp) (hne : ys ≠ [⟨#[]⟩]) : match readL ys 0 with
    | .inl k => due ys (sp.map fun n : Nat => (n : Int)) = k ∧ 1 ≤ k ∧ k ≤ 62
    | .inr rs => due ys (sp.map fun n : Nat => (n : Int)) = 0 ∧ rs = ds ∧ ys.length ≤ 60 ∧ ∀ y ∈ ys, y.length ≤ 200 := by
  rcases readL_cases ys 0 with ⟨m, y, e, r, hb, ha⟩ | ⟨r, ha⟩
  · rw [r]
    have hm : m < ys.length := (List.getElem?_eq_some_iff.mp e).1
    have l62 := L.l62
    refine ⟨?_, by omega, by omega⟩
    have hm1 : ((m : Int) + 1) ∈ badL ys (sp.map fun n : Nat => (n : Int)) := by
      rw [L.mem_bad]
      by_cases h60 : 60 < m + 1
      · have : m = 60 := by
          refine Nat.le_antisymm (Nat.le_of_not_lt fun h => ?_) (by omega)
          have := (ha 60 _ h (List.getElem?_eq_getElem (by omega))).1
          omega
        exact .inr ⟨by omega, by omega⟩
      · exact .inl ⟨m, y, e, hb.resolve_left (by omega), rfl⟩
    have hle : ∀ x ∈ badL ys (sp.map fun n : Nat => (n : Int)), (m : Int) + 1 ≤ x := fun x hx => by
      rw [L.mem_bad] at hx
      rcases hx with ⟨j, x, ex, hbx, rfl⟩ | ⟨h, rfl⟩
      · have : ¬ j < m := fun h => by
          have := (ha j x h ex).2
          rw [hbx] at this
          cases this
        omega
      · have : ¬ 60 < m := fun h => by
          have := (ha 60 _ h (List.getElem?_eq_getElem (by omega))).1
          omega
        omega
    have nn := List.ne_nil_of_mem hm1
    have mn := minL_mem nn
    unfold K31.due
    rw [if_neg (by simpa using ⟨nn, hne⟩)]
    have h1 := mn.2 _ hm1
    have h2 := hle _ mn.1
    omega
  · rw [r]
    have nosp : ∀ j x, ys[j]? = some x → j ∉ sp ∧ ¬ 200 < x.length := fun j x ex => by
      have := (ha j x ex).2
      have := mt (L.isbad ex).mpr (by rw [this]; simp)
      exact ⟨fun h => this (.inl h), fun h => this (.inr h)⟩
    have l60 : ys.length ≤ 60 := Nat.le_of_not_lt fun h => by
      have := (ha 60 _ (List.getElem?_eq_getElem h)).1
      omega
    refine ⟨?_, ?_, l60, fun y hy => ?_⟩
    · unfold K31.due
      rw [if_pos]
      refine .inl (List.eq_nil_iff_forall_not_mem.mpr fun x hx => ?_)
      rw [L.mem_bad] at hx
      rcases hx with ⟨j, x, ex, hbx, rfl⟩ | ⟨h, rfl⟩
      · rw [(ha j x ex).2] at hbx
        cases hbx
      · omega
    · apply List.ext_getElem?
      intro j
      rw [List.getElem?_map]
      cases ex : ys[j]? with
      | none =>
        have : ds.length ≤ j := by rw [← L.len]; exact List.getElem?_eq_none_iff.mp ex
        rw [List.getElem?_eq_none this]
        rfl
      | some x =>
        obtain ⟨h1, h2⟩ := nosp j x ex
        obtain ⟨d, ed, g⟩ := L.good j x ex h1
        rw [ed, Option.map_some, goodO_parse g, if_neg h2]
    · obtain ⟨j, hj, rfl⟩ := List.getElem_of_mem hy
      have := (nosp j _ (List.getElem?_eq_getElem hj)).2
      omega
theorem parse_empty : oIsN (parse ⟨#[]⟩) = true := by decide +kernel
theorem readL_app : ∀ (ls : List Str) (n : Nat), readL (ls ++ [⟨#[]⟩]) n = match readL ls n with
    | .inl k => .inl k
    | .inr _ => .inl (n + ls.length + 1)
  | [], n => by
    simp [readL, parse_empty]
  | l :: ls, n => by
    have ih := readL_app ls (n + 1)
    simp only [List.cons_append, readL]
    split
    · rfl
    · split
      · rfl
      · rw [ih]
        cases readL ls (n + 1) with
        | inl k => rfl
        | inr rs =>
          simp
          omega
end
end K31

set_option maxHeartbeats 2000000
namespace K31
open PySem PySem.Spec PyProof.Rows L2 FL
theorem oInL_ints {g : Bool → Bool} {z : Int} {zs : List Int} : oInL g (.int z) (.lst (zs.map D.int)) = some (.bl (g (decide (z ∈ zs)))) := by
  have tp : ∀ zs : List Int, toPys (zs.map D.int) = some (zs.map PyData.int) := fun zs => by
    induction zs with
    | nil => rfl
    | cons z zs ih => simp [toPys, toPy, ih]
  have dp : ∀ zs : List Int, PyData.depthAll (zs.map PyData.int) = 0 := fun zs => by
    induction zs with
    | nil => rfl
    | cons z zs ih => simp [PyData.depthAll, PyData.depth, ih]
  simp only [oInL, toPy, tp, PyData.depth, dp]
  rw [if_pos (by decide), List.any_map]
  have : ((fun y => PyData.eqv y (PyData.int z)) ∘ PyData.int) = fun y => decide (y = z) := by
    funext y
    simp [PyData.eqv]
    by_cases h : y = z <;> simp [h]
  rw [this, List.any_eq]
  simp
theorem cutD_to' {α : Type} (xs : List α) (n : Nat) : FL.cutD xs none (some (n : Int)) = xs.take n := by
  unfold FL.cutD
  rw [HT.sIx_nat, HT.sIx_none]
  simp
theorem cutD_from' {α : Type} (xs : List α) (n : Nat) : FL.cutD xs (some (n : Int)) none = xs.drop n := by
  unfold FL.cutD
  rw [HT.sIx_nat, HT.sIx_none]
  by_cases h : n ≤ xs.length
  · rw [Nat.min_eq_left h, ← List.length_drop, List.take_length]
  · rw [Nat.min_eq_right (by omega), List.drop_eq_nil_of_le (Nat.le_refl _), List.drop_eq_nil_of_le (by omega)]
    simp
def lnO (d : D) : Option Str := if (lnF d).length ≤ 200 then some (lnF d) else none
theorem lnO_ok {d : D} (h : ∃ z, GoodO d z) : LnR d (lnO d) := by
  obtain ⟨z, g⟩ := h
  have e := goodO_lnF g
  refine ⟨?_, fun y hy => ?_⟩
  · rw [line_of_ok g, e]
    unfold lnO
    split <;> rfl
  · unfold lnO at hy
    split at hy
    · cases hy; omega
    · cases hy
theorem lns_ok : ∀ {ds : List D}, (∀ d ∈ ds, ∃ z, GoodO d z) → LnsR ds (ds.map lnO)
  | [], _ => .nil
  | d :: ds, h => .cons (lnO_ok (h d (by simp))) (lns_ok fun x m => h x (by simp [m]))
theorem somes_none : ∀ (os ps : List (Option Str)), somes (os ++ none :: ps) = none
  | [], _ => rfl
  | none :: os, ps => rfl
  | some z :: os, ps => by simp [somes, somes_none os ps]
theorem somes_all : ∀ (zs : List Str), somes (zs.map some) = some zs
  | [] => rfl
  | z :: zs => by simp [somes, somes_all zs]
theorem refused_mix {ds : List D} {b : D} (h : ∀ d ∈ ds, ∃ z, GoodO d z) (hb : b ∈ bads) (n : Nat) (hl : ds.length ≤ 50) : m__law_refused [.fz (.lst (ds.take n ++ [b] ++ ds.drop n))] = .rt (.fz (.bl true)) [] := by
  refine refused_ok ?_
  have l1 := lns_ok (ds := ds.take n) fun d m => h d (List.mem_of_mem_take m)
  have l2 := lns_ok (ds := ds.drop n) fun d m => h d (List.mem_of_mem_drop m)
  have := (l1.app (.cons (bads_ok b hb) .nil)).app l2
  rw [tell_script_eq this (by simp; omega)]
  simp only [List.append_assoc, List.cons_append, List.nil_append, somes_none]
theorem lns_of {ds : List D} {ys : List Str} {sp : List Nat} (L : Lns ds ys sp) (h : readL ys 0 = .inr ds) (hne : ys ≠ [⟨#[]⟩]) : LnsR ds (ys.map some) := by
  have hd := L.due hne
  rw [h] at hd
  obtain ⟨q1, q2, q3, hl⟩ := hd
  have nosp : ∀ j y, ys[j]? = some y → ∃ d, ds[j]? = some d ∧ GoodO d y := fun j y e => by
    rcases readL_cases ys 0 with ⟨m, y', _, r, _, _⟩ | ⟨r, ha⟩
    · rw [r] at h; cases h
    · have := (ha j y e).2
      have := mt (L.isbad e).mpr (by rw [this]; simp)
      exact L.good j y e fun hs => this (.inl hs)
  have hlen := L.len
  clear L h hne q1 q2 q3
  induction ys generalizing ds with
  | nil =>
    have : ds = [] := List.length_eq_zero_iff.mp (by simpa using hlen.symm)
    subst this
    exact .nil
  | cons y ys ih =>
    obtain ⟨d, ed, g⟩ := nosp 0 y (by simp)
    match ds, hlen, ed with
    | d' :: ds, hlen, ed =>
      simp at ed
      subst ed
      refine .cons ⟨?_, fun z hz => ?_⟩ (ih (fun x m => hl x (by simp [m])) (fun j x e => by simpa using nosp (j + 1) x (by simpa using e)) (by simpa using hlen))
      · rw [line_of_ok g, if_pos (hl y (by simp))]
        rfl
      · cases hz
        have := hl y (by simp)
        omega
section
variable {ds : List D} {ys : List Str} {sp : List Nat}
theorem Lns.read (L : Lns ds ys sp) : ∃ w, m__law_read [.fz (.str (Txt.join ⟨#[10]⟩ ys))] = .rt (.ow [.int (K31.due ys (sp.map fun n : Nat => (n : Int))), w]) [] := by
  have rs := read_script_eq (z := Txt.join ⟨#[10]⟩ ys) (by have := L.textlen; omega) L.textasc
  by_cases he : ys = [⟨#[]⟩]
  · have ht := L.empty.mpr he
    simp only [readT, ht, if_true] at rs
    refine ⟨.lst [], ?_⟩
    have d0 : K31.due ys (sp.map fun n : Nat => (n : Int)) = 0 := by
      unfold K31.due
      rw [if_pos (.inr he)]
    rw [ht, law_read_good rs, d0]
  · have ht := mt L.empty.mp he
    have hd := L.due he
    simp only [readT, if_neg ht, L.lines] at rs
    cases h : readL ys 0 with
    | inl k =>
      rw [h] at rs hd
      exact ⟨_, by rw [law_read_bad rs, hd.1]⟩
    | inr rr =>
      rw [h] at rs hd
      exact ⟨_, by rw [law_read_good rs, hd.1]⟩
theorem Lns.good0 (L : Lns ds ys sp) (hg : ∀ d ∈ ds, ∃ z, GoodO d z) (h0 : K31.due ys (sp.map fun n : Nat => (n : Int)) = 0) (hne : Txt.join ⟨#[10]⟩ ys ≠ ⟨#[]⟩) : m__law_good_script [.fz (.lst ds), .fz (.str (Txt.join ⟨#[10]⟩ ys))] = .rt (.fz (.bl true)) [] := by
  have he : ys ≠ [⟨#[]⟩] := mt L.empty.mpr hne
  have hd := L.due he
  cases h : readL ys 0 with
  | inl k => rw [h] at hd; omega
  | inr rr =>
    rw [h] at hd
    obtain ⟨_, e, hl, h200⟩ := hd
    subst e
    have lr := lns_of L h he
    have len := L.len
    refine good_script_ok (zs := ys) hg (by omega) (by have := join_len10 h200; omega) L.textasc ?_ ?_
    · simp only [readT, if_neg hne, L.lines, h]
    · rw [tell_script_eq lr (by omega), somes_all]
theorem Lns.behind (L : Lns ds ys sp) : ∃ w, m__law_read [.fz (.str (Txt.join ⟨#[10]⟩ ys ++ ⟨#[10]⟩))] = .rt (.ow [.int (if Txt.join ⟨#[10]⟩ ys = ⟨#[]⟩ then 1 else if 0 < K31.due ys (sp.map fun n : Nat => (n : Int)) then K31.due ys (sp.map fun n : Nat => (n : Int)) else (ys.length : Int) + 1), w]) [] := by
  have asc : Asc (Txt.join ⟨#[10]⟩ ys ++ ⟨#[10]⟩) := fun c hc => by
    rw [tlA] at hc
    rcases List.mem_append.mp hc with hc | hc
    · exact L.textasc c hc
    · simp at hc; omega
  have rs := read_script_eq (z := Txt.join ⟨#[10]⟩ ys ++ ⟨#[10]⟩) (by have := L.textlen; rw [len_app]; have : (⟨#[10]⟩ : Str).length = 1 := rfl; omega) asc
  have ne : Txt.join ⟨#[10]⟩ ys ++ ⟨#[10]⟩ ≠ ⟨#[]⟩ := fun e => by
    have := congrArg (fun z : Str => z.cps.toList) e
    simp only [tlA] at this
    simp at this
  simp only [readT, if_neg ne, L.lines2, readL_app] at rs
  by_cases he : ys = [⟨#[]⟩]
  · have ht := L.empty.mpr he
    have r1 : readL ys 0 = .inl 1 := by
      rw [he]
      simp [readL, parse_empty]
    rw [r1] at rs
    rw [if_pos ht]
    exact ⟨_, law_read_bad rs⟩
  · have ht := mt L.empty.mp he
    have hd := L.due he
    rw [if_neg ht]
    cases h : readL ys 0 with
    | inl k =>
      rw [h] at rs hd
      rw [hd.1, if_pos (by omega)]
      exact ⟨_, law_read_bad rs⟩
    | inr rr =>
      rw [h] at rs hd
      rw [hd.1, if_neg (by omega)]
      refine ⟨.non, ?_⟩
      simp only [Nat.zero_add] at rs
      rw [law_read_bad rs]
      rfl
end
end K31

set_option maxHeartbeats 4000000
namespace K31
open PySem PySem.Spec PyProof.Rows L2 FL
def Dn (sp : List Nat) (k j : Nat) : Prop := j < k ∧ j ∈ sp
theorem back_dir {b : Bool} {o : FOut} (h : FQ o (fun r s => FOut.rt (.fz (.bl true)) [] = .rt r s) (fun _ _ => False)) : o = .rt (.fz (.bl true)) [] := by
  have := h.run
  cases o with
  | rt r s => exact Eq.symm this
  | exn => exact this.elim
  | stuck => exact this.elim
theorem law_true (ns : List Int) (hn : ns.length ≤ 63) : m_law [.fz (.scr (ns.map .int))] = .rt (.fz (.bl true)) [] := by
  refine FQ_is ?_
  unfold m_law
  rw [FQ_run]
  unfold b_law
  simp [List.replicate_succ]
  refine store_q fun l S => ?_
  simp
  refine orders_drawn_q S fun r ds l1 S1 er good h1 h62 => ?_
  simp [er]
  refine CQ_map (fun d => .str (lnF d)) (by simp; omega) (fun d hd => ?_) ?_
  · obtain ⟨z, g⟩ := good d hd
    have e := goodO_lnF g
    have := goodO_line_eq g
    rw [e] at this
    simp [this]
  simp
  refine pick_q S1 (by simp) (by simp) fun x hx l2 S2 => ?_
  have hx : ∃ n : Nat, x = .int n ∧ n ≤ 2 := by
    simp at hx
    rcases hx with rfl | rfl | rfl | rfl | rfl
    · exact ⟨0, rfl, by omega⟩
    · exact ⟨1, rfl, by omega⟩
    · exact ⟨2, rfl, by omega⟩
    · exact ⟨0, rfl, by omega⟩
    · exact ⟨1, rfl, by omega⟩
  obtain ⟨n, rfl, hn2⟩ := hx
  simp
  refine And.intro (by omega) ?_
  have emap : ds.map (fun d => D.str (lnF d)) = (ds.map lnF).map D.str := by simp
  have hzl : (ds.map lnF).length = ds.length := by simp
  have hzg : ∀ j z, (ds.map lnF)[j]? = some z → ∃ d, ds[j]? = some d ∧ GoodO d z := fun j z e => by
    rw [List.getElem?_map] at e
    obtain ⟨d, ed, rfl⟩ := Option.map_eq_some_iff.mp e
    obtain ⟨z, g⟩ := good d (List.mem_of_getElem? ed)
    rw [goodO_lnF g] at g
    exact ⟨d, ed, g⟩
  rw [emap]
  generalize ds.map lnF = zs at *
  refine CQ_draw (st := fun l => [some (.fz (.scr (ns.map .int))), some (.ow l), some (.fz (.lst ds)), some (.ow (zs.map .str)), none, none, none, none, none, none, none, none, none, none]) (P := fun d => ∃ s : Nat, d = D.int s ∧ s < ds.length) (by rw [rng_len]; omega) S2 (fun d hd l S => ?_) fun acc l3 S3 hacc hP => ?_
  · simp
    refine take_q S (by omega) fun k l' S' hk => ?_
    simp
    exact ⟨S', k, rfl, by omega⟩
  rw [rng_len] at hacc
  have : ∃ sp : List Nat, acc = (sp.map fun n : Nat => (n : Int)).map D.int ∧ ∀ s ∈ sp, s < ds.length := by
    clear hacc
    induction acc with
    | nil => exact ⟨[], rfl, by simp⟩
    | cons d ds ih =>
      obtain ⟨n, e, hn⟩ := hP d (by simp)
      obtain ⟨ns, e2, hns⟩ := ih fun x m => hP x (by simp [m])
      exact ⟨n :: ns, by simp [e, e2], by simpa using ⟨hn, hns⟩⟩
  obtain ⟨sp, rfl, hsp⟩ := this
  have hspl : sp.length = n := by simpa using hacc
  simp only [List.set_cons_succ, List.set_cons_zero, letS_cons, getE_succ, getE_ow]
  refine And.intro (by simp; omega) ?_
  rw [List.length_map, hzl]
  refine LQ_inv (fun k t => ∃ (l : List D) (ys : List Str) (o5 : Option FL.Slot), Sto l ∧ ys.length = ds.length ∧ (∀ j y, ys[j]? = some y → (Dn sp k j → Spoilt y) ∧ (¬ Dn sp k j → zs[j]? = some y)) ∧ t = [some (.fz (.scr (ns.map .int))), some (.ow l), some (.fz (.lst ds)), some (.ow (ys.map .str)), some (.fz (.lst ((sp.map fun n : Nat => (n : Int)).map D.int))), o5, none, none, none, none, none, none, none, none]) ⟨l3, zs, none, S3, hzl, fun j y e => ⟨fun h => absurd h.1 (by omega), fun _ => e⟩, rfl⟩ ?_ ?_
  · rintro k d t hk ⟨l, ys, o5, S, hyl, hy, rfl⟩
    obtain ⟨hk1, rfl⟩ := rng_get hk
    have mem : ((k : Int) ∈ sp.map fun n : Nat => (n : Int)) ↔ k ∈ sp := by
      simp only [List.mem_map]
      exact ⟨fun ⟨a, ha, e⟩ => by rw [← Int.ofNat.inj e]; exact ha, fun h => ⟨k, h, rfl⟩⟩
    simp only [optP_gSlot, List.set_cons_succ, List.set_cons_zero, letS_cons, SQ_if, OQ_iBl, OQ_iBin, OQ_iVar, getF_succ, getF_zero, oInL_ints, optP_some, blP_bl, mem]
    by_cases hs : k ∈ sp
    · have hky : k < ys.length := by omega
      have ek := List.getElem?_eq_getElem hky
      obtain ⟨d, ed, g⟩ := hzg k _ ((hy k _ ek).2 fun h => absurd h.1 (by omega))
      have gl := goodO_line g
      have e1 : oIx (.lst (ys.map D.str)) (.int k) = some (.str ys[k]) := oIx_lst (by simp [ek])
      simp [hs, e1]
      refine spoilt_line_q S gl.1 gl.2 fun y l' S' hsp' => ?_
      have eg : gSetAt (ys.map D.str) [.int k, .str y] = some (.non, (ys.set k y).map D.str) := by
        simp [gSetAt, ixN, hky]
      simp [eg]
      refine ⟨l', S', ys.set k y, by simpa using hyl, fun j x ej => ?_, rfl, by simp⟩
      rw [List.getElem?_set] at ej
      by_cases hjk : k = j
      · subst hjk
        simp [hky] at ej
        subst ej
        exact ⟨fun _ => hsp', fun h => absurd ⟨by omega, hs⟩ h⟩
      · rw [if_neg hjk] at ej
        exact ⟨fun h => (hy j x ej).1 ⟨by have h' : j < k + 1 := h.1; omega, h.2⟩, fun h => (hy j x ej).2 fun q => h ⟨by have h' : j < k := q.1; omega, q.2⟩⟩
    · simp [hs]
      refine ⟨l, S, ys, hyl, fun j x ej => ⟨fun h => ?_, fun h => ?_⟩, rfl, rfl⟩
      · exact (hy j x ej).1 ⟨by
          have : j ≠ k := fun e => hs (e ▸ h.2)
          have h' : j < k + 1 := h.1
          omega, h.2⟩
      · exact (hy j x ej).2 fun q => h ⟨by have h' : j < k := q.1; omega, q.2⟩
  rintro t ⟨l, ys, o5, S4, hyl, hy, rfl⟩
  rw [rng_len] at hy
  have L : Lns ds ys sp := ⟨hyl, by omega, by omega, fun s hs => by have := hsp s hs; omega, fun j y e hs => (hy j y e).1 ⟨by have := (List.getElem?_eq_some_iff.mp e).1; omega, hs⟩, fun j y e hs => hzg j y ((hy j y e).2 fun q => hs q.2)⟩
  have fb := first_bad_eq (lines := ys) (spots := sp.map fun n : Nat => (n : Int)) (by omega) (by simp; omega) fun y hm => by have := L.line y hm; exact ⟨by omega, this.1⟩
  have hj : oJoin (.str ⟨#[10]⟩) [.lst (ys.map D.str)] = some (.str (Txt.join ⟨#[10]⟩ ys)) := join_str (by
    have b := sumL_le (ts := ys) (k := 100000) fun y hm => (L.line y hm).2.2
    have b2 : ys.length * (100000 + 1) ≤ 62 * (100000 + 1) := Nat.mul_le_mul_right _ L.l62
    unfold sumL at b
    have e1 : (⟨#[10]⟩ : Str).length = 1 := rfl
    rw [e1]
    omega)
  obtain ⟨w1, rd1⟩ := L.read
  obtain ⟨w2, rd2⟩ := L.behind
  have g0 := L.good0 good
  have tl := L.textlen
  have ta := L.textasc
  have sm : ∀ i : Int, m__law_same [.fz (.int i), .fz (.int i)] = .rt (.fz (.bl true)) [] := fun i => same_ok rfl (by simp [szD])
  generalize Txt.join ⟨#[10]⟩ ys = text at *
  generalize K31.due ys (sp.map fun n : Nat => (n : Int)) = du at *
  have fin : ∀ (o4 o5 : Option FL.Slot), SQ ((sSeq (sSet 9 (iFz (iSlL (iVar 2) iqNone (iqSome (iCall 2 m__law_take 1 (iCons (iC (.int 4)) iNil))))))
 (sSeq (sSet 10 (iCall 2 m__law_take 1 (iCons (iBin oAdd (iFn oLen (iCons (iVar 9) iNil)) (iC (.int 1))) iNil)))
 (sSeq (sIf (ibOr (ibNot (iBl (iCallA 1 m__law_refused (iCons (iFz (iBinN oCatD (iFz (iBinN oCatD (iFz (iSlL (iVar 9) iqNone (iqSome (iVar 10)))) (iFz (iLs (iCons (iCall 1 m__law_bad_order 1 iNil) iNil))))) (iFz (iSlL (iVar 9) (iqSome (iVar 10)) iqNone)))) iNil)))) (ibNot (iBl (iCallA 1 m__law_refused (iCons (iFn oTuple (iCons (iVar 9) iNil)) iNil)))))
 (sRet (iC (.bl false)))
 sSkip)
 (sSeq (sIf (ibOr (ibNot (iBl (iCallA 1 m__law_refused (iCons (iFz (iLc [5] (iRng1 (iC (.int 61))) (gSlot 5) (fun ŝ => .ok true ŝ)
 (iTupD (iCons (iC (.str "back")) iNil)))) iNil)))) (ibNot (iBl (iCallA 1 m__law_refused (iCons (iC .non) iNil)))))
 (sRet (iC (.bl false)))
 sSkip)
 (sSeq (sSet 11 (iCallA 1 m__law_read (iCons (iCall 2 m__law_pick 1 (iCons (iFz (iLs (iCons (iC .non) (iCons (iC (.bl true)) (iCons (iC (.int 0)) (iCons (iFz (iLs (iCons (iVar 7) iNil))) (iCons (iTupD (iCons (iC (.str "back")) iNil)) (iCons (iFz (iLs iNil)) (iCons (iBin oPow (iC (.int 10)) (iC (.int 40))) iNil))))))))) iNil)) iNil)))
 (sSeq (sSet 12 (iIf (iBl (iBin oGt (iVar 6) (iC (.int 0)))) (iVar 6) (iBin oAdd (iLenE 3) (iC (.int 1)))))
 (sSeq (sIf (iBl (iBin oEq (iVar 7) (iC (.str ""))))
 (sSet 12 (iC (.int 1)))
 sSkip)
 (sRet (iAnd (iCallA 2 m__law_same (iCons (iBin oIx (iVar 11) (iC (.int 0))) (iCons (iC (.int 1)) iNil))) (iCallA 2 m__law_same (iCons (iBin oIx (iCallA 1 m__law_read (iCons (iBin oAdd (iVar 7) (iC (.str "\n"))) iNil)) (iC (.int 0))) (iCons (iVar 12) iNil)))))))))))) [some (.fz (.scr (ns.map .int))), some (.ow l), some (.fz (.lst ds)), some (.fz (.lst (ys.map .str))), o4, o5, some (.fz (.int du)), some (.fz (.str text)), some (.fz (.lst [.int du, w1])), none, none, none, none, none]) (fun s => outP s [] fun o => FOut.rt (.fz (.bl true)) [] = .rt (.fz .non) o) (fun r s => outP s [] fun o => FOut.rt (.fz (.bl true)) [] = .rt r o) (fun x s => outP s [] fun o => FOut.rt (.fz (.bl true)) [] = .exn x o) := by
    intro o4 o5
    simp
    refine take_q S4 (by omega) fun f1 l5 S5 hf1 => ?_
    simp [cutD_to']
    refine take_q S5 (by omega) fun f2 l6 S6 hf2 => ?_
    have hfl : (ds.take f1).length ≤ 50 := by simp; omega
    have fgood : ∀ d ∈ ds.take f1, ∃ z, GoodO d z := fun d m => good d (List.mem_of_mem_take m)
    simp [cutD_to', cutD_from']
    refine bad_order_q S6 fun b hb l7 S7 => ?_
    have rf := refused_mix fgood hb f2 hfl
    have rt := refused_ok (d := .tup (ds.take f1)) (tell_script_no (by simp [subTy]))
    generalize ds.take f1 = few at *
    have hflen : few.length ≤ 50 := hfl
    have c1 : oCatD (.lst (few.take f2)) (.lst [b]) = some (few.take f2 ++ [b]) := by
      simp only [oCatD, oCat]
      rw [if_pos (by simp; omega)]
    have c2 : oCatD (.lst (few.take f2 ++ [b])) (.lst (few.drop f2)) = some (few.take f2 ++ [b] ++ few.drop f2) := by
      simp only [oCatD, oCat]
      rw [if_pos (by simp; omega)]
    simp at rf c2
    simp [c1, c2, rf, rt]
    refine CQ_map (fun _ => .tup [.str "back"]) (by rw [rng_len]; decide) (fun d hd => by simp) ?_
    have r61 := refused_ok (d := .lst ((rng 0 61).map fun _ => D.tup [.str "back"])) (tell_script_long (by rw [List.length_map, rng_len]; decide))
    have rno := refused_ok (d := .non) (tell_script_no (by simp [subTy]))
    have p40 : oPow (.int 10) (.int 40) = some (.int 10000000000000000000000000000000000000000) := by simp [oPow]
    simp [r61, rno, p40]
    refine pick_q S7 (by simp) (by simp) fun x hx l8 S8 => ?_
    have hx : isiB "str" x = some false := by
      simp at hx
      rcases hx with rfl | rfl | rfl | rfl | rfl | rfl | rfl
      all_goals simp [subTy]
    have rdx := law_read_bad (k := 1) (read_script_no hx)
    have sm1 := sm 1
    have e0 : oEq (.str text) (.str ⟨#[]⟩) = some (.bl (decide (text = ⟨#[]⟩))) := oEq_str ta.ok (by decide +kernel)
    have ea : oAdd (.str text) (.str ⟨#[10]⟩) = some (.str (text ++ ⟨#[10]⟩)) := oAdd_str (by have : (⟨#[10]⟩ : Str).length = 1 := rfl; omega)
    have fin2 : ∀ (bh : Int), bh = (if text = ⟨#[]⟩ then 1 else if 0 < du then du else (ys.length : Int) + 1) → FQ (m__law_read [.fz (.str (text ++ ⟨#[10]⟩))]) (fun r _ => optP (oIx (retD r) (.int 0)) fun z => FQ (m__law_same [.fz z, .fz (.int bh)]) (fun r _ => D.bl true = retD r) fun _ _ => False) (fun _ _ => False) := fun bh hbh => by
      rw [rd2, ← hbh]
      simp [ix0, sm]
    simp [rdx, ix0, sm1, e0, emS, nlS, ea]
    by_cases hd : 0 < du
    · simp [hd]
      by_cases he : text = ⟨#[]⟩
      · have := fin2 1 (by rw [if_pos he])
        simp at this
        simp [he] at this ⊢
        exact this
      · have := fin2 du (by rw [if_neg he, if_pos hd])
        simp at this
        simp [he]
        exact this
    · simp [hd]
      by_cases he : text = ⟨#[]⟩
      · have := fin2 1 (by rw [if_pos he])
        simp at this
        simp [he] at this ⊢
        exact this
      · have := fin2 ((ys.length : Int) + 1) (by rw [if_neg he, if_neg hd])
        simp at this
        simp [he]
        exact this
  simp at fin fb
  have e0 : oNe (.str text) (.str ⟨#[]⟩) = some (.bl (!decide (text = ⟨#[]⟩))) := oNe_str ta.ok (by decide +kernel)
  simp [fb, nlS, hj, rd1, ix0, sm, oEq_int, emS, e0]
  by_cases hd : du = 0
  · by_cases he : text = ⟨#[]⟩
    · simp [hd, he] at fin ⊢
      exact fin _ _
    · simp [hd, he, g0 hd he] at fin ⊢
      exact fin _ _
  · simp [hd]
    exact fin _ _
end K31

set_option maxHeartbeats 0
namespace K31
open PySem PySem.Spec PyProof.Rows L2 FL
/-! the head -/
def nm0 : List PySem.Str := ["__name__", "LINES", "FigureError", "BadCount", "BadPaper", "TextBad", "LINE_SIGNS", "NAME_SIGNS", "WORD_SIGNS", "DIGITS", "LETTERS", "KINDS", "TAILS", "FORMS", "is_name", "is_number_word", "is_kind", "is_free_text", "word_value", "tail_value", "order_of", "read_script", "number_told", "word_told", "words_told", "line_of", "tell_script", "_law_down", "_law_store", "_law_mixed"]
def nm1 : List PySem.Str := ["_law_take", "_law_third", "_law_pick", "_law_shuffled", "_law_size", "_law_word", "_law_same_here", "_law_same", "_law_names", "_law_free_text", "_law_order_number", "_law_order", "_law_order_line", "_law_long_order", "_law_orders_drawn", "_law_spoilt_line", "_law_bad_order", "_law_read", "_law_refused", "_law_first_bad", "_law_good_script"]
def nms : List PySem.Str := nm0 ++ nm1
abbrev R : PySem.W.OpenRow := PySem.W.OpenLaw.row PySem.Challenge.rw_figurelinks_k31_script_lines_at_their_bo
abbrev pr : Program := PySem.Challenge.pw_figurelinks_k31_script_lines_at_their_bo
def dd__law_down : He.DefD := ⟨("_law_down", none), "_law_down", "_law_down", defArgs (top 29), defBody (top 29), defScope (top 29), [], []⟩
def dd__law_store : He.DefD := ⟨("_law_store", none), "_law_store", "_law_store", defArgs (top 30), defBody (top 30), defScope (top 30), [], []⟩
def dd__law_mixed : He.DefD := ⟨("_law_mixed", none), "_law_mixed", "_law_mixed", defArgs (top 31), defBody (top 31), defScope (top 31), [], []⟩
def dd__law_take : He.DefD := ⟨("_law_take", none), "_law_take", "_law_take", defArgs (top 32), defBody (top 32), defScope (top 32), [], []⟩
def dd__law_pick : He.DefD := ⟨("_law_pick", none), "_law_pick", "_law_pick", defArgs (top 34), defBody (top 34), defScope (top 34), [], []⟩
def dd__law_shuffled : He.DefD := ⟨("_law_shuffled", none), "_law_shuffled", "_law_shuffled", defArgs (top 35), defBody (top 35), defScope (top 35), [], []⟩
def dd__law_names : He.DefD := ⟨("_law_names", none), "_law_names", "_law_names", defArgs (top 40), defBody (top 40), defScope (top 40), [], []⟩
def dd__law_word : He.DefD := ⟨("_law_word", none), "_law_word", "_law_word", defArgs (top 37), defBody (top 37), defScope (top 37), [], []⟩
def dd__law_order_number : He.DefD := ⟨("_law_order_number", none), "_law_order_number", "_law_order_number", defArgs (top 42), defBody (top 42), defScope (top 42), [], []⟩
def dd__law_free_text : He.DefD := ⟨("_law_free_text", none), "_law_free_text", "_law_free_text", defArgs (top 41), defBody (top 41), defScope (top 41), [], []⟩
def dd__law_third : He.DefD := ⟨("_law_third", none), "_law_third", "_law_third", defArgs (top 33), defBody (top 33), defScope (top 33), [], []⟩
def dd__law_size : He.DefD := ⟨("_law_size", none), "_law_size", "_law_size", defArgs (top 36), defBody (top 36), defScope (top 36), [], []⟩
def dd__law_order : He.DefD := ⟨("_law_order", none), "_law_order", "_law_order", defArgs (top 43), defBody (top 43), defScope (top 43), [], []⟩
def dd__law_order_line : He.DefD := ⟨("_law_order_line", none), "_law_order_line", "_law_order_line", defArgs (top 44), defBody (top 44), defScope (top 44), [], []⟩
def dd__law_long_order : He.DefD := ⟨("_law_long_order", none), "_law_long_order", "_law_long_order", defArgs (top 45), defBody (top 45), defScope (top 45), [], []⟩
def dd__law_orders_drawn : He.DefD := ⟨("_law_orders_drawn", none), "_law_orders_drawn", "_law_orders_drawn", defArgs (top 46), defBody (top 46), defScope (top 46), [], []⟩
def dd__law_first_bad : He.DefD := ⟨("_law_first_bad", none), "_law_first_bad", "_law_first_bad", defArgs (top 51), defBody (top 51), defScope (top 51), [], []⟩
def dd_is_kind : He.DefD := ⟨("is_kind", none), "is_kind", "is_kind", defArgs (top 17), defBody (top 17), defScope (top 17), [], []⟩
def dd_is_number_word : He.DefD := ⟨("is_number_word", none), "is_number_word", "is_number_word", defArgs (top 16), defBody (top 16), defScope (top 16), [], []⟩
def dd_is_name : He.DefD := ⟨("is_name", none), "is_name", "is_name", defArgs (top 15), defBody (top 15), defScope (top 15), [], []⟩
def dd_word_value : He.DefD := ⟨("word_value", none), "word_value", "word_value", defArgs (top 19), defBody (top 19), defScope (top 19), [], []⟩
def dd_is_free_text : He.DefD := ⟨("is_free_text", none), "is_free_text", "is_free_text", defArgs (top 18), defBody (top 18), defScope (top 18), [], []⟩
def dd_tail_value : He.DefD := ⟨("tail_value", none), "tail_value", "tail_value", defArgs (top 20), defBody (top 20), defScope (top 20), [], []⟩
def dd_order_of : He.DefD := ⟨("order_of", none), "order_of", "order_of", defArgs (top 21), defBody (top 21), defScope (top 21), [], []⟩
def dd_read_script : He.DefD := ⟨("read_script", none), "read_script", "read_script", defArgs (top 22), defBody (top 22), defScope (top 22), [], []⟩
def dd__law_read : He.DefD := ⟨("_law_read", none), "_law_read", "_law_read", defArgs (top 49), defBody (top 49), defScope (top 49), [], []⟩
def dd__law_same_here : He.DefD := ⟨("_law_same_here", none), "_law_same_here", "_law_same_here", defArgs (top 38), defBody (top 38), defScope (top 38), [], []⟩
def dd__law_same : He.DefD := ⟨("_law_same", none), "_law_same", "_law_same", defArgs (top 39), defBody (top 39), defScope (top 39), [], []⟩
def dd__law_spoilt_line : He.DefD := ⟨("_law_spoilt_line", none), "_law_spoilt_line", "_law_spoilt_line", defArgs (top 47), defBody (top 47), defScope (top 47), [], []⟩
def dd_number_told : He.DefD := ⟨("number_told", none), "number_told", "number_told", defArgs (top 23), defBody (top 23), defScope (top 23), [], []⟩
def dd_word_told : He.DefD := ⟨("word_told", none), "word_told", "word_told", defArgs (top 24), defBody (top 24), defScope (top 24), [], []⟩
def dd_words_told : He.DefD := ⟨("words_told", none), "words_told", "words_told", defArgs (top 25), defBody (top 25), defScope (top 25), [], []⟩
def dd_line_of : He.DefD := ⟨("line_of", none), "line_of", "line_of", defArgs (top 26), defBody (top 26), defScope (top 26), [], []⟩
def dd_tell_script : He.DefD := ⟨("tell_script", none), "tell_script", "tell_script", defArgs (top 27), defBody (top 27), defScope (top 27), [], []⟩
def dd__law_good_script : He.DefD := ⟨("_law_good_script", none), "_law_good_script", "_law_good_script", defArgs (top 52), defBody (top 52), defScope (top 52), [], []⟩
def dd__law_refused : He.DefD := ⟨("_law_refused", none), "_law_refused", "_law_refused", defArgs (top 50), defBody (top 50), defScope (top 50), [], []⟩
def dd__law_bad_order : He.DefD := ⟨("_law_bad_order", none), "_law_bad_order", "_law_bad_order", defArgs (top 48), defBody (top 48), defScope (top 48), [], []⟩
def dd_law : He.DefD := ⟨("law", none), "law", "law", defArgs (top 53), defBody (top 53), defScope (top 53), [], []⟩
def fn0 : List He.DefD := [dd__law_down, dd__law_store, dd__law_mixed, dd__law_take, dd__law_pick, dd__law_shuffled, dd__law_names, dd__law_word, dd__law_order_number, dd__law_free_text, dd__law_third, dd__law_size, dd__law_order, dd__law_order_line, dd__law_long_order, dd__law_orders_drawn, dd__law_first_bad, dd_is_kind, dd_is_number_word, dd_is_name]
def fn1 : List He.DefD := [dd_word_value, dd_is_free_text, dd_tail_value, dd_order_of, dd_read_script, dd__law_read, dd__law_same_here, dd__law_same, dd__law_spoilt_line, dd_number_told, dd_word_told, dd_words_told, dd_line_of, dd_tell_script, dd__law_good_script, dd__law_refused, dd__law_bad_order, dd_law]
def fa0 : List He.Fa := [.glo "_law_down", .glo "_law_store", .glo "_law_mixed", .glo "_law_take", .glo "_law_pick", .glo "_law_shuffled", .glo "_law_names", .glo "_law_word", .glo "_law_order_number", .glo "_law_free_text", .glo "_law_third", .glo "_law_size", .glo "_law_order", .glo "_law_order_line", .glo "_law_long_order", .glo "_law_orders_drawn", .glo "_law_first_bad", .glo "is_kind", .glo "is_number_word", .glo "is_name", .glo "word_value", .glo "is_free_text", .glo "tail_value", .glo "order_of", .glo "read_script", .glo "_law_read", .glo "_law_same_here", .glo "_law_same", .glo "_law_spoilt_line", .glo "number_told"]
def fa1 : List He.Fa := [.glo "word_told", .glo "words_told", .glo "line_of", .glo "tell_script", .glo "_law_good_script", .glo "_law_refused", .glo "_law_bad_order", .glo "law", .free "abs", .free "all", .free "any", .free "bool", .str "DIGITS" k_DIGITS, .glo "KINDS", .str "LETTERS" k_LETTERS, .int "LINES" 60, .int "LINE_SIGNS" 200, .int "NAME_SIGNS" 8, .glo "TAILS", .int "WORD_SIGNS" 12, .glo "FORMS", .free "int", .free "isinstance", .free "len", .free "list", .free "min", .free "range", .free "str", .free "tuple", .glo "BadPaper"]
def fa2 : List He.Fa := [.glo "TextBad", .free "super", .exm "BadPaper" "BadPaper" true, .exm "TextBad" "BadPaper" false, .exm "BadPaper" "TextBad" false, .exm "TextBad" "TextBad" true, .glo "BadCount", .glo "FigureError"]
def ks_FORMS : List Str := ["table", "figure", "rule", "book", "groups", "tree", "chain", "compare", "least", "price", "steady", "keep", "put", "grow", "drop", "scale", "lay", "back", "sample", "learn", "axioms", "wide"]
def xm_TextBad : Stmt := clsM (top 5)
def xp_TextBad : XPos := xposOf xm_TextBad
def bsK (K : Fr) : List Bool := [tupAt K (He.ga K "KINDS") k_KINDS,
 tupAt K (He.ga K "TAILS") k_TAILS,
 gdicB K "FORMS" k_FORMS,
 xclsB K "BadPaper",
 supB pr K "TextBad" "line" "TextBad.__init__",
 xisB K "BadPaper",
 kitC K "BadPaper" "BadCount" false,
 xisB K "TextBad",
 kitC K "TextBad" "BadCount" false,
 kitC K "BadPaper" "BadPaper" true,
 kitC K "TextBad" "BadPaper" false,
 kitC K "BadPaper" "FigureError" true,
 kitC K "TextBad" "FigureError" true,
 kitC K "BadPaper" "TextBad" false,
 kitC K "TextBad" "TextBad" true,
 xfB K (He.ga K "TextBad"),
 He.eqO (PySem.W.findIn K (.ref (He.ga K "TextBad")) "line") (some none)]
def spec : HSpec := ⟨11, 320, fa0 ++ fa1 ++ fa2, fn0 ++ fn1, bsK, [("FORMS", ks_FORMS)], [("TextBad", "TextBad.__init__", xm_TextBad)]⟩
abbrev hk : PySem.W.Hook := hookO spec 17
theorem facts {w : World} {K : Fr} {h : Heap} {mg : Str → Option Value} (X : K.In h) (G : h.Ns mainGlobals mg) (c : SaysO spec 17 w K) : Facts pr w K mg where
  d__law_down := c.says.def_ 0 (d := dd__law_down) rfl
  g__law_down := He.glo_ok X G (c.says.fact 0 (f := .glo "_law_down") rfl)
  d__law_store := c.says.def_ 1 (d := dd__law_store) rfl
  g__law_store := He.glo_ok X G (c.says.fact 1 (f := .glo "_law_store") rfl)
  d__law_mixed := c.says.def_ 2 (d := dd__law_mixed) rfl
  g__law_mixed := He.glo_ok X G (c.says.fact 2 (f := .glo "_law_mixed") rfl)
  d__law_take := c.says.def_ 3 (d := dd__law_take) rfl
  g__law_take := He.glo_ok X G (c.says.fact 3 (f := .glo "_law_take") rfl)
  d__law_pick := c.says.def_ 4 (d := dd__law_pick) rfl
  g__law_pick := He.glo_ok X G (c.says.fact 4 (f := .glo "_law_pick") rfl)
  d__law_shuffled := c.says.def_ 5 (d := dd__law_shuffled) rfl
  g__law_shuffled := He.glo_ok X G (c.says.fact 5 (f := .glo "_law_shuffled") rfl)
  d__law_names := c.says.def_ 6 (d := dd__law_names) rfl
  g__law_names := He.glo_ok X G (c.says.fact 6 (f := .glo "_law_names") rfl)
  d__law_word := c.says.def_ 7 (d := dd__law_word) rfl
  g__law_word := He.glo_ok X G (c.says.fact 7 (f := .glo "_law_word") rfl)
  d__law_order_number := c.says.def_ 8 (d := dd__law_order_number) rfl
  g__law_order_number := He.glo_ok X G (c.says.fact 8 (f := .glo "_law_order_number") rfl)
  d__law_free_text := c.says.def_ 9 (d := dd__law_free_text) rfl
  g__law_free_text := He.glo_ok X G (c.says.fact 9 (f := .glo "_law_free_text") rfl)
  d__law_third := c.says.def_ 10 (d := dd__law_third) rfl
  g__law_third := He.glo_ok X G (c.says.fact 10 (f := .glo "_law_third") rfl)
  d__law_size := c.says.def_ 11 (d := dd__law_size) rfl
  g__law_size := He.glo_ok X G (c.says.fact 11 (f := .glo "_law_size") rfl)
  d__law_order := c.says.def_ 12 (d := dd__law_order) rfl
  g__law_order := He.glo_ok X G (c.says.fact 12 (f := .glo "_law_order") rfl)
  d__law_order_line := c.says.def_ 13 (d := dd__law_order_line) rfl
  g__law_order_line := He.glo_ok X G (c.says.fact 13 (f := .glo "_law_order_line") rfl)
  d__law_long_order := c.says.def_ 14 (d := dd__law_long_order) rfl
  g__law_long_order := He.glo_ok X G (c.says.fact 14 (f := .glo "_law_long_order") rfl)
  d__law_orders_drawn := c.says.def_ 15 (d := dd__law_orders_drawn) rfl
  g__law_orders_drawn := He.glo_ok X G (c.says.fact 15 (f := .glo "_law_orders_drawn") rfl)
  d__law_first_bad := c.says.def_ 16 (d := dd__law_first_bad) rfl
  g__law_first_bad := He.glo_ok X G (c.says.fact 16 (f := .glo "_law_first_bad") rfl)
  d_is_kind := c.says.def_ 17 (d := dd_is_kind) rfl
  g_is_kind := He.glo_ok X G (c.says.fact 17 (f := .glo "is_kind") rfl)
  d_is_number_word := c.says.def_ 18 (d := dd_is_number_word) rfl
  g_is_number_word := He.glo_ok X G (c.says.fact 18 (f := .glo "is_number_word") rfl)
  d_is_name := c.says.def_ 19 (d := dd_is_name) rfl
  g_is_name := He.glo_ok X G (c.says.fact 19 (f := .glo "is_name") rfl)
  d_word_value := c.says.def_ 20 (d := dd_word_value) rfl
  g_word_value := He.glo_ok X G (c.says.fact 20 (f := .glo "word_value") rfl)
  d_is_free_text := c.says.def_ 21 (d := dd_is_free_text) rfl
  g_is_free_text := He.glo_ok X G (c.says.fact 21 (f := .glo "is_free_text") rfl)
  d_tail_value := c.says.def_ 22 (d := dd_tail_value) rfl
  g_tail_value := He.glo_ok X G (c.says.fact 22 (f := .glo "tail_value") rfl)
  d_order_of := c.says.def_ 23 (d := dd_order_of) rfl
  g_order_of := He.glo_ok X G (c.says.fact 23 (f := .glo "order_of") rfl)
  d_read_script := c.says.def_ 24 (d := dd_read_script) rfl
  g_read_script := He.glo_ok X G (c.says.fact 24 (f := .glo "read_script") rfl)
  d__law_read := c.says.def_ 25 (d := dd__law_read) rfl
  g__law_read := He.glo_ok X G (c.says.fact 25 (f := .glo "_law_read") rfl)
  d__law_same_here := c.says.def_ 26 (d := dd__law_same_here) rfl
  g__law_same_here := He.glo_ok X G (c.says.fact 26 (f := .glo "_law_same_here") rfl)
  d__law_same := c.says.def_ 27 (d := dd__law_same) rfl
  g__law_same := He.glo_ok X G (c.says.fact 27 (f := .glo "_law_same") rfl)
  d__law_spoilt_line := c.says.def_ 28 (d := dd__law_spoilt_line) rfl
  g__law_spoilt_line := He.glo_ok X G (c.says.fact 28 (f := .glo "_law_spoilt_line") rfl)
  d_number_told := c.says.def_ 29 (d := dd_number_told) rfl
  g_number_told := He.glo_ok X G (c.says.fact 29 (f := .glo "number_told") rfl)
  d_word_told := c.says.def_ 30 (d := dd_word_told) rfl
  g_word_told := He.glo_ok X G (c.says.fact 30 (f := .glo "word_told") rfl)
  d_words_told := c.says.def_ 31 (d := dd_words_told) rfl
  g_words_told := He.glo_ok X G (c.says.fact 31 (f := .glo "words_told") rfl)
  d_line_of := c.says.def_ 32 (d := dd_line_of) rfl
  g_line_of := He.glo_ok X G (c.says.fact 32 (f := .glo "line_of") rfl)
  d_tell_script := c.says.def_ 33 (d := dd_tell_script) rfl
  g_tell_script := He.glo_ok X G (c.says.fact 33 (f := .glo "tell_script") rfl)
  d__law_good_script := c.says.def_ 34 (d := dd__law_good_script) rfl
  g__law_good_script := He.glo_ok X G (c.says.fact 34 (f := .glo "_law_good_script") rfl)
  d__law_refused := c.says.def_ 35 (d := dd__law_refused) rfl
  g__law_refused := He.glo_ok X G (c.says.fact 35 (f := .glo "_law_refused") rfl)
  d__law_bad_order := c.says.def_ 36 (d := dd__law_bad_order) rfl
  g__law_bad_order := He.glo_ok X G (c.says.fact 36 (f := .glo "_law_bad_order") rfl)
  d_law := c.says.def_ 37 (d := dd_law) rfl
  g_law := He.glo_ok X G (c.says.fact 37 (f := .glo "law") rfl)
  b_abs := He.free_ok X G (c.says.fact 38 (f := .free "abs") rfl)
  b_all := He.free_ok X G (c.says.fact 39 (f := .free "all") rfl)
  b_any := He.free_ok X G (c.says.fact 40 (f := .free "any") rfl)
  b_bool := He.free_ok X G (c.says.fact 41 (f := .free "bool") rfl)
  k_DIGITS := He.str_ok X G (c.says.fact 42 (f := .str "DIGITS" k_DIGITS) rfl)
  g_KINDS := He.glo_ok X G (c.says.fact 43 (f := .glo "KINDS") rfl)
  k_KINDS := tupG_ok (b := tupAt K (He.ga K "KINDS") k_KINDS) rfl (c.b 0 rfl)
  k_LETTERS := He.str_ok X G (c.says.fact 44 (f := .str "LETTERS" k_LETTERS) rfl)
  k_LINES := He.int_ok X G (c.says.fact 45 (f := .int "LINES" 60) rfl)
  k_LINE_SIGNS := He.int_ok X G (c.says.fact 46 (f := .int "LINE_SIGNS" 200) rfl)
  k_NAME_SIGNS := He.int_ok X G (c.says.fact 47 (f := .int "NAME_SIGNS" 8) rfl)
  g_TAILS := He.glo_ok X G (c.says.fact 48 (f := .glo "TAILS") rfl)
  k_TAILS := tupG_ok (b := tupAt K (He.ga K "TAILS") k_TAILS) rfl (c.b 1 rfl)
  k_WORD_SIGNS := He.int_ok X G (c.says.fact 49 (f := .int "WORD_SIGNS" 12) rfl)
  g_FORMS := He.glo_ok X G (c.says.fact 50 (f := .glo "FORMS") rfl)
  k_FORMS := gdic_ok (ks := ks_FORMS) (c.b 2 rfl) (c.dk ("FORMS", ks_FORMS) (by simp [spec]))
  b_int := He.free_ok X G (c.says.fact 51 (f := .free "int") rfl)
  b_isinstance := He.free_ok X G (c.says.fact 52 (f := .free "isinstance") rfl)
  b_len := He.free_ok X G (c.says.fact 53 (f := .free "len") rfl)
  b_list := He.free_ok X G (c.says.fact 54 (f := .free "list") rfl)
  b_min := He.free_ok X G (c.says.fact 55 (f := .free "min") rfl)
  b_range := He.free_ok X G (c.says.fact 56 (f := .free "range") rfl)
  b_str := He.free_ok X G (c.says.fact 57 (f := .free "str") rfl)
  b_tuple := He.free_ok X G (c.says.fact 58 (f := .free "tuple") rfl)
  x_BadPaper := xcls_ok (c.b 3 rfl) (He.glo_ok X G (c.says.fact 59 (f := .glo "BadPaper") rfl))
  xs_TextBad := ⟨_, _, "TextBad.__init__", xp_TextBad, _, sup_ok (c.b 4 rfl) (c.su ("TextBad", "TextBad.__init__", xm_TextBad) (by simp [spec])) (He.glo_ok X G (c.says.fact 60 (f := .glo "TextBad") rfl)) (He.free_ok X G (c.says.fact 61 (f := .free "super") rfl)) (by kernel_rfl) rfl rfl rfl, ⟨rfl, rfl, rfl, rfl, by decide, by decide⟩, by decide, fun _ _ _ _ => ⟨_, rfl⟩, fun {_ _ _ _ _ _ _ _ _ _ _} => .of_eq (by with_unfolding_all rfl)⟩
  gc_BadPaper := He.glo_ok X G (c.says.fact 59 (f := .glo "BadPaper") rfl)
  exm_BadPaper := fun cl z h => by
    unfold exm_BadPaper at h
    split at h
    · rename_i e; subst e; cases h; exact He.exm_ok (c.says.fact 62 (f := .exm "BadPaper" "BadPaper" true) rfl)
    split at h
    · rename_i e; subst e; cases h; exact He.exm_ok (c.says.fact 63 (f := .exm "TextBad" "BadPaper" false) rfl)
    cases h
  gc_TextBad := He.glo_ok X G (c.says.fact 60 (f := .glo "TextBad") rfl)
  exm_TextBad := fun cl z h => by
    unfold exm_TextBad at h
    split at h
    · rename_i e; subst e; cases h; exact He.exm_ok (c.says.fact 64 (f := .exm "BadPaper" "TextBad" false) rfl)
    split at h
    · rename_i e; subst e; cases h; exact He.exm_ok (c.says.fact 65 (f := .exm "TextBad" "TextBad" true) rfl)
    cases h
  isE_BadCount := fun cl z h => by
    unfold isE_BadCount at h
    split at h
    · rename_i e; subst e; cases h; exact ⟨xis_ok (c.b 5 rfl), kitC_ok (c.b 6 rfl)⟩
    split at h
    · rename_i e; subst e; cases h; exact ⟨xis_ok (c.b 7 rfl), kitC_ok (c.b 8 rfl)⟩
    cases h
  gc_BadCount := He.glo_ok X G (c.says.fact 66 (f := .glo "BadCount") rfl)
  isE_BadPaper := fun cl z h => by
    unfold isE_BadPaper at h
    split at h
    · rename_i e; subst e; cases h; exact ⟨xis_ok (c.b 5 rfl), kitC_ok (c.b 9 rfl)⟩
    split at h
    · rename_i e; subst e; cases h; exact ⟨xis_ok (c.b 7 rfl), kitC_ok (c.b 10 rfl)⟩
    cases h
  isE_FigureError := fun cl z h => by
    unfold isE_FigureError at h
    split at h
    · rename_i e; subst e; cases h; exact ⟨xis_ok (c.b 5 rfl), kitC_ok (c.b 11 rfl)⟩
    split at h
    · rename_i e; subst e; cases h; exact ⟨xis_ok (c.b 7 rfl), kitC_ok (c.b 12 rfl)⟩
    cases h
  gc_FigureError := He.glo_ok X G (c.says.fact 67 (f := .glo "FigureError") rfl)
  isE_TextBad := fun cl z h => by
    unfold isE_TextBad at h
    split at h
    · rename_i e; subst e; cases h; exact ⟨xis_ok (c.b 5 rfl), kitC_ok (c.b 13 rfl)⟩
    split at h
    · rename_i e; subst e; cases h; exact ⟨xis_ok (c.b 7 rfl), kitC_ok (c.b 14 rfl)⟩
    cases h
  xf_TextBad := ⟨xfB_ok (c.b 15 rfl), He.eqO_ok (c.b 16 rfl)⟩
end K31

set_option maxHeartbeats 0
namespace K31
open PySem PySem.Spec PyProof.Rows L2 FL
theorem runF (w : World) : HandSHeadRun.RunEq R (PySem.W.view R.prog [53]) hk (obO spec) 4000 nms (w.withFollow "special-get-raises" false) := by
  intro os
  kernel_rfl
theorem runT (w : World) : HandSHeadRun.RunEq R (PySem.W.view R.prog [53]) hk (obO spec) 4000 nms (w.withFollow "special-get-raises" true) := by
  intro os
  kernel_rfl
theorem run (w : World) : HandSHeadRun.RunEq R (PySem.W.view R.prog [53]) hk (obO spec) 4000 nms w :=
  PySem.W.byRow2 "special-get-raises" (P := fun w => HandSHeadRun.RunEq R (PySem.W.view R.prog [53]) hk (obO spec) 4000 nms w) runF runT w
end K31

set_option maxHeartbeats 0
open PySem PySem.W PySem.Calls PyProof.Rows
namespace FL
open PySem PySem.Spec PyProof.Rows L2
/-- the law's def by what it does, its exceptions by the world's own air -/
theorem walk_plain {l : PySem.W.OpenLaw} {n k : Nat} {q : Program} {loose : List Str} {XP : (Str → Option Value) → Heap → Prop} {YP : World → Heap → Prop} {d : DefRec} {x : Str} {m : FM}
    (hn : l.most = some n) (hz : n ≤ sizeLine) (hdf : d.params.defaults = []) (room : Room k callerA)
    (hm : ∀ ns : List Int, ns.length ≤ n → m [.fz (.scr (ns.map .int))] = .rt (.fz (.bl true)) [])
    (hF : ∀ (w : World) (mg : Str → Option Value) (fa : Addr) (h : Heap), YP w h → h.Ns mainGlobals mg → mg d.name = some (.ref fa) →
      ∃ (K : PySem.W.Frag) (fd : FuncData), K.In h ∧ (∀ (s : Shared) (u : Value), BindsTo s fd ⟨[u], []⟩ [(x, u)]) ∧ ∀ base : Heap, K.In base → base.Ns mainGlobals mg → FnOk l.prog w K mg base (L2.CX l.prog w) k fa fd [x] (spF K 1 [] m)) :
    PySem.W.WalkO q loose XP YP l.row.toRowW d [] (fun f vs => PySem.call f vs) := by
  refine Att.attach_call hn hdf fun w s0 s1 mg mb fa o pm cd doc a vs ns G Y ho hd hcd hmg hobj hints hlen hg => ?_
  obtain ⟨K, fd, inK, bind, ok⟩ := hF w mg fa _ Y G.T.g hmg
  refine law_call inK G.T.g G.T.b G.T.builtins G.T.nolimit hg hobj hints (Nat.le_trans hlen hz) room ok bind (fun H _ hS => ?_) fun H e s' ⟨_, _, _, _, _, _, _, _, _, _, _, _, no⟩ => no.elim
  have r : Reps K H [.scr (ns.map .int)] [.ref a] := Reps.cons (by simp only [Rep]; exact ⟨a, _, rfl, hS, Reps.map D.int V.int (fun i => by simp only [Rep]) ns⟩) Reps.nil
  refine ⟨H, [.fz (.scr (ns.map .int))], [], rfl, rfl, argR_fz (ds := [.scr (ns.map .int)]) (Same.refl H) r, ?_⟩
  rw [hm ns hlen]
  intro v F' H' _ _ hv
  simpa only [RetV, Rep] using hv
end FL
theorem K31.fin (hpl : ∀ ns : List Int, ns.length ≤ 63 → K31.m_law [.fz (.scr (ns.map .int))] = .rt (.fz (.bl true)) []) : PySem.Challenge.rw_figurelinks_k31_script_lines_at_their_bo.Holds := by
  w_on; o_law
  refine HandSHeadRun.head_any (r := OpenLaw.row PySem.Challenge.rw_figurelinks_k31_script_lines_at_their_bo) (q := view (OpenLaw.row PySem.Challenge.rw_figurelinks_k31_script_lines_at_their_bo).prog [53]) (H := K31.hk) (ob := FL.obO K31.spec) (M := 4000) (loose := K31.nms) (d := HandSHeadRun.topDef (OpenLaw.row PySem.Challenge.rw_figurelinks_k31_script_lines_at_their_bo).prog 53) (kwd := []) (FL.obO_eq K31.spec 17)
    (by kernel_rfl) (fun s => by kernel_rfl) K31.run (by kernel_rfl) (by kernel_rfl) (by kernel_rfl) (by rfl) (by first | assumption | decide +kernel) (by decide +kernel) ⟨rfl, rfl, rfl, rfl, rfl, by decide +kernel⟩ ?hw ?hc
  case hw => w_witness2
  case hc =>
    refine FL.walk_plain (l := PySem.Challenge.rw_figurelinks_k31_script_lines_at_their_bo) (n := 63) (k := 7) (x := "script") rfl (by decide) (by kernel_rfl) ⟨rfl, by decide, by decide⟩ hpl ?F
    intro w mg fa h Y G hmg0
    obtain ⟨K, KX, c⟩ := Y
    have hmg : mg ("law" : PySem.Str) = some (.ref fa) := by
      have e : (HandSHeadRun.topDef (OpenLaw.row PySem.Challenge.rw_figurelinks_k31_script_lines_at_their_bo).prog 53).name = ("law" : PySem.Str) := by kernel_rfl
      rw [← e]
      exact hmg0
    have c' := K31.facts KX G c
    obtain ⟨fd, FD⟩ := c'.d_law
    have e := hmg.symm.trans c'.g_law
    cases e
    have b := L2.FunD.bindsA (ps := ["script"]) FD fun _ _ _ _ _ _ us hl => match us, hl with | [_], _ => rfl
    exact ⟨K, fd, KX, fun s v => b s [v] rfl, fun base _ _ => FL.fn_ok FD K31.s_law (by decide) fun cdv A outer s H Ex E W C hE hn => K31.body_law c' _ cdv A outer s H Ex E W C hE hn⟩

set_option maxRecDepth 100000 in
set_option maxHeartbeats 0 in
theorem PySem.Challenge.cw_figurelinks_k31_script_lines_at_their_bo_holds : PySem.Challenge.rw_figurelinks_k31_script_lines_at_their_bo.Holds := by
  exact K31.fin fun ns h => K31.law_true ns h
