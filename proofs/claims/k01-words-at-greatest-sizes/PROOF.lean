import PyProof.Rows.All
import Wide.All
import OpenK.AllK
import Wide.FinOn
import HandS.ForMost
import HandS.Defaults
import HandS.Exc
import HandS.Wide
import HandS.Flow
import HandS.Conv
import HandS.IsInst
import HandS.Steps
import HandS.Replace
import HandS.Text
import HandS.Iter
import KE.GoesNew
import KE.GoesMore
import KE.SortKeyHeap
import KE.SortData
import HandS.SortKw
import HandS.Dict
import HandS.More
import PySem.Challenge.RW_treesfromyes_k01_words_at_greatest_sizes
import Lean
import HandS.Base
import HandS.Call
import HandS.Ends
import HandS.Words
import HandS.WordsExc
import HandS.Head0
import HandS.Head1
import HandS.Head2
import HandS.HeadEnd
import HandS.HeadHook1
import HandS.HeadHook2
set_option Elab.async false
set_option linter.all false
set_option maxRecDepth 100000
set_option maxHeartbeats 4000000
/-! Core: descriptions of values over a frozen part of the heap, owned objects, calls. -/
namespace Co
open PySem L2

/-! ### texts as lists of codes -/
def S (l : List Nat) : Str := ⟨l.toArray⟩
theorem S_len (l : List Nat) : (S l).length = l.length := by simp [S, Str.length]
theorem S_app (l m : List Nat) : S l ++ S m = S (l ++ m) := by
  show (⟨l.toArray ++ m.toArray⟩ : Str) = ⟨(l ++ m).toArray⟩
  rw [List.append_toArray]
theorem S_cps (l : List Nat) : (S l).cps.toList = l := rfl
theorem S_of (x : Str) : S x.cps.toList = x := rfl
theorem S_inj {l m : List Nat} : S l = S m ↔ l = m := by
  constructor
  · intro h
    have e := congrArg (fun x : Str => x.cps.toList) h
    exact e
  · intro h; rw [h]

/-! ### descriptions -/
/-- a value, described over the frozen heap -/
structure VP where
  p : Hp → V → Prop
  m : ∀ {G G' : Hp} {v : V}, Same G G' → p G v → p G' v
/-- an object's content, described over the frozen heap -/
structure OP where
  p : Hp → HO → Prop
  m : ∀ {G G' : Hp} {o : HO}, Same G G' → p G o → p G' o
/-- data as values -/
structure Rep (α : Type) where
  r : Hp → α → V → Prop
  m : ∀ {G G' : Hp} {x : α} {v : V}, Same G G' → r G x v → r G' x v

def Rep.at {α : Type} (R : Rep α) (x : α) : VP := ⟨fun G v => R.r G x v, fun s h => R.m s h⟩
theorem Rep.ms {α : Type} (R : Rep α) {G G' : Hp} (s : Same G G') {xs : List α} {vs : List V} (h : Paired (R.r G) xs vs) : Paired (R.r G') xs vs := Paired.mapP h fun _ _ q => R.m s q

def rI : Rep Int := ⟨fun _ i v => v = .int i, fun _ h => h⟩
def rS : Rep (List Nat) := ⟨fun _ l v => v = .str (S l), fun _ h => h⟩
def rB : Rep Bool := ⟨fun _ b v => v = .bl b, fun _ h => h⟩
def rL {α : Type} (R : Rep α) : Rep (List α) := ⟨fun G xs v => ∃ a vs, v = .ref a ∧ G a = some (.lst vs) ∧ Paired (R.r G) xs vs,
  fun s ⟨a, vs, e, h, q⟩ => ⟨a, vs, e, s _ _ h, R.ms s q⟩⟩
def rT {α : Type} (R : Rep α) : Rep (List α) := ⟨fun G xs v => ∃ a vs, v = .ref a ∧ G a = some (.tup vs) ∧ Paired (R.r G) xs vs,
  fun s ⟨a, vs, e, h, q⟩ => ⟨a, vs, e, s _ _ h, R.ms s q⟩⟩
def rP {α β : Type} (R : Rep α) (T : Rep β) : Rep (α × β) := ⟨fun G x v => ∃ a v1 v2, v = .ref a ∧ G a = some (.tup [v1, v2]) ∧ R.r G x.1 v1 ∧ T.r G x.2 v2,
  fun s ⟨a, v1, v2, e, h, q1, q2⟩ => ⟨a, v1, v2, e, s _ _ h, R.m s q1, T.m s q2⟩⟩
def rP3 {α β γ : Type} (R : Rep α) (T : Rep β) (U : Rep γ) : Rep (α × β × γ) := ⟨fun G x v => ∃ a v1 v2 v3, v = .ref a ∧ G a = some (.tup [v1, v2, v3]) ∧ R.r G x.1 v1 ∧ T.r G x.2.1 v2 ∧ U.r G x.2.2 v3,
  fun s ⟨a, v1, v2, v3, e, h, q1, q2, q3⟩ => ⟨a, v1, v2, v3, e, s _ _ h, R.m s q1, T.m s q2, U.m s q3⟩⟩
def rO {α : Type} (R : Rep α) : Rep (Option α) := ⟨fun G x v => match x with | none => v = .non | some y => R.r G y v,
  fun {_ _ x _} s h => match x, h with | none, h => h | some _, h => R.m s h⟩

/-- flat data: the values are the images -/
theorem flat_iff {α : Type} {f : α → V} : ∀ {xs : List α} {vs : List V}, Paired (fun x v => v = f x) xs vs ↔ vs = xs.map f
  | [], vs => ⟨fun h => by cases h; rfl, fun h => by rw [h]; exact .nil⟩
  | x :: xs, vs => ⟨fun h => by cases h with | cons a b => rw [a, flat_iff.mp b]; rfl, fun h => by rw [h]; exact .cons rfl (flat_iff.mpr rfl)⟩
theorem Paired.len {α β : Type} {F : α → β → Prop} {l₁ : List α} {l₂ : List β} (h : Paired F l₁ l₂) : l₁.length = l₂.length := Paired.length h
theorem Paired.get {α β : Type} {F : α → β → Prop} : ∀ {l₁ : List α} {l₂ : List β} {i : Nat} {y : β}, Paired F l₁ l₂ → l₂[i]? = some y → ∃ x, l₁[i]? = some x ∧ F x y
  | _, _, _, _, .nil, e => by simp at e
  | _, _, 0, _, .cons r _, e => by simp at e; subst e; exact ⟨_, rfl, r⟩
  | _, _, i + 1, y, .cons _ t, e => by
    obtain ⟨x, h1, h2⟩ := Paired.get (i := i) (y := y) t (by simpa using e)
    exact ⟨x, by simpa using h1, h2⟩
theorem Paired.getL {α β : Type} {F : α → β → Prop} : ∀ {l₁ : List α} {l₂ : List β} {i : Nat} {x : α}, Paired F l₁ l₂ → l₁[i]? = some x → ∃ y, l₂[i]? = some y ∧ F x y
  | _, _, _, _, .nil, e => by simp at e
  | _, _, 0, _, .cons r _, e => by simp at e; subst e; exact ⟨_, rfl, r⟩
  | _, _, i + 1, x, .cons _ t, e => by
    obtain ⟨y, h1, h2⟩ := Paired.getL (i := i) (x := x) t (by simpa using e)
    exact ⟨y, by simpa using h1, h2⟩
theorem Paired.set {α β : Type} {F : α → β → Prop} {x : α} {y : β} (r : F x y) : ∀ {l₁ : List α} {l₂ : List β} (i : Nat), Paired F l₁ l₂ → Paired F (l₁.set i x) (l₂.set i y)
  | _, _, _, .nil => .nil
  | _, _, 0, .cons _ t => .cons r t
  | _, _, i + 1, .cons q t => .cons q (Paired.set r i t)
theorem Paired.app {α β : Type} {F : α → β → Prop} : ∀ {l₁ l₃ : List α} {l₂ l₄ : List β}, Paired F l₁ l₂ → Paired F l₃ l₄ → Paired F (l₁ ++ l₃) (l₂ ++ l₄)
  | _, _, _, _, .nil, s => s
  | _, _, _, _, .cons r t, s => .cons r (Paired.app t s)
theorem Paired.take {α β : Type} {F : α → β → Prop} : ∀ {l₁ : List α} {l₂ : List β} (n : Nat), Paired F l₁ l₂ → Paired F (l₁.take n) (l₂.take n)
  | _, _, 0, _ => .nil
  | _, _, _ + 1, .nil => .nil
  | _, _, n + 1, .cons r t => .cons r (Paired.take n t)
theorem Paired.drop {α β : Type} {F : α → β → Prop} : ∀ {l₁ : List α} {l₂ : List β} (n : Nat), Paired F l₁ l₂ → Paired F (l₁.drop n) (l₂.drop n)
  | _, _, 0, r => r
  | _, _, _ + 1, .nil => .nil
  | _, _, n + 1, .cons _ t => Paired.drop n t
theorem Paired.rev {α β : Type} {F : α → β → Prop} : ∀ {l₁ : List α} {l₂ : List β}, Paired F l₁ l₂ → Paired F l₁.reverse l₂.reverse
  | _, _, .nil => .nil
  | _, _, .cons r t => by rw [List.reverse_cons, List.reverse_cons]; exact Paired.app (Paired.rev t) (.cons r .nil)

/-! ### the state: frozen heap G within the heap H; L: what is owned (by callers too: a callee leaves their part as it is) -/
abbrev Own := List (Addr × OP)
structure At (G H : Hp) (L : Own) : Prop where
  gh : Same G H
  ow : ∀ q ∈ L, G q.1 = none ∧ ∃ o, H q.1 = some o ∧ q.2.p G o
  nd : (L.map (·.1)).Nodup

section
variable {G G' H H' : Hp} {L L1 L2 : Own} {p : Addr} {o o' : HO} {P P' : OP} {q r t : Addr × OP}
theorem At.tail (h : At G H (q :: L)) : At G H L := by
  refine ⟨h.gh, fun r hr => h.ow r (List.mem_cons_of_mem _ hr), ?_⟩
  have := h.nd
  rw [List.map_cons] at this
  exact (List.nodup_cons.mp this).2
theorem At.perm (h : At G H L) (hp : L.Perm L1) : At G H L1 :=
  ⟨h.gh, fun q hq => h.ow q (hp.mem_iff.mpr hq), (hp.map (·.1)).nodup_iff.mp h.nd⟩
theorem At.swap (h : At G H (q :: r :: L)) : At G H (r :: q :: L) := h.perm (List.Perm.swap r q L)
/-- the third, the fourth to the front, and back -/
theorem At.up3 (h : At G H (q :: r :: t :: L)) : At G H (t :: q :: r :: L) := h.perm ((List.Perm.cons q (List.Perm.swap t r L)).trans (List.Perm.swap t q (r :: L)))
theorem At.down3 (h : At G H (t :: q :: r :: L)) : At G H (q :: r :: t :: L) := h.perm ((List.Perm.swap q t (r :: L)).trans (List.Perm.cons q (List.Perm.swap r t L)))
theorem At.up4 {u : Addr × OP} (h : At G H (q :: r :: t :: u :: L)) : At G H (u :: q :: r :: t :: L) := h.perm (((List.Perm.cons r (List.Perm.swap u t L)).trans (List.Perm.swap u r (t :: L))).cons q |>.trans (List.Perm.swap u q _))
theorem At.down4 {u : Addr × OP} (h : At G H (u :: q :: r :: t :: L)) : At G H (q :: r :: t :: u :: L) := h.perm ((((List.Perm.cons r (List.Perm.swap u t L)).trans (List.Perm.swap u r (t :: L))).cons q |>.trans (List.Perm.swap u q _))).symm
theorem At.drop2 (h : At G H (q :: r :: L)) : At G H (q :: L) := h.swap.tail
theorem At.drop3 (h : At G H (q :: r :: t :: L)) : At G H (q :: r :: L) := h.up3.tail
/-- what is owned at p -/
theorem At.hd (h : At G H ((p, P) :: L)) : ∃ o, H p = some o ∧ P.p G o := (h.ow (p, P) (List.mem_cons_self ..)).2
theorem At.no (h : At G H ((p, P) :: L)) : G p = none := (h.ow (p, P) (List.mem_cons_self ..)).1
/-- a new object, dropped from sight -/
theorem At.litter (h : At G H L) (hp : H p = none) : At G (upd H p o) L := by
  refine ⟨fun b u e => ?_, fun q hq => ?_, h.nd⟩
  · rw [upd_ne (ne_of_none (h.gh b u e) hp)]; exact h.gh b u e
  · obtain ⟨a, u, b, c⟩ := h.ow q hq
    exact ⟨a, u, by rw [upd_ne (ne_of_none b hp)]; exact b, c⟩
theorem At.free (h : At G H L) (hp : H p = none) : G p = none := h.gh.free hp
theorem At.same (h : At G H L) (hp : H p = none) : Same G (upd G p o) := fun b u e => by
  rw [upd_ne (ne_of_none e (h.free hp))]; exact e
/-- a new object, owned -/
theorem At.own (h : At G H L) (hp : H p = none) (ho : P.p G o) : At G (upd H p o) ((p, P) :: L) := by
  have hl := h.litter (o := o) hp
  refine ⟨hl.gh, fun q hq => ?_, ?_⟩
  · rcases List.mem_cons.mp hq with rfl | hq
    · exact ⟨h.free hp, o, upd_same, ho⟩
    · exact hl.ow q hq
  · rw [List.map_cons]
    refine List.nodup_cons.mpr ⟨fun z => ?_, h.nd⟩
    obtain ⟨q, hq, e⟩ := List.mem_map.mp z
    obtain ⟨_, u, b, _⟩ := h.ow q hq
    rw [e, hp] at b
    cases b
theorem At.ownL (h : At G H L) (hp : H p = none) : At G (upd H p o) ((p, ⟨fun _ u => u = o, fun _ h => h⟩) :: L) := h.own hp rfl
/-- a new object, frozen at once -/
theorem At.ice (h : At G H L) (hp : H p = none) : At (upd G p o) (upd H p o) L := by
  have hl := h.litter (o := o) hp
  have sg : Same G (upd G p o) := h.same hp
  refine ⟨fun b u e => ?_, fun q hq => ?_, h.nd⟩
  · by_cases hb : b = p
    · subst hb; rw [upd_same] at e ⊢; exact e
    · rw [upd_ne hb] at e ⊢; exact h.gh b u e
  · obtain ⟨a, u, b, c⟩ := h.ow q hq
    have hn : q.1 ≠ p := ne_of_none b hp
    exact ⟨by rw [upd_ne hn]; exact a, u, by rw [upd_ne hn]; exact b, q.2.m sg c⟩
/-- an owned object is changed -/
theorem At.set (h : At G H ((p, P) :: L)) (ho : P'.p G o') : At G (upd H p o') ((p, P') :: L) := by
  have hg := (h.ow (p, P) (List.mem_cons_self ..)).1
  have hnd := h.nd
  rw [List.map_cons] at hnd
  have hn : p ∉ L.map (·.1) := (List.nodup_cons.mp hnd).1
  refine ⟨fun b u e => ?_, fun q hq => ?_, hnd⟩
  · have : b ≠ p := fun z => by
      rw [z] at e
      rw [show G p = none from hg] at e
      cases e
    rw [upd_ne this]; exact h.gh b u e
  · rcases List.mem_cons.mp hq with rfl | hq
    · exact ⟨hg, o', upd_same, ho⟩
    · obtain ⟨a, u, b, c⟩ := h.ow q (List.mem_cons_of_mem _ hq)
      have : q.1 ≠ p := fun z => hn (z ▸ List.mem_map_of_mem hq)
      exact ⟨a, u, by rw [upd_ne this]; exact b, c⟩
/-- an owned object is frozen -/
theorem At.freeze (h : At G H ((p, P) :: L)) : ∃ o, P.p G o ∧ Same G (upd G p o) ∧ At (upd G p o) H L := by
  obtain ⟨hg, o, ho, hP⟩ := h.ow (p, P) (List.mem_cons_self ..)
  have hg : G p = none := hg
  have ho : H p = some o := ho
  have sg : Same G (upd G p o) := fun b u e => by rw [upd_ne (ne_of_none e hg)]; exact e
  have hnd := h.nd
  rw [List.map_cons] at hnd
  have hn : p ∉ L.map (·.1) := (List.nodup_cons.mp hnd).1
  refine ⟨o, hP, sg, fun b u e => ?_, fun q hq => ?_, (List.nodup_cons.mp hnd).2⟩
  · by_cases hb : b = p
    · subst hb; rw [upd_same] at e; cases e; exact ho
    · rw [upd_ne hb] at e; exact h.gh b u e
  · obtain ⟨a, u, b, c⟩ := h.ow q (List.mem_cons_of_mem _ hq)
    have : q.1 ≠ p := fun z => hn (z ▸ List.mem_map_of_mem hq)
    exact ⟨by rw [upd_ne this]; exact a, u, b, q.2.m sg c⟩
/-- a weaker description -/
theorem At.weak (h : At G H ((p, P) :: L)) (w : ∀ o, P.p G o → P'.p G o) : At G H ((p, P') :: L) := by
  refine ⟨h.gh, fun q hq => ?_, h.nd⟩
  rcases List.mem_cons.mp hq with rfl | hq
  · obtain ⟨a, u, b, c⟩ := h.ow (p, P) (List.mem_cons_self ..)
    exact ⟨a, u, b, w u c⟩
  · exact h.ow q (List.mem_cons_of_mem _ hq)
/-- more objects, all else as it was -/
theorem At.more (h : At G H L) (s : Same H H') : At G H' L :=
  ⟨fun b u e => s b u (h.gh b u e), fun q hq => by obtain ⟨a, u, b, c⟩ := h.ow q hq; exact ⟨a, u, s _ _ b, c⟩, h.nd⟩
/-- nothing is owned but the heap as it is -/
theorem At.start (H : Hp) : At H H [] := ⟨Same.refl H, fun _ h => (by cases h), List.nodup_nil⟩
end

/-! ### owned things -/
def oL {α : Type} (R : Rep α) (xs : List α) : OP := ⟨fun G o => ∃ vs, o = .lst vs ∧ Paired (R.r G) xs vs, fun s ⟨vs, e, q⟩ => ⟨vs, e, R.ms s q⟩⟩
/-- a dict with plain keys -/
def dRel {α : Type} (R : Rep α) (G : Hp) : Key × α → Key × V → Prop := fun a b => a.1 = b.1 ∧ R.r G a.2 b.2
def oD {α : Type} (R : Rep α) (kvs : List (Key × α)) : OP := ⟨fun G o => ∃ ws, o = .dK ws ∧ Paired (dRel R G) kvs ws, fun s ⟨ws, e, q⟩ => ⟨ws, e, Paired.mapP q fun _ _ z => ⟨z.1, R.m s z.2⟩⟩⟩
/-- a dict with tuple keys -/
def tRel {α : Type} (R : Rep α) (G : Hp) : List Key × α → List Key × V → Prop := fun a b => a.1 = b.1 ∧ R.r G a.2 b.2
def oDT {α : Type} (R : Rep α) (kvs : List (List Key × α)) : OP := ⟨fun G o => ∃ ws, o = .dT ws ∧ Paired (tRel R G) kvs ws, fun s ⟨ws, e, q⟩ => ⟨ws, e, Paired.mapP q fun _ _ z => ⟨z.1, R.m s z.2⟩⟩⟩
/-- anything at all of this content -/
def oIs (o : HO) : OP := ⟨fun _ u => u = o, fun _ h => h⟩

section
variable {G H : Hp} {L : Own} {p : Addr} {o : HO} {P : OP} {q r t : Addr × OP}
theorem At.is (h : At G H ((p, oIs o) :: L)) : H p = some o := by
  obtain ⟨u, h1, h2⟩ := h.hd
  have e : u = o := h2
  rw [← e]; exact h1
theorem At.is2 (h : At G H (q :: (p, oIs o) :: L)) : H p = some o := h.tail.is
theorem At.is3 (h : At G H (q :: r :: (p, oIs o) :: L)) : H p = some o := h.tail.tail.is
theorem At.is4 (h : At G H (q :: r :: t :: (p, oIs o) :: L)) : H p = some o := h.tail.tail.tail.is
/-- the exact content is taken -/
theorem At.open1 (h : At G H ((p, P) :: L)) : ∃ o, P.p G o ∧ At G H ((p, oIs o) :: L) := by
  obtain ⟨o, h1, h2⟩ := h.hd
  refine ⟨o, h2, h.gh, fun q hq => ?_, h.nd⟩
  rcases List.mem_cons.mp hq with rfl | hq
  · exact ⟨(h.ow (p, P) (List.mem_cons_self ..)).1, o, h1, rfl⟩
  · exact h.ow q (List.mem_cons_of_mem _ hq)
theorem At.close (h : At G H ((p, oIs o) :: L)) (hp : P.p G o) : At G H ((p, P) :: L) := h.weak fun u e => by
  have e : u = o := e
  rw [e]; exact hp
/-- an exact object is frozen -/
theorem At.frz (h : At G H ((p, oIs o) :: L)) : Same G (upd G p o) ∧ At (upd G p o) H L := by
  obtain ⟨u, h1, h2, h3⟩ := h.freeze
  have e : u = o := h1
  subst e
  exact ⟨h2, h3⟩
end

/-! ### a callee -/
structure Cal (P : Program) (w : World) (K : PySem.W.Frag) (mg : Str → Option Value) (base : Heap) (CX : CXT) (k : Nat) (x : Str) (ps : List Str) (sp : Sp) : Prop where
  ex : ∃ f fd, mg x = some (.ref f) ∧ FnOk P w K mg base CX k f fd ps sp ∧ PySem.W.keepIn K (.ref f) = true ∧ Binds K fd ps []
section
variable {X : Cx} {CX : CXT} {k j : Nat} {ps : List Str} {sp : Sp} {E : XK} {x : Str} {p pos : Pos} {e : Expr} {es : List Expr} {t : TA}
theorem pe_cal (C : Cal X.prog X.w X.K X.mg X.base CX k x ps sp) (hr : Room j X.A) (hx : Passes CX X E) (ha : PA X (e :: es) t) (hg : Gl X x := by rfl) (hj : k ≤ j := by decide)
    (hdb : (x == ("__debug__" : Str)) = false := by decide) (he : starEach (e :: es) X.env = (false, eval e X.env) :: starEach es X.env := by rfl) (hpl : (backTo pos (starEach es X.env)).any (·.1) = false := by rfl) :
    PE X (.Call (.Name x p) (e :: es) [] pos) (tCall sp [] E t) := by
  obtain ⟨f, fd, hm, F, hk, hb⟩ := C.ex
  exact pe_call F (hr.mono hj) hg hm hk hb .nil hx ha hdb he hpl
theorem pe_cal0 (C : Cal X.prog X.w X.K X.mg X.base CX k x ps sp) (hr : Room j X.A) (hx : Passes CX X E) (hg : Gl X x := by rfl) (hj : k ≤ j := by decide)
    (hdb : (x == ("__debug__" : Str)) = false := by decide) : PE X (.Call (.Name x p) [] [] pos) (tCall sp [] E tNil) := by
  obtain ⟨f, fd, hm, F, hk, hb⟩ := C.ex
  exact pe_call0 F (hr.mono hj) hg hm hk hb .nil hx hdb
end

/-! ### the law's stream of draws -/
def oSt : OP := ⟨fun G o => ∃ (ca : Addr) (cells : List Int) (p v c : Int), o = .lst [.ref ca, .int p, .int v, .int c] ∧ G ca = some (.lst (cells.map V.int)) ∧ 0 < cells.length ∧ cells.length ≤ 1000 ∧ 0 ≤ p ∧ 0 ≤ c,
  fun s ⟨ca, cells, p, v, c, e, h, r⟩ => ⟨ca, cells, p, v, c, e, s _ _ h, r⟩⟩
/-- a draw: any number below many -/
def sp_law_next : Sp := fun vs H Q _ => ∃ (G : Hp) (L : Own) (s : Addr) (n : Int), vs = [.ref s, .int n] ∧ At G H ((s, oSt) :: L) ∧ 0 < n ∧ n < 1073741824 ∧
  ∀ H' (k : Int), At G H' ((s, oSt) :: L) → 0 ≤ k → k < n → Q (.int k) H'
end Co
/-! Vals: expressions that leave the heap as it is, by their values (Val, Ans, AVal), statements over them. -/
namespace Co
open PySem L2
def AVal (t : TA) (σ : L2.St) (H : Hp) (vs : List V) : Prop := ∀ Q : List V → Hp → Prop, Q vs H → t σ H Q
section
variable {K : PySem.W.Frag} {σ : L2.St} {H : Hp} {i j : Nat} {v x y z : V} {ta tb tc te tv : TE} {b c : Bool} {t u : TT} {ra : TA} {vs : List V}
theorem aval_nil : AVal tNil σ H [] := fun _ q => q
theorem aval_cons (h : Val ta σ H x) (hr : AVal ra σ H vs) : AVal (tCons ta ra) σ H (x :: vs) := fun Q q => h _ (hr _ q)
theorem val_I0 {g : Int → Int → V} {i j : Int} (ha : Val ta σ H (.int i)) (hb : Val tb σ H (.int j)) : Val (tOp (rI0 g) ta tb) σ H (g i j) := fun _ q => ha _ (hb _ ⟨i, j, rfl, rfl, q⟩)
theorem val_I {C : Int → Int → Prop} {g : Int → Int → V} {i j : Int} (ha : Val ta σ H (.int i)) (hb : Val tb σ H (.int j)) (hc : C i j) : Val (tOp (L2.rI C g) ta tb) σ H (g i j) := fun _ q => ha _ (hb _ ⟨i, j, rfl, rfl, hc, q⟩)
theorem val_un {g : Int → V} {i : Int} (ha : Val ta σ H (.int i)) : Val (tUn (rU g) ta) σ H (g i) := fun _ q => ha _ ⟨i, rfl, q⟩
theorem val_eq (ha : Val ta σ H x) (hb : Val tb σ H y) (hs : scal x y = true) : Val (tOp rEq ta tb) σ H (.bl (decide (x = y))) := fun _ q => ha _ (hb _ ⟨hs, q⟩)
theorem val_ne (ha : Val ta σ H x) (hb : Val tb σ H y) (hs : scal x y = true) : Val (tOp rNe ta tb) σ H (.bl (!decide (x = y))) := fun _ q => ha _ (hb _ ⟨hs, q⟩)
theorem val_ixL {p : Addr} {xs : List V} {i : Int} (ha : Val ta σ H (.ref p)) (hb : Val tb σ H (.int i)) (h : SqL K H p xs) (hi : atI xs i = some v) : Val (tOp (rIxL K) ta tb) σ H v := fun _ q => ha _ (hb _ ⟨p, xs, i, v, rfl, rfl, h, hi, q⟩)
theorem val_ixT {p : Addr} {xs : List V} {i : Int} (ha : Val ta σ H (.ref p)) (hb : Val tb σ H (.int i)) (h : SqT K H p xs) (hi : atI xs i = some v) : Val (tOp (rIxT K) ta tb) σ H v := fun _ q => ha _ (hb _ ⟨p, xs, i, v, rfl, rfl, h, hi, q⟩)
theorem val_ixS {l : List Nat} {i : Int} {c : Nat} (ha : Val ta σ H (.str (S l))) (hb : Val tb σ H (.int i)) (hl : l.length ≤ sizeLine) (hi : atI l i = some c) : Val (tOp rIxS ta tb) σ H (.str (S [c])) := fun _ q => ha _ (hb _ ⟨S l, i, c, rfl, rfl, by rw [S_len]; exact hl, hi, q⟩)
theorem val_addS {l m : List Nat} (ha : Val ta σ H (.str (S l))) (hb : Val tb σ H (.str (S m))) (hl : l.length + m.length ≤ sizeLine) :
    Val (tOp (fun x y H Q => ∃ i j, x = .str i ∧ y = .str j ∧ i.length + j.length ≤ sizeLine ∧ Q (.str (i ++ j)) H) ta tb) σ H (.str (S (l ++ m))) := fun Q q => ha _ (hb _ ⟨S l, S m, rfl, rfl, by rw [S_len, S_len]; exact hl, by rw [S_app]; exact q⟩)
theorem val_inS {w : List Nat} {c : Nat} (ha : Val ta σ H (.str (S [c]))) (hb : Val tb σ H (.str (S w))) :
    Val (tOp (fun x y H Q => ∃ (c : Nat) (z : Str), x = .str ⟨#[c]⟩ ∧ y = .str z ∧ Q (.bl (decide (c ∈ z.cps.toList))) H) ta tb) σ H (.bl (decide (c ∈ w))) := fun _ q => ha _ (hb _ ⟨c, S w, rfl, rfl, q⟩)
theorem val_notInS {w : List Nat} {c : Nat} (ha : Val ta σ H (.str (S [c]))) (hb : Val tb σ H (.str (S w))) :
    Val (tOp (fun x y H Q => ∃ (c : Nat) (z : Str), x = .str ⟨#[c]⟩ ∧ y = .str z ∧ Q (.bl (!decide (c ∈ z.cps.toList))) H) ta tb) σ H (.bl (!decide (c ∈ w))) := fun _ q => ha _ (hb _ ⟨c, S w, rfl, rfl, q⟩)
theorem val_leS {l m : List Nat} (ha : Val ta σ H (.str (S l))) (hb : Val tb σ H (.str (S m))) :
    Val (tOp (fun x y H Q => ∃ i j, x = .str i ∧ y = .str j ∧ Q (.bl (!decide (j.cps.toList < i.cps.toList))) H) ta tb) σ H (.bl (!decide (m < l))) := fun _ q => ha _ (hb _ ⟨S l, S m, rfl, rfl, q⟩)
theorem val_inSeqL {neg : Bool} {p : Addr} {xs : List V} (ha : Val ta σ H x) (hb : Val tb σ H (.ref p)) (h : SqL K H p xs) (hx : flatV x = true) (hf : xs.all flatV = true) : Val (tOp (rIn K neg) ta tb) σ H (.bl (if neg then !inV x xs else inV x xs)) :=
  fun _ q => ha _ (hb _ ⟨p, xs, rfl, Or.inl h, hx, hf, q⟩)
theorem val_inSeqT {neg : Bool} {p : Addr} {xs : List V} (ha : Val ta σ H x) (hb : Val tb σ H (.ref p)) (h : SqT K H p xs) (hx : flatV x = true) (hf : xs.all flatV = true) : Val (tOp (rIn K neg) ta tb) σ H (.bl (if neg then !inV x xs else inV x xs)) :=
  fun _ q => ha _ (hb _ ⟨p, xs, rfl, Or.inr h, hx, hf, q⟩)
theorem val_isN (ha : Val ta σ H x) : Val (tOp (fun x y H Q => y = .non ∧ Q (.bl (decide (x = .non))) H) ta (tC .non)) σ H (.bl (decide (x = .non))) := fun _ q => ha _ ⟨rfl, q⟩
theorem val_notN (ha : Val ta σ H x) : Val (tOp (fun x y H Q => y = .non ∧ Q (.bl (!decide (x = .non))) H) ta (tC .non)) σ H (.bl (!decide (x = .non))) := fun _ q => ha _ ⟨rfl, q⟩
theorem val_cS {z : Str} : Val (tC (.str z)) σ H (.str (S z.cps.toList)) := fun _ q => q
/-- calls of built-ins -/
theorem val_int1 {i : Int} (ha : Val ta σ H (.int i)) : Val (tCB (fun xs H Q => (∃ i, xs = [.int i] ∧ Q (.int i) H) ∨ ∃ k, xs = [.bl k] ∧ Q (.int (if k then 1 else 0)) H) (tCons ta tNil)) σ H (.int i) := fun _ q => ha _ (Or.inl ⟨i, rfl, q⟩)
theorem val_lenL {p : Addr} {xs : List V} (ha : Val ta σ H (.ref p)) (h : SqL K H p xs) : Val (tCB (fun xs H Q => ∃ p ys, xs = [.ref p] ∧ (SqL K H p ys ∨ SqT K H p ys) ∧ Q (.int ys.length) H) (tCons ta tNil)) σ H (.int xs.length) := fun _ q => ha _ ⟨p, xs, rfl, Or.inl h, q⟩
theorem val_lenT {p : Addr} {xs : List V} (ha : Val ta σ H (.ref p)) (h : SqT K H p xs) : Val (tCB (fun xs H Q => ∃ p ys, xs = [.ref p] ∧ (SqL K H p ys ∨ SqT K H p ys) ∧ Q (.int ys.length) H) (tCons ta tNil)) σ H (.int xs.length) := fun _ q => ha _ ⟨p, xs, rfl, Or.inr h, q⟩
theorem val_lenS {l : List Nat} (ha : Val ta σ H (.str (S l))) (hl : l.length ≤ sizeLine) : Val (tCB (fun xs H Q => ∃ z, xs = [.str z] ∧ z.length ≤ sizeLine ∧ Q (.int z.length) H) (tCons ta tNil)) σ H (.int l.length) := fun Q q => ha _ ⟨S l, rfl, by rw [S_len]; exact hl, by rw [S_len]; exact q⟩
theorem val_lenD {p : Addr} {kvs : List (Key × V)} (ha : Val ta σ H (.ref p)) (h : H p = some (.dK kvs)) : Val (tCB (fun xs H Q => ∃ a kvs, xs = [V.ref a] ∧ H a = some (.dK kvs) ∧ Q (.int kvs.length) H) (tCons ta tNil)) σ H (.int kvs.length) := fun _ q => ha _ ⟨p, kvs, rfl, h, q⟩
theorem val_abs {i : Int} (ha : Val ta σ H (.int i)) : Val (tCB (fun xs H Q => ∃ i, xs = [.int i] ∧ Q (.int (if i < 0 then -i else i)) H) (tCons ta tNil)) σ H (.int (if i < 0 then -i else i)) := fun _ q => ha _ ⟨i, rfl, q⟩
theorem val_max2 {i j : Int} (ha : Val ta σ H (.int i)) (hb : Val tb σ H (.int j)) : Val (tCB (fun xs H Q => ∃ i j, xs = [.int i, .int j] ∧ Q (.int (if j > i then j else i)) H) (tCons ta (tCons tb tNil))) σ H (.int (if j > i then j else i)) := fun _ q => ha _ (hb _ ⟨i, j, rfl, q⟩)
theorem val_min2 {i j : Int} (ha : Val ta σ H (.int i)) (hb : Val tb σ H (.int j)) : Val (tCB (fun xs H Q => ∃ i j, xs = [.int i, .int j] ∧ Q (.int (if j < i then j else i)) H) (tCons ta (tCons tb tNil))) σ H (.int (if j < i then j else i)) := fun _ q => ha _ (hb _ ⟨i, j, rfl, q⟩)
theorem val_isi {x : V} {a b : String} {r : Bool} (ha : Val ta σ H x) (ht : TyX K H x (.type a)) (hk : kitB a b = some r) : Val (tCB (rIsi K) (tCons ta (tCons (tC (.ty b)) tNil))) σ H (.bl r) :=
  fun _ q => ha _ ⟨x, .ty b, .type a, .type b, r, rfl, .ty b, ht, kit_ty hk, q⟩
theorem kii : kitB "int" "int" = some true := by decide +kernel
theorem kib : kitB "int" "bool" = some false := by decide +kernel
theorem kss : kitB "str" "str" = some true := by decide +kernel
theorem kll : kitB "list" "list" = some true := by decide +kernel
theorem ktt : kitB "tuple" "tuple" = some true := by decide +kernel
theorem kst : kitB "str" "tuple" = some false := by decide +kernel
theorem kts : kitB "tuple" "str" = some false := by decide +kernel
theorem kis : kitB "int" "str" = some false := by decide +kernel
theorem kit : kitB "int" "tuple" = some false := by decide +kernel
theorem klt : kitB "list" "tuple" = some false := by decide +kernel
theorem ktl : kitB "tuple" "list" = some false := by decide +kernel
theorem val_countS {l m : List Nat} (ha : Val ta σ H (.str (S l))) (hb : Val tb σ H (.str (S m))) : Val (tM1 (fun x xs H Q => ∃ a b, x = .str a ∧ xs = [.str b] ∧ Q (.int (Txt.count a b)) H) ta tb) σ H (.int (Txt.count (S l) (S m))) := fun _ q => ha _ ⟨⟨_, rfl⟩, hb _ ⟨S l, S m, rfl, rfl, q⟩⟩
/-- values by tests -/
theorem val_andV (ha : Val ta σ H (.bl b)) (hb : b = true → Val tb σ H (.bl c)) : Val (tAndV ta tb) σ H (.bl (b && c)) := fun Q q => ha _ ⟨b, rfl, by
  cases b with
  | true => exact iteT (hb rfl _ q)
  | false => exact iteF q⟩
theorem val_orV (ha : Val ta σ H (.bl b)) (hb : b = false → Val tb σ H (.bl c)) : Val (tOrV ta tb) σ H (.bl (b || c)) := fun Q q => ha _ ⟨b, rfl, by
  cases b with
  | true => exact iteT q
  | false => exact iteF (hb rfl _ q)⟩
theorem val_notV (ha : Val ta σ H (.bl b)) : Val (tNotV ta) σ H (.bl (!b)) := fun _ q => ha _ ⟨b, rfl, q⟩
theorem val_if (h : Ans t σ H b) (h1 : b = true → Val ta σ H v) (h2 : b = false → Val tb σ H v) : Val (tIf t ta tb) σ H v := fun Q q => h _ (by
  cases b with
  | true => exact iteT (h1 rfl _ q)
  | false => exact iteF (h2 rfl _ q))
theorem val_to (h : Val te σ H v) (e : v = x) : Val te σ H x := e ▸ h
/-- tests -/
theorem ans_T (h : Val te σ H (.bl b)) : Ans (tTest te) σ H b := fun _ q => h _ ⟨b, rfl, q⟩
theorem ans_B (h : Val te σ H (.bl b)) : Ans (tB te) σ H b := fun _ q => h _ ⟨b, rfl, q⟩
theorem ans_nt (h : Ans t σ H b) : Ans (tNot t) σ H (!b) := fun Q q => h _ q
theorem ans_an (h1 : Ans t σ H b) (h2 : b = true → Ans u σ H c) : Ans (tAnd t u) σ H (b && c) := fun Q q => h1 _ (by
  cases b with
  | true => exact iteT (h2 rfl _ q)
  | false => exact iteF q)
theorem ans_orr (h1 : Ans t σ H b) (h2 : b = false → Ans u σ H c) : Ans (tOr t u) σ H (b || c) := fun Q q => h1 _ (by
  cases b with
  | true => exact iteT q
  | false => exact iteF (h2 rfl _ q))
theorem val_andV0 (ha : Val ta σ H (.bl b)) (hb : Val tb σ H (.bl c)) : Val (tAndV ta tb) σ H (.bl (b && c)) := val_andV ha fun _ => hb
theorem val_orV0 (ha : Val ta σ H (.bl b)) (hb : Val tb σ H (.bl c)) : Val (tOrV ta tb) σ H (.bl (b || c)) := val_orV ha fun _ => hb
theorem ans_an0 (h1 : Ans t σ H b) (h2 : Ans u σ H c) : Ans (tAnd t u) σ H (b && c) := ans_an h1 fun _ => h2
theorem ans_orr0 (h1 : Ans t σ H b) (h2 : Ans u σ H c) : Ans (tOr t u) σ H (b || c) := ans_orr h1 fun _ => h2
/-- parts in a row -/
theorem op_l {r : R2} {Q : VK} (ha : Val ta σ H x) (q : tb σ H fun y H2 => r x y H2 Q) : tOp r ta tb σ H Q := ha _ q
theorem call_ {sp : Sp} {E : XK} {t : TA} {Q : VK} (ha : AVal t σ H vs) (q : sp (vs ++ []) H Q E) : tCall sp [] E t σ H Q := ha _ q
theorem go {Q : VK} (h : Val te σ H v) (q : Q v H) : te σ H Q := h _ q
theorem goT {Q : Bool → Hp → Prop} (h : Ans t σ H b) (q : Q b H) : t σ H Q := h _ q
theorem test_ {Q : Bool → Hp → Prop} (h : te σ H fun x H1 => ∃ c, x = .bl c ∧ Q c H1) : tTest te σ H Q := h
end
section
variable {σ : L2.St} {H : Hp} {D : Ends} {t1 t2 : TS} {te : TE} {tt : TT} {b : Bool} {v : V} {i : Nat} {sp : Sp} {E : XK} {t : TA} {vs : List V}
theorem st_if (h : Ans tt σ H b) (h1 : b = true → t1 D σ H) (h2 : b = false → t2 D σ H) : tIfS tt t1 t2 D σ H := h _ (by
  cases b with
  | true => exact iteT (h1 rfl)
  | false => exact iteF (h2 rfl))
theorem st_setCall (ha : AVal t σ H vs) (q : sp (vs ++ []) H (fun v H' => D.nx (σ.set i (some v)) H') E) : tAsg (tCall sp [] E t) (gName i) D σ H := ha _ q
theorem st_retCall (ha : AVal t σ H vs) (q : sp (vs ++ []) H D.rt E) : tRet (tCall sp [] E t) D σ H := ha _ q
theorem st_setL {ta tb : TE} {l : Addr} {xs : List V} {k : Int} {j : Nat} (he : Val te σ H v) (ho : Val ta σ H (.ref l)) (hi : Val tb σ H (.int k)) (hl : H l = some (.lst xs)) (hj : ixN xs.length k = some j) (q : D.nx σ (upd H l (.lst (xs.set j v)))) :
    tAsg te (gSub ta tb rSetL) D σ H := he _ (ho _ (hi _ ⟨l, xs, k, j, rfl, rfl, hl, hj, q⟩))
theorem st_app {K : PySem.W.Frag} {ta : TE} {l : Addr} {xs : List V} (ho : Val ta σ H (.ref l)) (he : Val te σ H v) (hl : H l = some (.lst xs)) (hz : xs.length < sizeLine) (q : D.nx σ (upd H l (.lst (xs ++ [v])))) :
    tDrop (tBM K "list" rAppend ta (tCons te tNil)) D σ H := ho _ ⟨Or.inl ⟨rfl, _, Or.inl (Or.inl hl)⟩, he _ ⟨l, xs, v, rfl, rfl, hl, hz, q⟩⟩
/-- a new list, a new tuple -/
theorem new_lst {Q : VK} (ha : AVal t σ H vs) (hz : vs.length ≤ sizeLine) (q : ∀ p, H p = none → Q (.ref p) (upd H p (.lst vs))) : tLst t σ H Q := ha _ ⟨hz, q⟩
theorem new_tup {Q : VK} (ha : AVal t σ H vs) (hz : vs.length ≤ sizeLine) (q : ∀ p, H p = none → Q (.ref p) (upd H p (.tup vs))) : tTup t σ H Q := ha _ ⟨hz, q⟩
/-- the same, a rest behind -/
theorem q_set {u : TS} (h : Val te σ H v) (q : u D (σ.set i (some v)) H) : tSeq (tAsg te (gName i)) u D σ H := h _ q
theorem q_as {u : TS} (q : te σ H fun x H1 => u D (σ.set i (some x)) H1) : tSeq (tAsg te (gName i)) u D σ H := q
theorem q_if {u : TS} (h : Ans tt σ H b) (h1 : b = true → t1 { D with nx := u D } σ H) (h2 : b = false → t2 { D with nx := u D } σ H) : tSeq (tIfS tt t1 t2) u D σ H := st_if (D := { D with nx := u D }) h h1 h2
/-- an if without an else -/
theorem q_when {u : TS} (h : Ans tt σ H b) (h1 : b = true → t1 { D with nx := u D } σ H) (h2 : b = false → u D σ H) : tSeq (tIfS tt t1 tNext) u D σ H := st_if (D := { D with nx := u D }) h h1 h2
theorem st_when (h : Ans tt σ H b) (h1 : b = true → t1 D σ H) (h2 : b = false → D.nx σ H) : tIfS tt t1 tNext D σ H := st_if h h1 h2
theorem q_call {u : TS} (ha : AVal t σ H vs) (q : sp (vs ++ []) H (fun v H' => u D (σ.set i (some v)) H') E) : tSeq (tAsg (tCall sp [] E t) (gName i)) u D σ H := ha _ q
theorem q_dropCall {u : TS} (ha : AVal t σ H vs) (q : sp (vs ++ []) H (fun _ H' => u D σ H') E) : tSeq (tDrop (tCall sp [] E t)) u D σ H := ha _ q
theorem q_setL {u : TS} {ta tb : TE} {l : Addr} {xs : List V} {k : Int} {j : Nat} (he : Val te σ H v) (ho : Val ta σ H (.ref l)) (hi : Val tb σ H (.int k)) (hl : H l = some (.lst xs)) (hj : ixN xs.length k = some j) (q : u D σ (upd H l (.lst (xs.set j v)))) :
    tSeq (tAsg te (gSub ta tb rSetL)) u D σ H := st_setL (D := { D with nx := u D }) he ho hi hl hj q
theorem q_app {u : TS} {K : PySem.W.Frag} {ta : TE} {l : Addr} {xs : List V} (ho : Val ta σ H (.ref l)) (he : Val te σ H v) (hl : H l = some (.lst xs)) (hz : xs.length < sizeLine) (q : u D σ (upd H l (.lst (xs ++ [v])))) :
    tSeq (tDrop (tBM K "list" rAppend ta (tCons te tNil))) u D σ H := st_app (D := { D with nx := u D }) ho he hl hz q
/-- owned lists -/
theorem q_setO {G : Hp} {L : Own} {l : Addr} {xs : List V} {u0 : TS} {ta tb : TE} {k : Int} {j : Nat} (he : Val te σ H v) (ho : Val ta σ H (.ref l)) (hi : Val tb σ H (.int k)) (hl : At G H ((l, oIs (.lst xs)) :: L)) (hj : ixN xs.length k = some j)
    (qq : ∀ H', At G H' ((l, oIs (.lst (xs.set j v))) :: L) → u0 D σ H') : tSeq (tAsg te (gSub ta tb rSetL)) u0 D σ H := q_setL he ho hi (hl).is hj (qq _ ((hl).set rfl))
theorem st_setO {G : Hp} {L : Own} {l : Addr} {xs : List V} {ta tb : TE} {k : Int} {j : Nat} (he : Val te σ H v) (ho : Val ta σ H (.ref l)) (hi : Val tb σ H (.int k)) (hl : At G H ((l, oIs (.lst xs)) :: L)) (hj : ixN xs.length k = some j)
    (qq : ∀ H', At G H' ((l, oIs (.lst (xs.set j v))) :: L) → D.nx σ H') : tAsg te (gSub ta tb rSetL) D σ H := st_setL he ho hi (hl).is hj (qq _ ((hl).set rfl))
theorem q_setO2 {G : Hp} {L : Own} {q : Addr × OP} {l : Addr} {xs : List V} {u0 : TS} {ta tb : TE} {k : Int} {j : Nat} (he : Val te σ H v) (ho : Val ta σ H (.ref l)) (hi : Val tb σ H (.int k)) (hl : At G H (q :: (l, oIs (.lst xs)) :: L)) (hj : ixN xs.length k = some j)
    (qq : ∀ H', At G H' (q :: (l, oIs (.lst (xs.set j v))) :: L) → u0 D σ H') : tSeq (tAsg te (gSub ta tb rSetL)) u0 D σ H := q_setL he ho hi (hl.swap).is hj (qq _ ((hl.swap).set rfl).swap)
theorem st_setO2 {G : Hp} {L : Own} {q : Addr × OP} {l : Addr} {xs : List V} {ta tb : TE} {k : Int} {j : Nat} (he : Val te σ H v) (ho : Val ta σ H (.ref l)) (hi : Val tb σ H (.int k)) (hl : At G H (q :: (l, oIs (.lst xs)) :: L)) (hj : ixN xs.length k = some j)
    (qq : ∀ H', At G H' (q :: (l, oIs (.lst (xs.set j v))) :: L) → D.nx σ H') : tAsg te (gSub ta tb rSetL) D σ H := st_setL he ho hi (hl.swap).is hj (qq _ ((hl.swap).set rfl).swap)
theorem q_setO3 {G : Hp} {L : Own} {q r : Addr × OP} {l : Addr} {xs : List V} {u0 : TS} {ta tb : TE} {k : Int} {j : Nat} (he : Val te σ H v) (ho : Val ta σ H (.ref l)) (hi : Val tb σ H (.int k)) (hl : At G H (q :: r :: (l, oIs (.lst xs)) :: L)) (hj : ixN xs.length k = some j)
    (qq : ∀ H', At G H' (q :: r :: (l, oIs (.lst (xs.set j v))) :: L) → u0 D σ H') : tSeq (tAsg te (gSub ta tb rSetL)) u0 D σ H := q_setL he ho hi (hl.up3).is hj (qq _ ((hl.up3).set rfl).down3)
theorem st_setO3 {G : Hp} {L : Own} {q r : Addr × OP} {l : Addr} {xs : List V} {ta tb : TE} {k : Int} {j : Nat} (he : Val te σ H v) (ho : Val ta σ H (.ref l)) (hi : Val tb σ H (.int k)) (hl : At G H (q :: r :: (l, oIs (.lst xs)) :: L)) (hj : ixN xs.length k = some j)
    (qq : ∀ H', At G H' (q :: r :: (l, oIs (.lst (xs.set j v))) :: L) → D.nx σ H') : tAsg te (gSub ta tb rSetL) D σ H := st_setL he ho hi (hl.up3).is hj (qq _ ((hl.up3).set rfl).down3)
theorem q_setO4 {G : Hp} {L : Own} {q r t0 : Addr × OP} {l : Addr} {xs : List V} {u0 : TS} {ta tb : TE} {k : Int} {j : Nat} (he : Val te σ H v) (ho : Val ta σ H (.ref l)) (hi : Val tb σ H (.int k)) (hl : At G H (q :: r :: t0 :: (l, oIs (.lst xs)) :: L)) (hj : ixN xs.length k = some j)
    (qq : ∀ H', At G H' (q :: r :: t0 :: (l, oIs (.lst (xs.set j v))) :: L) → u0 D σ H') : tSeq (tAsg te (gSub ta tb rSetL)) u0 D σ H := q_setL he ho hi (hl.up4).is hj (qq _ ((hl.up4).set rfl).down4)
theorem st_setO4 {G : Hp} {L : Own} {q r t0 : Addr × OP} {l : Addr} {xs : List V} {ta tb : TE} {k : Int} {j : Nat} (he : Val te σ H v) (ho : Val ta σ H (.ref l)) (hi : Val tb σ H (.int k)) (hl : At G H (q :: r :: t0 :: (l, oIs (.lst xs)) :: L)) (hj : ixN xs.length k = some j)
    (qq : ∀ H', At G H' (q :: r :: t0 :: (l, oIs (.lst (xs.set j v))) :: L) → D.nx σ H') : tAsg te (gSub ta tb rSetL) D σ H := st_setL he ho hi (hl.up4).is hj (qq _ ((hl.up4).set rfl).down4)
theorem q_appO {G : Hp} {L : Own} {l : Addr} {xs : List V} {u0 : TS} {K : PySem.W.Frag} {ta : TE} (ho : Val ta σ H (.ref l)) (he : Val te σ H v) (hl : At G H ((l, oIs (.lst xs)) :: L)) (hz : xs.length < sizeLine)
    (qq : ∀ H', At G H' ((l, oIs (.lst (xs ++ [v]))) :: L) → u0 D σ H') : tSeq (tDrop (tBM K "list" rAppend ta (tCons te tNil))) u0 D σ H := q_app ho he (hl).is hz (qq _ ((hl).set rfl))
theorem st_appO {G : Hp} {L : Own} {l : Addr} {xs : List V} {K : PySem.W.Frag} {ta : TE} (ho : Val ta σ H (.ref l)) (he : Val te σ H v) (hl : At G H ((l, oIs (.lst xs)) :: L)) (hz : xs.length < sizeLine)
    (qq : ∀ H', At G H' ((l, oIs (.lst (xs ++ [v]))) :: L) → D.nx σ H') : tDrop (tBM K "list" rAppend ta (tCons te tNil)) D σ H := st_app ho he (hl).is hz (qq _ ((hl).set rfl))
theorem q_appO2 {G : Hp} {L : Own} {q : Addr × OP} {l : Addr} {xs : List V} {u0 : TS} {K : PySem.W.Frag} {ta : TE} (ho : Val ta σ H (.ref l)) (he : Val te σ H v) (hl : At G H (q :: (l, oIs (.lst xs)) :: L)) (hz : xs.length < sizeLine)
    (qq : ∀ H', At G H' (q :: (l, oIs (.lst (xs ++ [v]))) :: L) → u0 D σ H') : tSeq (tDrop (tBM K "list" rAppend ta (tCons te tNil))) u0 D σ H := q_app ho he (hl.swap).is hz (qq _ (At.swap ((hl.swap).set rfl)))
theorem st_appO2 {G : Hp} {L : Own} {q : Addr × OP} {l : Addr} {xs : List V} {K : PySem.W.Frag} {ta : TE} (ho : Val ta σ H (.ref l)) (he : Val te σ H v) (hl : At G H (q :: (l, oIs (.lst xs)) :: L)) (hz : xs.length < sizeLine)
    (qq : ∀ H', At G H' (q :: (l, oIs (.lst (xs ++ [v]))) :: L) → D.nx σ H') : tDrop (tBM K "list" rAppend ta (tCons te tNil)) D σ H := st_app ho he (hl.swap).is hz (qq _ (At.swap ((hl.swap).set rfl)))
theorem q_appO3 {G : Hp} {L : Own} {q r : Addr × OP} {l : Addr} {xs : List V} {u0 : TS} {K : PySem.W.Frag} {ta : TE} (ho : Val ta σ H (.ref l)) (he : Val te σ H v) (hl : At G H (q :: r :: (l, oIs (.lst xs)) :: L)) (hz : xs.length < sizeLine)
    (qq : ∀ H', At G H' (q :: r :: (l, oIs (.lst (xs ++ [v]))) :: L) → u0 D σ H') : tSeq (tDrop (tBM K "list" rAppend ta (tCons te tNil))) u0 D σ H := q_app ho he (hl.up3).is hz (qq _ (At.down3 ((hl.up3).set rfl)))
theorem st_appO3 {G : Hp} {L : Own} {q r : Addr × OP} {l : Addr} {xs : List V} {K : PySem.W.Frag} {ta : TE} (ho : Val ta σ H (.ref l)) (he : Val te σ H v) (hl : At G H (q :: r :: (l, oIs (.lst xs)) :: L)) (hz : xs.length < sizeLine)
    (qq : ∀ H', At G H' (q :: r :: (l, oIs (.lst (xs ++ [v]))) :: L) → D.nx σ H') : tDrop (tBM K "list" rAppend ta (tCons te tNil)) D σ H := st_app ho he (hl.up3).is hz (qq _ (At.down3 ((hl.up3).set rfl)))
theorem q_appO4 {G : Hp} {L : Own} {q r t0 : Addr × OP} {l : Addr} {xs : List V} {u0 : TS} {K : PySem.W.Frag} {ta : TE} (ho : Val ta σ H (.ref l)) (he : Val te σ H v) (hl : At G H (q :: r :: t0 :: (l, oIs (.lst xs)) :: L)) (hz : xs.length < sizeLine)
    (qq : ∀ H', At G H' (q :: r :: t0 :: (l, oIs (.lst (xs ++ [v]))) :: L) → u0 D σ H') : tSeq (tDrop (tBM K "list" rAppend ta (tCons te tNil))) u0 D σ H := q_app ho he (hl.up4).is hz (qq _ (At.down4 ((hl.up4).set rfl)))
theorem st_appO4 {G : Hp} {L : Own} {q r t0 : Addr × OP} {l : Addr} {xs : List V} {K : PySem.W.Frag} {ta : TE} (ho : Val ta σ H (.ref l)) (he : Val te σ H v) (hl : At G H (q :: r :: t0 :: (l, oIs (.lst xs)) :: L)) (hz : xs.length < sizeLine)
    (qq : ∀ H', At G H' (q :: r :: t0 :: (l, oIs (.lst (xs ++ [v]))) :: L) → D.nx σ H') : tDrop (tBM K "list" rAppend ta (tCons te tNil)) D σ H := st_app ho he (hl.up4).is hz (qq _ (At.down4 ((hl.up4).set rfl)))
theorem st_ret1 (h : Val te σ H v) (q : D.rt v H) : tRet te D σ H := h _ q
theorem seq_ {u t : TS} (q : t { D with nx := u D } σ H) : tSeq t u D σ H := q
theorem st_as (q : te σ H fun x H1 => D.nx (σ.set i (some x)) H1) : tAsg te (gName i) D σ H := q
end
end Co
/-! Texts: one sign in a text: its first place, how often. -/
namespace Co
open PySem L2 PySem.StrLaws PySem.Builtin.Str

theorem subAt_one (l : List Nat) (c i : Nat) : subAt (S l) (S [c]) i = true ↔ l[i]? = some c := by
  unfold subAt
  rw [beq_iff_eq]
  have hlen : (S [c]).length = 1 := rfl
  rw [hlen]
  show l.toArray.extract i (i + 1) = [c].toArray ↔ _
  constructor
  · intro h
    have h2 := congrArg Array.toList h
    rw [Array.toList_extract] at h2
    simp only [List.extract_eq_take_drop] at h2
    have h3 : (List.take (i + 1 - i) (List.drop i l)) = [c] := h2
    rw [show i + 1 - i = 1 by omega] at h3
    have h4 := congrArg (fun z : List Nat => z[0]?) h3
    simp only [List.getElem?_take_of_lt (Nat.zero_lt_one), List.getElem?_drop] at h4
    simpa using h4
  · intro h
    apply Array.ext'
    rw [Array.toList_extract]
    simp only [List.extract_eq_take_drop]
    show List.take (i + 1 - i) (List.drop i l) = [c]
    rw [show i + 1 - i = 1 by omega]
    obtain ⟨hi, e⟩ := List.getElem?_eq_some_iff.mp h
    rw [List.drop_eq_getElem_cons hi, List.take_succ_cons, List.take_zero, e]

theorem at_one (l : List Nat) (c i : Nat) : StrLaws.At (S l) (S [c]) (S l).length i ↔ l[i]? = some c := by
  unfold StrLaws.At
  rw [subAt_one, S_len, S_len, show [c].length = 1 from rfl]
  constructor
  · exact fun h => h.2
  · intro h
    obtain ⟨hi, _⟩ := List.getElem?_eq_some_iff.mp h
    exact ⟨by omega, h⟩

theorem idx_first {l : List Nat} {c i : Nat} (h : l[i]? = some c) (hn : ∀ k, k < i → l[k]? ≠ some c) : l.idxOf c = i := by
  induction l generalizing i with
  | nil => simp at h
  | cons a r ih =>
    cases i with
    | zero =>
      simp at h
      subst h
      exact List.idxOf_cons_self
    | succ j =>
      have ha : a ≠ c := fun e => hn 0 (by omega) (by simp [e])
      have hb : (a == c) = false := beq_eq_false_iff_ne.mpr ha
      rw [List.idxOf_cons, hb]
      have := ih (i := j) (by simpa using h) (fun k hk e => hn (k + 1) (by omega) (by simpa using e))
      rw [this]
      rfl

theorem index_one {l : List Nat} {c : Nat} (hc : c ∈ l) : ∃ rest, occurrences (S l) (S [c]) 0 (S l).length 1 = l.idxOf c :: rest := by
  rcases occ_head (S l) (S [c]) 1 (Nat.le_refl 1) with ⟨_, hn⟩ | ⟨i, r, e, ha, hn⟩
  · obtain ⟨i, hi⟩ := List.getElem?_of_mem hc
    exact absurd ((at_one l c i).mpr hi) (hn i)
  · refine ⟨r, ?_⟩
    rw [e, idx_first ((at_one l c i).mp ha) fun k hk z => hn k hk ((at_one l c k).mpr z)]

theorem val_index {K : PySem.W.Frag} {σ : L2.St} {H : Hp} {ta tb : TE} {l : List Nat} {c : Nat} (ha : Val ta σ H (.str (S l))) (hb : Val tb σ H (.str (S [c]))) (hc : c ∈ l) :
    Val (tBM K "str" (fun x xs H Q => ∃ a b i rest, x = .str a ∧ xs = [.str b] ∧ Builtin.Str.occurrences a b 0 a.length 1 = i :: rest ∧ Q (.int (i : Nat)) H) ta (tCons tb tNil)) σ H (.int (l.idxOf c : Nat)) := fun Q q => by
  obtain ⟨rest, e⟩ := index_one hc
  exact ha _ ⟨rfl, hb _ ⟨S l, S [c], _, rest, rfl, rfl, e, q⟩⟩

theorem count_chain {l : List Nat} {c : Nat} : ∀ (occ : List Nat) (a f : Nat), ChainG (S l) (S [c]) (S l).length a occ f → (∀ k, f ≤ k → ¬ StrLaws.At (S l) (S [c]) (S l).length k) → occ.length = (l.drop a).count c
  | [], a, f, h, hn => by
    have e : f = a := h
    subst e
    rw [List.length_nil]
    symm
    rw [List.count_eq_zero]
    intro hm
    obtain ⟨i, hi⟩ := List.getElem?_of_mem hm
    rw [List.getElem?_drop] at hi
    exact hn (f + i) (by omega) ((at_one l c _).mpr hi)
  | p :: r, a, f, h, hn => by
    obtain ⟨h1, h2, h3, h4⟩ := h
    have ih := count_chain r (p + 1) f h4 hn
    have hp := (at_one l c p).mp h2
    obtain ⟨hlt, hpe⟩ := List.getElem?_eq_some_iff.mp hp
    have e : l.drop a = (l.drop a).take (p - a) ++ l.drop p := by
      have := (List.take_append_drop (p - a) (l.drop a)).symm
      rw [List.drop_drop, show a + (p - a) = p by omega] at this
      exact this
    rw [e, List.count_append]
    have z : ((l.drop a).take (p - a)).count c = 0 := by
      rw [List.count_eq_zero]
      intro hm
      obtain ⟨i, hi⟩ := List.getElem?_of_mem hm
      have hlt2 : i < p - a := by
        have := (List.getElem?_eq_some_iff.mp hi).1
        rw [List.length_take] at this
        omega
      rw [List.getElem?_take_of_lt hlt2, List.getElem?_drop] at hi
      exact h3 (a + i) (by omega) (by omega) ((at_one l c _).mpr hi)
    rw [z, List.drop_eq_getElem_cons hlt, hpe, List.count_cons_self, List.length_cons, ih]
    omega
theorem count_one (l : List Nat) (c : Nat) : Txt.count (S l) (S [c]) = ((l.count c : Nat) : Int) := by
  obtain ⟨f, g, hn⟩ := occ_tight (S l) (S [c]) (Nat.le_refl 1)
  have e := count_chain _ 0 f g hn
  unfold Txt.count
  rw [e, List.drop_zero]
theorem val_count {σ : L2.St} {H : Hp} {ta tb : TE} {l : List Nat} {c : Nat} (ha : Val ta σ H (.str (S l))) (hb : Val tb σ H (.str (S [c]))) :
    Val (tM1 (fun x xs H Q => ∃ a b, x = .str a ∧ xs = [.str b] ∧ Q (.int (Txt.count a b)) H) ta tb) σ H (.int (l.count c : Nat)) := by
  rw [← count_one]
  exact val_countS ha hb

/-! ### signs sorted and joined -/
theorem perm_inv {α β : Type} {f : α → β} {g : β → α} (hg : ∀ x, g (f x) = x) {ys : List β} {xs : List α} (h : ys.Perm (xs.map f)) : ∃ zs : List α, zs.Perm xs ∧ ys = zs.map f := by
  refine ⟨ys.map g, ?_, ?_⟩
  · have h2 := h.map g
    rw [List.map_map] at h2
    have e : xs.map (g ∘ f) = xs := by
      rw [show (g ∘ f) = id from funext hg, List.map_id]
    rw [e] at h2
    exact h2
  · rw [List.map_map]
    have : ∀ y ∈ ys, (f ∘ g) y = y := fun y hy => by
      obtain ⟨x, _, rfl⟩ := List.mem_map.mp (h.mem_iff.mp hy)
      show f (g (f x)) = f x
      rw [hg]
    exact (List.map_id ys).symm.trans (List.map_congr_left fun y hy => (this y hy).symm)
theorem lt_one (a b : Nat) : PySem.Spec.ltCps [a] [b] = decide (a < b) := by
  unfold PySem.Spec.ltCps
  by_cases h : a < b
  · simp [h]
  · by_cases h2 : a = b
    · subst h2; simp [PySem.Spec.ltCps]
    · simp [h, h2]
theorem rising_signs : ∀ (cs : List Nat) (p : Nat), PyProof.Rows.risingS (S [p]) (cs.map fun c => S [c]) = true → (∀ c ∈ cs, p ≤ c) ∧ cs.Pairwise (· ≤ ·)
  | [], _, _ => ⟨fun _ h => by (cases h), List.Pairwise.nil⟩
  | c :: r, p, h => by
    have h' : (!PySem.Spec.ltCps [c] [p] && PyProof.Rows.risingS (S [c]) (r.map fun c => S [c])) = true := h
    rw [Bool.and_eq_true, lt_one] at h'
    obtain ⟨h1, h2⟩ := h'
    obtain ⟨a, b⟩ := rising_signs r c h2
    have hpc : p ≤ c := by simpa using h1
    refine ⟨fun x hx => ?_, List.pairwise_cons.mpr ⟨a, b⟩⟩
    rcases List.mem_cons.mp hx with rfl | hx
    · exact hpc
    · exact Nat.le_trans hpc (a x hx)
theorem sorted_signs {cs : List Nat} (h : PyProof.Rows.sortedS (cs.map fun c => S [c]) = true) : cs.Pairwise (· ≤ ·) := by
  cases cs with
  | nil => exact List.Pairwise.nil
  | cons c r =>
    obtain ⟨a, b⟩ := rising_signs r c h
    exact List.pairwise_cons.mpr ⟨a, b⟩
theorem join_signs (cs : List Nat) : Txt.join (Str.ofString "") (cs.map fun c => S [c]) = S cs := by
  rw [TL.join_eq]
  have key : ∀ cs : List Nat, Str.join (Str.ofString "") (cs.map fun c => S [c]) = S cs := by
    intro cs
    induction cs with
    | nil => rfl
    | cons c r ih =>
      cases r with
      | nil => rfl
      | cons d r =>
        show S [c] ++ Str.ofString "" ++ Str.join (Str.ofString "") ((d :: r).map fun c => S [c]) = _
        rw [ih, show Str.ofString "" = S [] by decide +kernel, S_app, S_app]
        rfl
  exact key cs
theorem join_fits (cs : List Nat) (h : cs.length ≤ 1000000) : ((cs.map fun c => S [c]).map fun x : Str => x.length).sum + (Str.ofString "").length * (cs.map fun c => S [c]).length ≤ 16777216 := by
  rw [show (Str.ofString "").length = 0 by decide +kernel, Nat.zero_mul, Nat.add_zero, List.map_map]
  have e : (cs.map ((fun x : Str => x.length) ∘ fun c => S [c])) = List.replicate cs.length 1 := by
    rw [List.eq_replicate_iff]
    refine ⟨List.length_map .., fun b hb => ?_⟩
    obtain ⟨c, _, rfl⟩ := List.mem_map.mp hb
    rfl
  rw [e, List.sum_replicate_nat]
  omega
theorem atI_of {α : Type} {xs : List α} {z : Int} {v : α} (h0 : 0 ≤ z) (h : xs[z.toNat]? = some v) : atI xs z = some v := by
  have := atI_nat h
  rwa [Int.toNat_of_nonneg h0] at this
theorem map_get {α β : Type} {f : α → β} {xs : List α} {i : Nat} {y : β} (h : (xs.map f)[i]? = some y) : ∃ x, xs[i]? = some x ∧ f x = y := by
  rw [List.getElem?_map] at h
  cases e : xs[i]? with
  | none => rw [e] at h; cases h
  | some x => rw [e] at h; exact ⟨x, rfl, Option.some.inj h⟩
/-! ### slices of texts -/
theorem cut_mid (l : List Nat) (i j : Nat) : cutS (S l) (some (i : Int)) (some (j : Int)) = S ((l.drop i).take (j - i)) := by
  unfold cutS
  rw [HT.sIx_nat, HT.sIx_nat, S_len, S_cps]
  show S _ = S _
  refine S_inj.mpr ?_
  rcases Nat.le_total i l.length with h | h
  · rw [Nat.min_eq_left h]
    rcases Nat.le_total j l.length with h2 | h2
    · rw [Nat.min_eq_left h2]
    · rw [Nat.min_eq_right h2, List.take_of_length_le (by rw [List.length_drop]; omega), List.take_of_length_le (by rw [List.length_drop]; omega)]
  · rw [Nat.min_eq_right h, List.drop_length, List.drop_of_length_le h, List.take_nil, List.take_nil]
theorem cut_take (l : List Nat) (j : Nat) : cutS (S l) none (some (j : Int)) = S (l.take j) := by
  unfold cutS
  rw [HT.sIx_none, HT.sIx_nat, S_len, S_cps]
  show S _ = S _
  refine S_inj.mpr ?_
  rw [List.drop_zero, Nat.sub_zero]
  rcases Nat.le_total j l.length with h2 | h2
  · rw [Nat.min_eq_left h2]
  · rw [Nat.min_eq_right h2, List.take_of_length_le (Nat.le_refl _), List.take_of_length_le h2]
theorem cut_drop (l : List Nat) (i : Nat) : cutS (S l) (some (i : Int)) none = S (l.drop i) := by
  unfold cutS
  rw [HT.sIx_none, HT.sIx_nat, S_len, S_cps]
  show S _ = S _
  refine S_inj.mpr ?_
  rcases Nat.le_total i l.length with h | h
  · rw [Nat.min_eq_left h, List.take_of_length_le (by rw [List.length_drop]; exact Nat.le_refl _)]
  · rw [Nat.min_eq_right h, List.drop_length, List.drop_of_length_le h, List.take_nil]
theorem cut_last (l : List Nat) : cutS (S l) none (some (-1)) = S l.dropLast := by
  unfold cutS
  rw [HT.sIx_none, S_len, S_cps]
  show S _ = S _
  refine S_inj.mpr ?_
  rw [List.drop_zero, Nat.sub_zero, List.dropLast_eq_take]
  congr 1
  show (if (-1 : Int) < 0 then ((-1 : Int) + (l.length : Int)).toNat else min (-1 : Int).toNat l.length) = _
  rw [if_pos (by decide)]
  omega
section
variable {σ : L2.St} {H : Hp} {te ta tb : TE} {l : List Nat}
theorem val_slMid {i j : Nat} (h : Val te σ H (.str (S l))) (ha : Val ta σ H (.int i)) (hb : Val tb σ H (.int j)) (hz : l.length ≤ sizeLine) : Val (tSl rSlS te (tPart ta) (tPart tb)) σ H (.str (S ((l.drop i).take (j - i)))) := fun Q q =>
  h _ (ha _ ⟨_, rfl, hb _ ⟨_, rfl, S l, rfl, by rw [S_len]; exact hz, by rw [cut_mid]; exact q⟩⟩)
theorem val_slTake {j : Nat} (h : Val te σ H (.str (S l))) (hb : Val tb σ H (.int j)) (hz : l.length ≤ sizeLine) : Val (tSl rSlS te tNoPart (tPart tb)) σ H (.str (S (l.take j))) := fun Q q =>
  h _ (hb _ ⟨_, rfl, S l, rfl, by rw [S_len]; exact hz, by rw [cut_take]; exact q⟩)
theorem val_slDrop {i : Nat} (h : Val te σ H (.str (S l))) (ha : Val ta σ H (.int i)) (hz : l.length ≤ sizeLine) : Val (tSl rSlS te (tPart ta) tNoPart) σ H (.str (S (l.drop i))) := fun Q q =>
  h _ (ha _ ⟨_, rfl, S l, rfl, by rw [S_len]; exact hz, by rw [cut_drop]; exact q⟩)
theorem val_slLast (h : Val te σ H (.str (S l))) (hb : Val tb σ H (.int (-1))) (hz : l.length ≤ sizeLine) : Val (tSl rSlS te tNoPart (tPart tb)) σ H (.str (S l.dropLast)) := fun Q q =>
  h _ (hb _ ⟨_, rfl, S l, rfl, by rw [S_len]; exact hz, by rw [cut_last]; exact q⟩)
end
theorem asc_of {cs : List Nat} (h : cs.Pairwise (· ≤ ·)) (hn : cs.Nodup) : cs.Pairwise (· < ·) := by
  have := h.and hn
  exact this.imp fun ⟨a, b⟩ => Nat.lt_of_le_of_ne a b
/-! ### flat things in lists -/
theorem all_flat {α : Type} {f : α → V} (hf : ∀ x, flatV (f x) = true) (l : List α) : (l.map f).all flatV = true := by
  rw [List.all_eq_true]
  intro x hx
  obtain ⟨y, _, rfl⟩ := List.mem_map.mp hx
  exact hf y
theorem inV_sign (c : Nat) (cs : List Nat) : inV (.str (S [c])) (cs.map fun c => V.str (S [c])) = decide (c ∈ cs) := by
  unfold inV
  rw [List.any_map, Bool.eq_iff_iff, List.any_eq_true, decide_eq_true_iff]
  constructor
  · rintro ⟨d, hd, e⟩
    have e2 : (S [d] == S [c]) = true := e
    have e3 := S_inj.mp (beq_iff_eq.mp e2)
    have e4 : d = c := by simpa using e3
    rw [← e4]; exact hd
  · exact fun h => ⟨c, h, show (S [c] == S [c]) = true from beq_self_eq_true _⟩
theorem inV_word (w : List Nat) (ws : List (List Nat)) : inV (.str (S w)) (ws.map fun w => V.str (S w)) = decide (w ∈ ws) := by
  unfold inV
  rw [List.any_map, Bool.eq_iff_iff, List.any_eq_true, decide_eq_true_iff]
  constructor
  · rintro ⟨d, hd, e⟩
    have e2 : (S d == S w) = true := e
    rw [← S_inj.mp (beq_iff_eq.mp e2)]; exact hd
  · exact fun h => ⟨w, h, show (S w == S w) = true from beq_self_eq_true _⟩
theorem inV_int (i : Int) (is : List Int) : inV (.int i) (is.map V.int) = decide (i ∈ is) := by
  unfold inV
  rw [List.any_map, Bool.eq_iff_iff, List.any_eq_true, decide_eq_true_iff]
  constructor
  · rintro ⟨d, hd, e⟩
    have e2 : (d == i) = true := e
    rw [← beq_iff_eq.mp e2]; exact hd
  · exact fun h => ⟨i, h, show (i == i) = true from beq_self_eq_true _⟩
end Co
/-! Loops over ranges, texts, lists, by a word about (turn, slots, heap). -/
namespace Co
open PySem L2
section
variable {K : PySem.W.Frag} {σ : L2.St} {H : Hp} {D : Ends} {tb u : TS} {te : TE} {ta : TA} {j : Nat} {g : TG}
/-- what a range's turns ask -/
theorem rng_ {n : Int} {R : It → Hp → Prop} (hb : -(2 ^ 62) ≤ n ∧ n < 2 ^ 62) (q : R (Itr 0 n.toNat) H) : ∃ k : Int, [V.int n] = [V.int k] ∧ -(2 ^ 62) ≤ k ∧ k < 2 ^ 62 ∧ R (Itr 0 k.toNat) H := ⟨n, rfl, hb.1, hb.2, q⟩
theorem forR_ {n : Nat} (Pv : Nat → L2.St → Hp → Prop) (h0 : Pv 0 σ H)
    (hs : ∀ i σ H, i < n → Pv i σ H → tb { D with nx := Pv (i + 1), ct := Pv (i + 1), bk := D.nx } (σ.set j (some (.int (i : Nat)))) H) (hd : ∀ σ H, Pv n σ H → D.nx σ H) :
    ∃ W : Nat → Nat → L2.St → Hp → Prop, (∃ m, W 0 m σ H) ∧ ∀ i m σ H, W i m σ H →
      ((Itr 0 n).stop i H ∧ D.nx σ H) ∨ ((Itr 0 n).go i H ∧ ∃ N : L2.St → Hp → Prop, (∀ σ' H', N σ' H' → ∃ m', m' < m ∧ W (i + 1) m' σ' H') ∧ ∀ x H', (Itr 0 n).yld i H x H' → gName j x σ H' fun σ2 H2 => tb { D with nx := N, ct := N, bk := D.nx } σ2 H2) :=
  for_range (lo := 0) (n := n) Pv h0 (fun i σ H hi hp => by
    show tb _ (σ.set j (some (.int (0 + (i : Int))))) H
    rw [Int.zero_add]
    exact hs i σ H hi hp) hd
theorem st_forR {n : Int} (ha : AVal ta σ H [.int n]) (hb : -(2 ^ 62) ≤ n ∧ n < 2 ^ 62) (Pv : Nat → L2.St → Hp → Prop) (h0 : Pv 0 σ H)
    (hs : ∀ (i : Nat) σ H, (i : Int) < n → Pv i σ H → tb { D with nx := Pv (i + 1), ct := Pv (i + 1), bk := D.nx } (σ.set j (some (.int (i : Nat)))) H) (hd : ∀ σ H, Pv n.toNat σ H → D.nx σ H) : tFor (iRng1 ta) (gName j) tb D σ H :=
  ha _ ⟨n, rfl, hb.1, hb.2, forR_ Pv h0 (fun i σ H hi => hs i σ H (by omega)) hd⟩
theorem q_forR {n : Int} (ha : AVal ta σ H [.int n]) (hb : -(2 ^ 62) ≤ n ∧ n < 2 ^ 62) (Pv : Nat → L2.St → Hp → Prop) (h0 : Pv 0 σ H)
    (hs : ∀ (i : Nat) σ H, (i : Int) < n → Pv i σ H → tb { D with nx := Pv (i + 1), ct := Pv (i + 1), bk := u D } (σ.set j (some (.int (i : Nat)))) H) (hd : ∀ σ H, Pv n.toNat σ H → u D σ H) : tSeq (tFor (iRng1 ta) (gName j) tb) u D σ H :=
  st_forR (D := { D with nx := u D }) ha hb Pv h0 hs hd
/-- a text, sign by sign -/
theorem forS_ {l : List Nat} (Pv : Nat → L2.St → Hp → Prop) (h0 : Pv 0 σ H)
    (hs : ∀ i c σ H, l[i]? = some c → Pv i σ H → tb { D with nx := Pv (i + 1), ct := Pv (i + 1), bk := D.nx } (σ.set j (some (.str (S [c])))) H) (hd : ∀ σ H, Pv l.length σ H → D.nx σ H) :
    ∃ W : Nat → Nat → L2.St → Hp → Prop, (∃ m, W 0 m σ H) ∧ ∀ i m σ H, W i m σ H →
      ((Its (S l)).stop i H ∧ D.nx σ H) ∨ ((Its (S l)).go i H ∧ ∃ N : L2.St → Hp → Prop, (∀ σ' H', N σ' H' → ∃ m', m' < m ∧ W (i + 1) m' σ' H') ∧ ∀ x H', (Its (S l)).yld i H x H' → gName j x σ H' fun σ2 H2 => tb { D with nx := N, ct := N, bk := D.nx } σ2 H2) := by
  have hsz : (S l).cps.size = l.length := rfl
  refine ⟨fun i m σ H => m = l.length - i ∧ i ≤ l.length ∧ Pv i σ H, ⟨l.length, by simp, Nat.zero_le _, h0⟩, ?_⟩
  rintro i m σ H ⟨rfl, hi, p⟩
  by_cases hlt : i < l.length
  · refine .inr ⟨by show i < (S l).cps.size; rw [hsz]; exact hlt, Pv (i + 1), fun σ' H' p' => ⟨l.length - (i + 1), by omega, rfl, hlt, p'⟩, ?_⟩
    rintro x H' ⟨rfl, c, hc, rfl⟩
    have hc' : l[i]? = some c := by
      have : (S l).cps[i]? = l[i]? := by simp [S]
      rw [← this]; exact hc
    exact hs i c σ H' hc' p
  · have e : i = l.length := by omega
    subst e
    exact .inl ⟨by show (S l).cps.size ≤ _; rw [hsz]; exact Nat.le_refl _, hd σ H p⟩
theorem st_forS {l : List Nat} (h : Val te σ H (.str (S l))) (Pv : Nat → L2.St → Hp → Prop) (h0 : Pv 0 σ H)
    (hs : ∀ i c σ H, l[i]? = some c → Pv i σ H → tb { D with nx := Pv (i + 1), ct := Pv (i + 1), bk := D.nx } (σ.set j (some (.str (S [c])))) H) (hd : ∀ σ H, Pv l.length σ H → D.nx σ H) : tFor (iStr te) (gName j) tb D σ H :=
  h _ ⟨S l, rfl, forS_ Pv h0 hs hd⟩
theorem q_forS {l : List Nat} (h : Val te σ H (.str (S l))) (Pv : Nat → L2.St → Hp → Prop) (h0 : Pv 0 σ H)
    (hs : ∀ i c σ H, l[i]? = some c → Pv i σ H → tb { D with nx := Pv (i + 1), ct := Pv (i + 1), bk := u D } (σ.set j (some (.str (S [c])))) H) (hd : ∀ σ H, Pv l.length σ H → u D σ H) : tSeq (tFor (iStr te) (gName j) tb) u D σ H :=
  st_forS (D := { D with nx := u D }) h Pv h0 hs hd
/-- a list that stands still, any target -/
theorem st_forL {a : Addr} {xs : List V} (h : Val te σ H (.ref a)) (hx : SqL K H a xs) (Pv : Nat → L2.St → Hp → Prop) (h0 : Pv 0 σ H) (hl : ∀ i σ H, Pv i σ H → SqL K H a xs)
    (hs : ∀ i x σ H, xs[i]? = some x → Pv i σ H → g x σ H fun σ2 H2 => tb { D with nx := Pv (i + 1), ct := Pv (i + 1), bk := D.nx } σ2 H2) (hd : ∀ σ H, Pv xs.length σ H → D.nx σ H) : tFor (iList K te) g tb D σ H :=
  h _ ⟨a, rfl, ⟨xs, hx⟩, for_list Pv h0 (fun i σ H _ p => hl i σ H p) hs hd⟩
theorem q_forL {a : Addr} {xs : List V} (h : Val te σ H (.ref a)) (hx : SqL K H a xs) (Pv : Nat → L2.St → Hp → Prop) (h0 : Pv 0 σ H) (hl : ∀ i σ H, Pv i σ H → SqL K H a xs)
    (hs : ∀ i x σ H, xs[i]? = some x → Pv i σ H → g x σ H fun σ2 H2 => tb { D with nx := Pv (i + 1), ct := Pv (i + 1), bk := u D } σ2 H2) (hd : ∀ σ H, Pv xs.length σ H → u D σ H) : tSeq (tFor (iList K te) g tb) u D σ H :=
  st_forL (D := { D with nx := u D }) h hx Pv h0 hl hs hd
theorem st_forT {a : Addr} {xs : List V} (h : Val te σ H (.ref a)) (hx : SqT K H a xs) (Pv : Nat → L2.St → Hp → Prop) (h0 : Pv 0 σ H) (hl : ∀ i σ H, Pv i σ H → SqT K H a xs)
    (hs : ∀ i x σ H, xs[i]? = some x → Pv i σ H → g x σ H fun σ2 H2 => tb { D with nx := Pv (i + 1), ct := Pv (i + 1), bk := D.nx } σ2 H2) (hd : ∀ σ H, Pv xs.length σ H → D.nx σ H) : tFor (iTup K te) g tb D σ H :=
  h _ ⟨a, rfl, ⟨xs, hx⟩, for_tup Pv h0 (fun i σ H _ p => hl i σ H p) hs hd⟩
theorem q_forT {a : Addr} {xs : List V} (h : Val te σ H (.ref a)) (hx : SqT K H a xs) (Pv : Nat → L2.St → Hp → Prop) (h0 : Pv 0 σ H) (hl : ∀ i σ H, Pv i σ H → SqT K H a xs)
    (hs : ∀ i x σ H, xs[i]? = some x → Pv i σ H → g x σ H fun σ2 H2 => tb { D with nx := Pv (i + 1), ct := Pv (i + 1), bk := u D } σ2 H2) (hd : ∀ σ H, Pv xs.length σ H → u D σ H) : tSeq (tFor (iTup K te) g tb) u D σ H :=
  st_forT (D := { D with nx := u D }) h hx Pv h0 hl hs hd
/-- the parts of a for, of arguments, one layer each -/
def forK (g : TG) (tb : TS) (D : Ends) (σ : L2.St) (J : It) (H1 : Hp) : Prop := ∃ W : Nat → Nat → L2.St → Hp → Prop, (∃ m, W 0 m σ H1) ∧ ∀ i m σ H, W i m σ H →
  (J.stop i H ∧ D.nx σ H) ∨ (J.go i H ∧ ∃ N : L2.St → Hp → Prop, (∀ σ' H', N σ' H' → ∃ m', m' < m ∧ W (i + 1) m' σ' H') ∧ ∀ x H', J.yld i H x H' → g x σ H' fun σ2 H2 => tb { D with nx := N, ct := N, bk := D.nx } σ2 H2)
theorem q_forRx (q : te σ H fun x H1 => ∃ k : Int, [x] = [V.int k] ∧ -(2 ^ 62) ≤ k ∧ k < 2 ^ 62 ∧ forK g tb { D with nx := u D } σ (Itr 0 k.toNat) H1) : tSeq (tFor (iRng1 (tCons te tNil)) g tb) u D σ H := q
theorem st_forRx (q : te σ H fun x H1 => ∃ k : Int, [x] = [V.int k] ∧ -(2 ^ 62) ≤ k ∧ k < 2 ^ 62 ∧ forK g tb D σ (Itr 0 k.toNat) H1) : tFor (iRng1 (tCons te tNil)) g tb D σ H := q
theorem q_forLx (q : te σ H fun x H1 => ∃ a, x = .ref a ∧ (∃ xs, SqL K H1 a xs) ∧ forK g tb { D with nx := u D } σ (Itl K a) H1) : tSeq (tFor (iList K te) g tb) u D σ H := q
theorem st_forLx (q : te σ H fun x H1 => ∃ a, x = .ref a ∧ (∃ xs, SqL K H1 a xs) ∧ forK g tb D σ (Itl K a) H1) : tFor (iList K te) g tb D σ H := q
theorem forK_R {n : Nat} (Pv : Nat → L2.St → Hp → Prop) (h0 : Pv 0 σ H)
    (hs : ∀ i σ H, i < n → Pv i σ H → tb { D with nx := Pv (i + 1), ct := Pv (i + 1), bk := D.nx } (σ.set j (some (.int (i : Nat)))) H) (hd : ∀ σ H, Pv n σ H → D.nx σ H) : forK (gName j) tb D σ (Itr 0 n) H := forR_ Pv h0 hs hd
theorem forK_L {a : Addr} {xs : List V} (Pv : Nat → L2.St → Hp → Prop) (h0 : Pv 0 σ H) (hl : ∀ i σ H, Pv i σ H → SqL K H a xs)
    (hs : ∀ i x σ H, xs[i]? = some x → Pv i σ H → g x σ H fun σ2 H2 => tb { D with nx := Pv (i + 1), ct := Pv (i + 1), bk := D.nx } σ2 H2) (hd : ∀ σ H, Pv xs.length σ H → D.nx σ H) : forK g tb D σ (Itl K a) H := for_list Pv h0 (fun i σ H _ p => hl i σ H p) hs hd
section
variable {ra : TA} {sp : Sp} {E : XK} {Q : VK} {QA : List V → Hp → Prop} {r : List V → Hp → VK → Prop} {t : TA}
theorem var_ {i : Nat} {v : V} (h : σ[i]? = some (some v)) (q : Q v H) : tVar i σ H Q := ⟨v, h, q⟩
theorem c_ {v : V} (q : Q v H) : tC v σ H Q := q
theorem acons_ (q : te σ H fun x H1 => ra σ H1 fun xs H2 => QA (x :: xs) H2) : tCons te ra σ H QA := q
theorem anil_ (q : QA [] H) : tNil σ H QA := q
theorem aval_ {vs : List V} (h : AVal ra σ H vs) (q : QA vs H) : ra σ H QA := h _ q
theorem callx_ (q : t σ H fun vs H1 => sp (vs ++ []) H1 Q E) : tCall sp [] E t σ H Q := q
theorem cb_ (q : t σ H fun vs H1 => r vs H1 Q) : tCB r t σ H Q := q
theorem lst_ (q : t σ H fun xs H1 => xs.length ≤ sizeLine ∧ ∀ p, H1 p = none → Q (.ref p) (upd H1 p (.lst xs))) : tLst t σ H Q := q
theorem tup_ (q : t σ H fun xs H1 => xs.length ≤ sizeLine ∧ ∀ p, H1 p = none → Q (.ref p) (upd H1 p (.tup xs))) : tTup t σ H Q := q
theorem op_ {rr : R2} {ta tb' : TE} (q : ta σ H fun x H1 => tb' σ H1 fun y H2 => rr x y H2 Q) : tOp rr ta tb' σ H Q := q
theorem m1_ {rr : V → List V → Hp → VK → Prop} {to' : TE} (q : to' σ H fun x H1 => (∃ a, x = .str a) ∧ te σ H1 fun y H2 => rr x [y] H2 Q) : tM1 rr to' te σ H Q := q
theorem ret_ (q : te σ H D.rt) : tRet te D σ H := q
end
/-- constants of the module -/
theorem pe_gint {X : Cx} {x : Str} {i : Int} {pos : Pos} (hm : ∃ t, X.mg x = some (.int i t)) (hg : Gl X x := by rfl) (hd : (x == ("__debug__" : Str)) = false := by decide) : PE X (.Name x pos) (tC (.int i)) := by
  obtain ⟨t, e⟩ := hm
  exact pe_glob hg e ⟨t, rfl⟩ hd
theorem pe_gstr {X : Cx} {x : Str} {z : Str} {pos : Pos} (hm : ∃ t, X.mg x = some (.str z t)) (hg : Gl X x := by rfl) (hd : (x == ("__debug__" : Str)) = false := by decide) : PE X (.Name x pos) (tC (.str z)) := by
  obtain ⟨t, e⟩ := hm
  exact pe_glob hg e ⟨t, rfl⟩ hd
/-- a comprehension over a range, its words one layer each -/
theorem lcRx_ {tt : TT} {tel : TE} {vs : List Nat} {Q : VK} (q : te σ H fun x H1 => ∃ k : Int, [x] = [V.int k] ∧ -(2 ^ 62) ≤ k ∧ k < 2 ^ 62 ∧ ∀ D, H1 D = none → ∃ W : Nat → Nat → Hp → Prop, (∃ m, W 0 m (upd H1 D (.lst []))) ∧ ∀ i m H, W i m H →
  ((Itr 0 k.toNat).stop i H ∧ Q (.ref D) H) ∨ ((Itr 0 k.toNat).go i H ∧ ∃ Nx : Hp → Prop, (∀ H', Nx H' → ∃ m', m' < m ∧ W (i + 1) m' H') ∧ ∀ x H', (Itr 0 k.toNat).yld i H x H' → g x (wipe σ vs) H' fun σ2 H2 => wipe σ2 vs = wipe σ vs ∧ tt σ2 H2 fun b H3 =>
    if b = true then tel σ2 H3 fun y H4 => ∃ acc, H4 D = some (.lst acc) ∧ acc.length < sizeLine ∧ Nx (upd H4 D (.lst (acc ++ [y]))) else Nx H3)) : tLc (iRng1 (tCons te tNil)) g tt tel vs σ H Q := q
/-- a new list of each turn's value over range(n), all turns kept -/
theorem lcR_ {tel : TE} {vs : List Nat} {Q : VK} {n : Nat} (Pv : Addr → Nat → Hp → Prop) (h0 : ∀ D, H D = none → Pv D 0 (upd H D (.lst [])))
    (hs : ∀ D i H1, i < n → Pv D i H1 → wipe ((wipe σ vs).set j (some (.int (i : Nat)))) vs = wipe σ vs ∧ tel ((wipe σ vs).set j (some (.int (i : Nat)))) H1 fun y H4 => ∃ acc, H4 D = some (.lst acc) ∧ acc.length < sizeLine ∧ Pv D (i + 1) (upd H4 D (.lst (acc ++ [y]))))
    (hd : ∀ D H1, Pv D n H1 → Q (.ref D) H1) : ∀ D, H D = none → ∃ W : Nat → Nat → Hp → Prop, (∃ m, W 0 m (upd H D (.lst []))) ∧ ∀ i m H, W i m H →
  ((Itr 0 n).stop i H ∧ Q (.ref D) H) ∨ ((Itr 0 n).go i H ∧ ∃ Nx : Hp → Prop, (∀ H', Nx H' → ∃ m', m' < m ∧ W (i + 1) m' H') ∧ ∀ x H', (Itr 0 n).yld i H x H' → gName j x (wipe σ vs) H' fun σ2 H2 => wipe σ2 vs = wipe σ vs ∧ tYes σ2 H2 fun b H3 =>
    if b = true then tel σ2 H3 fun y H4 => ∃ acc, H4 D = some (.lst acc) ∧ acc.length < sizeLine ∧ Nx (upd H4 D (.lst (acc ++ [y]))) else Nx H3) := fun D hD =>
  lc_range (lo := 0) (n := n) (Pv D) (h0 D hD) (fun i H1 hi p => by
    obtain ⟨e1, e2⟩ := hs D i H1 hi p
    rw [Int.zero_add]
    refine And.intro e1 ?_
    show (if true = true then tel ((wipe σ vs).set j (some (.int (i : Int)))) H1 fun y H4 => ∃ acc, H4 D = some (.lst acc) ∧ acc.length < sizeLine ∧ Pv D (i + 1) (upd H4 D (.lst (acc ++ [y]))) else Pv D (i + 1) H1)
    exact iteT e2) (hd D)
/-- a comprehension over a list of flat things, each told by a function -/
theorem lcL_ {a : Addr} {xs : List V} {tt : TT} {tel : TE} {vs : List Nat} {H1 : Hp} {Q : VK} (Pv : Addr → Nat → Hp → Prop)
    (h0 : ∀ D, H1 D = none → Pv D 0 (upd H1 D (.lst []))) (hl : ∀ D i H, Pv D i H → SqL K H a xs)
    (hs : ∀ D i x H, xs[i]? = some x → Pv D i H → g x (wipe σ vs) H fun σ2 H2 => wipe σ2 vs = wipe σ vs ∧ tt σ2 H2 fun b H3 =>
      if b = true then tel σ2 H3 fun y H4 => ∃ acc, H4 D = some (.lst acc) ∧ acc.length < sizeLine ∧ Pv D (i + 1) (upd H4 D (.lst (acc ++ [y]))) else Pv D (i + 1) H3)
    (hd : ∀ D H, Pv D xs.length H → Q (.ref D) H) (h : Val te σ H1 (.ref a)) (hx : SqL K H1 a xs) : tLc (iList K te) g tt tel vs σ H1 Q :=
  h _ ⟨a, rfl, ⟨xs, hx⟩, fun D hD => lc_list (xs := xs) (Pv D) (h0 D hD) (fun i H _ p => hl D i H p) (hs D) (hd D)⟩
/-- the same from the range's value -/
theorem lcR {tel : TE} {vs : List Nat} {Q : VK} {z : Int} (h : Val te σ H (.int z)) (hb : -(2 ^ 62) ≤ z ∧ z < 2 ^ 62) (Pv : Addr → Nat → Hp → Prop) (h0 : ∀ D, H D = none → Pv D 0 (upd H D (.lst [])))
    (hs : ∀ D (i : Nat) H1, (i : Int) < z → Pv D i H1 → wipe ((wipe σ vs).set j (some (.int (i : Nat)))) vs = wipe σ vs ∧ tel ((wipe σ vs).set j (some (.int (i : Nat)))) H1 fun y H4 => ∃ acc, H4 D = some (.lst acc) ∧ acc.length < sizeLine ∧ Pv D (i + 1) (upd H4 D (.lst (acc ++ [y]))))
    (hd : ∀ D H1, Pv D z.toNat H1 → Q (.ref D) H1) : tLc (iRng1 (tCons te tNil)) (gName j) tYes tel vs σ H Q :=
  h _ ⟨z, rfl, hb.1, hb.2, lcR_ Pv h0 (fun D i H1 hi => hs D i H1 (by omega)) hd⟩
/-- a comprehension over a text's signs -/
theorem lcS {tt : TT} {tel : TE} {vs : List Nat} {Q : VK} {l : List Nat} (h : Val te σ H (.str (S l))) (Pv : Addr → Nat → Hp → Prop) (h0 : ∀ D, H D = none → Pv D 0 (upd H D (.lst [])))
    (hs : ∀ D i c H, l[i]? = some c → Pv D i H → gName j (.str (S [c])) (wipe σ vs) H fun σ2 H2 => wipe σ2 vs = wipe σ vs ∧ tt σ2 H2 fun b H3 =>
      if b = true then tel σ2 H3 fun y H4 => ∃ acc, H4 D = some (.lst acc) ∧ acc.length < sizeLine ∧ Pv D (i + 1) (upd H4 D (.lst (acc ++ [y]))) else Pv D (i + 1) H3)
    (hd : ∀ D H, Pv D l.length H → Q (.ref D) H) : tLc (iStr te) (gName j) tt tel vs σ H Q := by
  refine h _ ⟨S l, rfl, fun D hD => ?_⟩
  have hsz : (S l).cps.size = l.length := rfl
  refine ⟨fun i m H => m = l.length - i ∧ i ≤ l.length ∧ Pv D i H, ⟨l.length, by simp, Nat.zero_le _, h0 D hD⟩, ?_⟩
  rintro i m H ⟨rfl, hi, p⟩
  by_cases hlt : i < l.length
  · refine .inr ⟨by show i < (S l).cps.size; rw [hsz]; exact hlt, Pv D (i + 1), fun H' p' => ⟨l.length - (i + 1), by omega, rfl, hlt, p'⟩, ?_⟩
    rintro x H' ⟨rfl, c, hc, rfl⟩
    have hc' : l[i]? = some c := by
      have : (S l).cps[i]? = l[i]? := by simp [S]
      rw [← this]; exact hc
    exact hs D i c _ hc' p
  · have e : i = l.length := by omega
    subst e
    exact .inl ⟨by show (S l).cps.size ≤ _; rw [hsz]; exact Nat.le_refl _, hd D H p⟩
/-- two fors in a comprehension: over a list, then over a text that does not change -/
theorem lc2LS {a : Addr} {xs : List V} {l : List Nat} {te1 tel : TE} {vs vs1 : List Nat} {Q : VK} {j1 j2 : Nat} (h : Val te σ H (.ref a)) (hx : SqL K H a xs) (Pv : Addr → Nat → Nat → Hp → Prop) (h0 : ∀ D, H D = none → Pv D 0 0 (upd H D (.lst []))) (hl : ∀ D i H, Pv D i 0 H → SqL K H a xs)
    (hin : ∀ D i x H, xs[i]? = some x → Pv D i 0 H → wipe ((wipe σ vs).set j1 (some x)) vs = wipe σ vs ∧ Val te1 ((wipe σ vs).set j1 (some x)) H (.str (S l)))
    (hs : ∀ D i j x c H, xs[i]? = some x → l[j]? = some c → Pv D i j H → wipe ((wipe ((wipe σ vs).set j1 (some x)) vs1).set j2 (some (.str (S [c])))) vs1 = wipe ((wipe σ vs).set j1 (some x)) vs1 ∧
      tel ((wipe ((wipe σ vs).set j1 (some x)) vs1).set j2 (some (.str (S [c])))) H fun y H4 => ∃ acc, H4 D = some (.lst acc) ∧ acc.length < sizeLine ∧ Pv D i (j + 1) (upd H4 D (.lst (acc ++ [y]))))
    (hr : ∀ D i H, i < xs.length → Pv D i l.length H → Pv D (i + 1) 0 H) (hd : ∀ D H, Pv D xs.length 0 H → Q (.ref D) H) :
    tLc2 (iList K te) (gName j1) tYes (iStr te1) (gName j2) tYes tel vs vs1 σ H Q := by
  refine h _ ⟨a, rfl, ⟨xs, hx⟩, fun D hD => ?_⟩
  have hsz : (S l).cps.size = l.length := rfl
  refine ⟨fun i m H => m = xs.length - i ∧ i ≤ xs.length ∧ Pv D i 0 H, ⟨xs.length, by simp, Nat.zero_le _, h0 D hD⟩, ?_⟩
  rintro i m H ⟨rfl, hi, p⟩
  have q := hl D i H p
  by_cases hlt : i < xs.length
  · refine .inr ⟨⟨xs, xs[i], q, by simp [hlt]⟩, Pv D (i + 1) 0, fun H' p' => ⟨xs.length - (i + 1), by omega, rfl, hlt, p'⟩, fun x H' y => ?_⟩
    obtain ⟨e, y⟩ := y
    subst e
    have hxi := y xs q
    obtain ⟨e1, e2⟩ := hin D i x _ hxi p
    refine And.intro e1 ?_
    refine iteT (B := Pv D (i + 1) 0 H') (e2 _ ⟨S l, rfl, ?_⟩)
    refine ⟨fun j k H => k = l.length - j ∧ j ≤ l.length ∧ Pv D i j H, ⟨l.length, by simp, Nat.zero_le _, p⟩, ?_⟩
    rintro j k H ⟨rfl, hj, p⟩
    by_cases hlj : j < l.length
    · refine .inr ⟨by show j < (S l).cps.size; rw [hsz]; exact hlj, Pv D i (j + 1), fun H' p' => ⟨l.length - (j + 1), by omega, rfl, hlj, p'⟩, ?_⟩
      rintro z H' ⟨rfl, c, hc, rfl⟩
      have hc' : l[j]? = some c := by
        have : (S l).cps[j]? = l[j]? := by simp [S]
        rw [← this]; exact hc
      obtain ⟨k1, k2⟩ := hs D i j x c _ hxi hc' p
      exact And.intro k1 (iteT (B := Pv D i (j + 1) H') k2)
    · have e : j = l.length := by omega
      subst e
      exact .inl ⟨by show (S l).cps.size ≤ _; rw [hsz]; exact Nat.le_refl _, hr D i H hlt p⟩
  · have e : i = xs.length := by omega
    subst e
    exact .inl ⟨⟨xs, q, Nat.le_refl _⟩, hd D H p⟩
theorem st_while {c : TT} (Pv : Nat → L2.St → Hp → Prop) (n : Nat) (h0 : Pv n σ H)
    (h : ∀ m σ H, Pv m σ H → (Ans c σ H false ∧ D.nx σ H) ∨ (∃ k, k < m ∧ Ans c σ H true ∧ tb { D with nx := Pv k, ct := Pv k, bk := D.nx } σ H)) : tWhile c tb D σ H := by
  refine ⟨Pv, ⟨n, h0⟩, fun m σ H p => ?_⟩
  rcases h m σ H p with ⟨h1, h2⟩ | ⟨k, hk, h1, h2⟩
  · exact h1 _ (iteF h2)
  · exact h1 _ (iteT ⟨Pv k, fun σ' H' q => ⟨k, hk, q⟩, h2⟩)
theorem q_while {c : TT} (Pv : Nat → L2.St → Hp → Prop) (n : Nat) (h0 : Pv n σ H)
    (h : ∀ m σ H, Pv m σ H → (Ans c σ H false ∧ u D σ H) ∨ (∃ k, k < m ∧ Ans c σ H true ∧ tb { D with nx := Pv k, ct := Pv k, bk := u D } σ H)) : tSeq (tWhile c tb) u D σ H := st_while (D := { D with nx := u D }) Pv n h0 h
theorem ans_to {t : TT} {b c : Bool} (h : Ans t σ H b) (e : b = c) : Ans t σ H c := e ▸ h
theorem _root_.L2.Same.litter {H : Hp} {p : Addr} {o : HO} (h : H p = none) : Same H (upd H p o) := fun b u e => by rw [upd_ne (ne_of_none e h)]; exact e
/-- a, b = divmod(x, y) -/
theorem q_divmod {i1 i2 : Nat} {i j : Int} (ha : AVal ta σ H [.int i, .int j]) (hc : CDiv i j) (q : ∀ p, H p = none → u D ((σ.set i1 (some (.int (i / j)))).set i2 (some (.int (i % j)))) (upd H p (.tup [.int (i / j), .int (i % j)]))) :
    tSeq (tAsg (tCB (fun xs H Q => ∃ i j, xs = [.int i, .int j] ∧ CDiv i j ∧ ∀ p, H p = none → Q (.ref p) (upd H p (.tup [.int (i / j), .int (i % j)]))) ta) (gTup K 2 (gCons (gName i1) (gCons (gName i2) gNil)))) u D σ H :=
  ha _ ⟨i, j, rfl, hc, fun p hp => ⟨p, _, rfl, SqT.of upd_same, rfl, _, _, rfl, _, _, rfl, rfl, q p hp⟩⟩
theorem brk_ (q : D.bk σ H) : tBreak D σ H := q
theorem cont_ (q : D.ct σ H) : tCont D σ H := q
/-- over a list, one name, no test -/
theorem lcLn {a : Addr} {xs : List V} {tel : TE} {vs : List Nat} {Q : VK} (h : Val te σ H (.ref a)) (hx : SqL K H a xs) (Pv : Addr → Nat → Hp → Prop) (h0 : ∀ D, H D = none → Pv D 0 (upd H D (.lst []))) (hl : ∀ D i H, Pv D i H → SqL K H a xs)
    (hs : ∀ D i x H1, xs[i]? = some x → Pv D i H1 → wipe ((wipe σ vs).set j (some x)) vs = wipe σ vs ∧ tel ((wipe σ vs).set j (some x)) H1 fun y H4 => ∃ acc, H4 D = some (.lst acc) ∧ acc.length < sizeLine ∧ Pv D (i + 1) (upd H4 D (.lst (acc ++ [y]))))
    (hd : ∀ D H1, Pv D xs.length H1 → Q (.ref D) H1) : tLc (iList K te) (gName j) tYes tel vs σ H Q :=
  lcL_ Pv h0 hl (fun D i x H1 hx p => by
    obtain ⟨e1, e2⟩ := hs D i x H1 hx p
    refine And.intro e1 ?_
    show (if true = true then tel ((wipe σ vs).set j (some x)) H1 fun y H4 => ∃ acc, H4 D = some (.lst acc) ∧ acc.length < sizeLine ∧ Pv D (i + 1) (upd H4 D (.lst (acc ++ [y]))) else Pv D (i + 1) H1)
    exact iteT e2) hd h hx
/-- over a text's signs, no test -/
theorem lcSn {tel : TE} {vs : List Nat} {Q : VK} {l : List Nat} (h : Val te σ H (.str (S l))) (Pv : Addr → Nat → Hp → Prop) (h0 : ∀ D, H D = none → Pv D 0 (upd H D (.lst [])))
    (hs : ∀ D i c H1, l[i]? = some c → Pv D i H1 → wipe ((wipe σ vs).set j (some (.str (S [c])))) vs = wipe σ vs ∧ tel ((wipe σ vs).set j (some (.str (S [c])))) H1 fun y H4 => ∃ acc, H4 D = some (.lst acc) ∧ acc.length < sizeLine ∧ Pv D (i + 1) (upd H4 D (.lst (acc ++ [y]))))
    (hd : ∀ D H1, Pv D l.length H1 → Q (.ref D) H1) : tLc (iStr te) (gName j) tYes tel vs σ H Q :=
  lcS h Pv h0 (fun D i x H1 hx p => by
    obtain ⟨e1, e2⟩ := hs D i x H1 hx p
    refine And.intro e1 ?_
    show (if true = true then tel ((wipe σ vs).set j (some (.str (S [x])))) H1 fun y H4 => ∃ acc, H4 D = some (.lst acc) ∧ acc.length < sizeLine ∧ Pv D (i + 1) (upd H4 D (.lst (acc ++ [y]))) else Pv D (i + 1) H1)
    exact iteT e2) hd
/-- over a text's signs, those that pass a test with a value of their own -/
theorem lcSt {tt : TT} {tel : TE} {vs : List Nat} {Q : VK} {l : List Nat} (h : Val te σ H (.str (S l))) (b : Nat → Bool) (Pv : Addr → Nat → Hp → Prop) (h0 : ∀ D, H D = none → Pv D 0 (upd H D (.lst [])))
    (hs : ∀ D i c H1, l[i]? = some c → Pv D i H1 → wipe ((wipe σ vs).set j (some (.str (S [c])))) vs = wipe σ vs ∧ Ans tt ((wipe σ vs).set j (some (.str (S [c])))) H1 (b c) ∧
      (b c = true → tel ((wipe σ vs).set j (some (.str (S [c])))) H1 fun y H4 => ∃ acc, H4 D = some (.lst acc) ∧ acc.length < sizeLine ∧ Pv D (i + 1) (upd H4 D (.lst (acc ++ [y])))) ∧ (b c = false → Pv D (i + 1) H1))
    (hd : ∀ D H1, Pv D l.length H1 → Q (.ref D) H1) : tLc (iStr te) (gName j) tt tel vs σ H Q :=
  lcS h Pv h0 (fun D i x H1 hx p => by
    obtain ⟨e1, e2, e3, e4⟩ := hs D i x H1 hx p
    refine And.intro e1 (e2 _ ?_)
    show (if b x = true then tel ((wipe σ vs).set j (some (.str (S [x])))) H1 fun y H4 => ∃ acc, H4 D = some (.lst acc) ∧ acc.length < sizeLine ∧ Pv D (i + 1) (upd H4 D (.lst (acc ++ [y]))) else Pv D (i + 1) H1)
    cases e : b x with
    | true => exact iteT (e3 e)
    | false => exact iteF (e4 e)) hd
/-- what a comprehension's turns ask, one name, no test -/
def lcK (J : It) (j : Nat) (tel : TE) (vs : List Nat) (σ : L2.St) (Q : VK) (H1 : Hp) : Prop := ∀ D, H1 D = none → ∃ W : Nat → Nat → Hp → Prop, (∃ m, W 0 m (upd H1 D (.lst []))) ∧ ∀ i m H, W i m H →
  (J.stop i H ∧ Q (.ref D) H) ∨ (J.go i H ∧ ∃ Nx : Hp → Prop, (∀ H', Nx H' → ∃ m', m' < m ∧ W (i + 1) m' H') ∧ ∀ x H', J.yld i H x H' → gName j x (wipe σ vs) H' fun σ2 H2 => wipe σ2 vs = wipe σ vs ∧ tYes σ2 H2 fun b H3 =>
    if b = true then tel σ2 H3 fun y H4 => ∃ acc, H4 D = some (.lst acc) ∧ acc.length < sizeLine ∧ Nx (upd H4 D (.lst (acc ++ [y]))) else Nx H3)
theorem lcRy_ {tel : TE} {vs : List Nat} {Q : VK} (q : te σ H fun x H1 => ∃ k : Int, [x] = [V.int k] ∧ -(2 ^ 62) ≤ k ∧ k < 2 ^ 62 ∧ lcK (Itr 0 k.toNat) j tel vs σ Q H1) : tLc (iRng1 (tCons te tNil)) (gName j) tYes tel vs σ H Q := q
theorem lcK_R {tel : TE} {vs : List Nat} {Q : VK} {n : Nat} (Pv : Addr → Nat → Hp → Prop) (h0 : ∀ D, H D = none → Pv D 0 (upd H D (.lst [])))
    (hs : ∀ D i H1, i < n → Pv D i H1 → wipe ((wipe σ vs).set j (some (.int (i : Nat)))) vs = wipe σ vs ∧ tel ((wipe σ vs).set j (some (.int (i : Nat)))) H1 fun y H4 => ∃ acc, H4 D = some (.lst acc) ∧ acc.length < sizeLine ∧ Pv D (i + 1) (upd H4 D (.lst (acc ++ [y]))))
    (hd : ∀ D H1, Pv D n H1 → Q (.ref D) H1) : lcK (Itr 0 n) j tel vs σ Q H := lcR_ Pv h0 hs hd
/-- over a tuple, one name, no test -/
theorem lcTn {a : Addr} {xs : List V} {tel : TE} {vs : List Nat} {Q : VK} (h : Val te σ H (.ref a)) (hx : SqT K H a xs) (Pv : Addr → Nat → Hp → Prop) (h0 : ∀ D, H D = none → Pv D 0 (upd H D (.lst []))) (hl : ∀ D i H, Pv D i H → SqT K H a xs)
    (hs : ∀ D i x H1, xs[i]? = some x → Pv D i H1 → wipe ((wipe σ vs).set j (some x)) vs = wipe σ vs ∧ tel ((wipe σ vs).set j (some x)) H1 fun y H4 => ∃ acc, H4 D = some (.lst acc) ∧ acc.length < sizeLine ∧ Pv D (i + 1) (upd H4 D (.lst (acc ++ [y]))))
    (hd : ∀ D H1, Pv D xs.length H1 → Q (.ref D) H1) : tLc (iTup K te) (gName j) tYes tel vs σ H Q :=
  h _ ⟨a, rfl, ⟨xs, hx⟩, fun D hD => lc_tup (xs := xs) (Pv D) (h0 D hD) (fun i H _ p => hl D i H p) (fun i x H1 hx p => by
    obtain ⟨e1, e2⟩ := hs D i x H1 hx p
    refine And.intro e1 ?_
    show (if true = true then tel ((wipe σ vs).set j (some x)) H1 fun y H4 => ∃ acc, H4 D = some (.lst acc) ∧ acc.length < sizeLine ∧ Pv D (i + 1) (upd H4 D (.lst (acc ++ [y]))) else Pv D (i + 1) H1)
    exact iteT e2) (hd D)⟩
end
end Co
/-! Rules: what the layer lacks: enumerate over a text. -/
namespace Co
open PySem PySem.Spec PyProof.Rows L2

/-- a text's signs, each in a new pair with its number -/
def Itse (x : Str) : It :=
  ⟨fun i _ => i < x.cps.size, fun i H v H' => ∃ T c, v = .ref T ∧ H T = none ∧ H' = upd H T (.tup [.int (i : Nat), .str ⟨#[c]⟩]) ∧ x.cps[i]? = some c, fun i _ => x.cps.size ≤ i⟩
theorem turn_enumS {P : Program} {w : World} {K : PySem.W.Frag} {elts : List Expr} {kk : Nat} {tpos : Pos} (e it : Addr) (x : Str) (t : Tok) (hne : e ≠ it) :
    Turn P w K (.Tuple elts kk tpos) (Itse x) [e, it] e (fun i h => (∃ old, IsEnum h e it (0 + ((i : Nat) : Int)) old) ∧ h.IsStrIter it (strIterType x) x t i ∧ i ≤ x.cps.size) where
  mem := by simp
  obj := fun i h st b hb => by
    obtain ⟨⟨old, he⟩, ⟨o, ho, hc, hd⟩, _⟩ := st
    rcases (by simpa using hb : b = e ∨ b = it) with z | z
    · rw [z]; exact ⟨_, he, fun v q => nomatch q⟩
    · rw [z]; exact ⟨o, ho, fun v q => by rw [hd] at q; cases q⟩
  keep := fun i h h' st k => by
    obtain ⟨⟨old, he⟩, ⟨o, ho, r⟩, hi⟩ := st
    exact ⟨⟨old, k e (by simp) _ he⟩, ⟨o, k it (by simp) o ho, r⟩, hi⟩
  item := by
    intro X hP hw hK hc i pins s σ H E I hf st hg
    subst hP hw hK
    have W := GoesN.enumFrom (prog := X.prog) (w := X.w) (A := X.A) (elts := elts) (x1 := kk) (pos := tpos) 0 (Draws.text (A := X.A.in1) (show X.A.in1.handled = none from I.ok.hd hc) it x t) e hne (by simp [hne]) (by simp)
    refine W.goes i s _ _ hg ⟨st.1, st.2.1⟩ fun v h' tk hY hSt hk hle => ?_
    obtain ⟨T, t', u, rfl, hT, ⟨c, t2, hcx, rfl⟩, hIs⟩ := hY
    obtain ⟨o, ho, hcl, n, hd⟩ := hIs
    have hTn : H T = none := I.hok.fresh hT
    have e0 : (0 : Int) + ((i : Nat) : Int) = ((i : Nat) : Int) := Int.zero_add _
    have new : ObjOk X.prog X.w (upd H T (.tup [.int (i : Nat), .str ⟨#[c]⟩])) h' T (.tup [.int (i : Nat), .str ⟨#[c]⟩]) :=
      ⟨by show 2 ≤ sizeLine; decide, [.int (0 + ((i : Nat) : Int)) t', .str ⟨#[c]⟩ t2], .cons ⟨t', by rw [e0]⟩ (.cons ⟨t2, rfl⟩ .nil), ⟨o, ho, hcl, n, hd⟩⟩
    have I1 : Inv X pins σ (upd H T (.tup [.int (i : Nat), .str ⟨#[c]⟩])) { s with heap := h', toks := tk } :=
      I.turnedNew (ch := [e, it]) hk hf hT new
    refine ⟨.ref T, _, I1, rfl, ⟨T, c, rfl, hTn, rfl, hcx⟩, ⟨hSt.1, hSt.2, hg⟩, fun b hb => ?_⟩
    have hb' : b ≠ T := fun z => by
      obtain ⟨⟨old, he⟩, ⟨o2, ho2, _⟩, _⟩ := st
      rcases (by simpa using hb : b = e ∨ b = it) with q | q
      · have := Heap.lt_size he
        rw [← q, z] at this
        exact absurd (Nat.lt_of_lt_of_le this hT) (Nat.lt_irrefl _)
      · have := Heap.lt_size ho2
        rw [← q, z] at this
        exact absurd (Nat.lt_of_lt_of_le this hT) (Nat.lt_irrefl _)
    rw [upd_ne hb']
    exact (hf b hb).1
  done := by
    intro X hP hw hK hc i pins s σ H E I hf st hg
    subst hP hw hK
    have W := GoesN.enumFrom (prog := X.prog) (w := X.w) (A := X.A) (elts := elts) (x1 := kk) (pos := tpos) 0 (Draws.text (A := X.A.in1) (show X.A.in1.handled = none from I.ok.hd hc) it x t) e hne (by simp [hne]) (by simp)
    have hn : i = x.cps.size := Nat.le_antisymm st.2.2 hg
    subst hn
    refine W.stops s _ _ ⟨st.1, st.2.1⟩ fun h' tk hk hle => ?_
    exact I.turnedL (t' := tk) hk hf
  self := fun A i s Q E st h => by
    obtain ⟨⟨old, he⟩, _⟩ := st
    exact wpAny_pyIter_enum he h
def iEnumS (ta : TA) : TI := fun σ H R => ta σ H fun vs H1 => ∃ x, vs = [.str x] ∧ R (Itse x) H1
theorem pi_enumS {X : Cx} {e : Expr} {ta : TA} {p pos tpos : Pos} {elts : List Expr} {kk : Nat} (hg : Gl X "enumerate") (hm : X.mg "enumerate" = none) (ha : PA X [e] ta) (hs : starEach [e] X.env = [(false, eval e X.env)] := by rfl) :
    PI X (.Tuple elts kk tpos) (.Call (.Name "enumerate" p) [e] [] pos) (iEnumS ta) := by
  refine ⟨fun pins s σ H R I h => ?_⟩
  refine Call_ (ld_blt I hg hm boot_enumerate (PyProof.Rows.callWith_type1 (thn (ha.run pos pins s σ H _ I h) fun us s1 ⟨vs, H1, I1, r1, q1⟩ => ?_) hs rfl))
  obtain ⟨x, rfl, q⟩ := q1
  cases r1 with
  | cons r rr =>
    cases rr
    obtain ⟨t, rfl⟩ := r
    refine call_enumerate_str fun h' he hit hsz hk => wpAny_pyIter_enum he ?_
    have I2 : Inv X pins σ H1 { s1 with heap := h' } := I1.kept (t' := s1.toks) hk
    refine ⟨s1.heap.objs.size + 1, [s1.heap.objs.size + 1, s1.heap.objs.size], _, _, H1, rfl, I2, turn_enumS (s1.heap.objs.size + 1) s1.heap.objs.size x t (Nat.succ_ne_self _), ⟨⟨.none, he⟩, hit, Nat.zero_le _⟩, fun b hb => ?_, q⟩
    have hle : s1.heap.objs.size ≤ b := by
      rcases (by simpa using hb : b = s1.heap.objs.size + 1 ∨ b = s1.heap.objs.size) with z | z
      · rw [z]; exact Nat.le_add_right _ _
      · rw [z]; exact Nat.le_refl _
    exact I1.fpOk hle (I1.hok.fresh hle)
/-- a for over enumerate(text): the heap grows by the pairs -/
theorem st_forES {σ : L2.St} {H : Hp} {D : Ends} {tb : TS} {ta : TA} {i1 i2 : Nat} {l : List Nat} {K : PySem.W.Frag} (ha : AVal ta σ H [.str (S l)]) (Pv : Nat → L2.St → Hp → Prop) (h0 : Pv 0 σ H)
    (hs : ∀ i c σ H H', l[i]? = some c → Same H H' → Pv i σ H → tb { D with nx := Pv (i + 1), ct := Pv (i + 1), bk := D.nx } ((σ.set i1 (some (.int (i : Nat)))).set i2 (some (.str (S [c])))) H') (hd : ∀ σ H, Pv l.length σ H → D.nx σ H) :
    tFor (iEnumS ta) (gTup K 2 (gCons (gName i1) (gCons (gName i2) gNil))) tb D σ H := by
  refine ha _ ⟨S l, rfl, ?_⟩
  have hz : (S l).cps.size = l.length := rfl
  refine ⟨fun i m σ H => m = l.length - i ∧ i ≤ l.length ∧ Pv i σ H, ⟨l.length, by simp, Nat.zero_le _, h0⟩, ?_⟩
  rintro i m σ H ⟨rfl, hi, p⟩
  by_cases hlt : i < l.length
  · refine .inr ⟨by show i < (S l).cps.size; rw [hz]; exact hlt, Pv (i + 1), fun σ' H' p' => ⟨l.length - (i + 1), by omega, rfl, hlt, p'⟩, ?_⟩
    rintro x H' ⟨T, c, rfl, hT, rfl, hc⟩
    have hc' : l[i]? = some c := by
      have : (S l).cps[i]? = l[i]? := by simp [S]
      rw [← this]; exact hc
    refine ⟨T, _, rfl, SqT.of upd_same, rfl, _, _, rfl, ?_⟩
    refine ⟨_, _, rfl, rfl, ?_⟩
    exact hs i c σ H _ hc' (fun b o e => by rw [upd_ne (ne_of_none e hT)]; exact e) p
  · have e : i = l.length := by omega
    subst e
    exact .inl ⟨by show (S l).cps.size ≤ _; rw [hz]; exact Nat.le_refl _, hd σ H p⟩
/-! ### a text so many times -/
theorem op_mulSt {X : Cx} : OpR X (binaryOp .Mult) (fun x y H Q => ∃ z n, x = .str z ∧ y = .int n ∧ MulOk z n ∧ Q (.str (Txt.mul z n)) H) := by
  intro pins s σ H x y v u Q I rx ry h
  obtain ⟨z, n, rfl, rfl, hok, q⟩ := h
  obtain ⟨t, rfl⟩ := rx
  obtain ⟨t', rfl⟩ := ry
  exact SB.mul hok fun t' k => ⟨.str _, H, I.tok k, ⟨t', rfl⟩, q⟩
theorem reps_one (c : Nat) : ∀ (n : Nat) (a : Array Nat), (List.replicate n #[c]).foldl (· ++ ·) a = a ++ (List.replicate n c).toArray
  | 0, a => by simp
  | n + 1, a => by
    rw [List.replicate_succ, List.foldl_cons, reps_one c n (a ++ #[c]), List.replicate_succ]
    apply Array.ext'
    simp
theorem mul_one_sign (c n : Nat) : Txt.mul (S [c]) (n : Int) = S (List.replicate n c) := by
  unfold Txt.mul
  by_cases h : (n : Int) < 1
  · rw [if_pos h]
    have : n = 0 := by omega
    subst this
    rfl
  · rw [if_neg h]
    by_cases h1 : n = 1
    · subst h1
      rfl
    · have e : ((n : Int) == 1 || (S [c]).length == 0) = false := by
        have h2 : ((n : Int) == 1) = false := beq_eq_false_iff_ne.mpr (by omega)
        rw [h2]; rfl
      rw [if_neg (by rw [e]; exact Bool.false_ne_true), Int.toNat_natCast]
      show (⟨(List.replicate n #[c]).foldl (· ++ ·) #[]⟩ : Str) = _
      rw [reps_one, Array.empty_append]
      rfl
theorem mulOk_one (c n : Nat) (h : n ≤ 1000) : MulOk (S [c]) (n : Int) := by
  refine ⟨?_, fun h1 _ => ?_, fun h1 _ => ?_⟩
  · rw [decide_eq_false (by omega), decide_eq_false (by omega)]; rfl
  · show ¬ ((1 : Int) > (2 ^ 63 - 1) / (n : Int))
    have : (1 : Int) ≤ (2 ^ 63 - 1) / (n : Int) := (Int.le_ediv_iff_mul_le (by omega)).mpr (by omega)
    omega
  · rw [Int.toNat_natCast]
    unfold PySem.Builtin.Str.tooLong
    show decide _ = false
    refine decide_eq_false ?_
    show ¬ (1 * n > _)
    have : sizeLine = 16777216 := rfl
    omega
theorem val_mulOne {σ : L2.St} {H : Hp} {ta tb : TE} {c n : Nat} (ha : Val ta σ H (.str (S [c]))) (hb : Val tb σ H (.int (n : Int))) (hn : n ≤ 1000) :
    Val (tOp (fun x y H Q => ∃ z n, x = .str z ∧ y = .int n ∧ MulOk z n ∧ Q (.str (Txt.mul z n)) H) ta tb) σ H (.str (S (List.replicate n c))) := fun Q q =>
  ha _ (hb _ ⟨_, _, rfl, rfl, mulOk_one c n hn, by rw [mul_one_sign]; exact q⟩)
end Co
/-! Sorts: sorted with a key def of one's own, sorted pairs of an int and a text. -/
namespace Co
open PySem PySem.Spec PyProof.Rows L2 PySem.W

/-! ### the order of words: by length, then by letters -/
def wle (a b : List Nat) : Prop := a.length < b.length ∨ (a.length = b.length ∧ a ≤ b)
instance (a b : List Nat) : Decidable (wle a b) := by unfold wle; exact inferInstance
def wkey (w : List Nat) : PyData := .tuple [.int (w.length : Nat), .str (S w)]
theorem wle_refl (a : List Nat) : wle a a := .inr ⟨rfl, List.le_refl a⟩
theorem wle_trans {a b c : List Nat} (h1 : wle a b) (h2 : wle b c) : wle a c := by
  unfold wle at *
  rcases h1 with h1 | ⟨h1, k1⟩ <;> rcases h2 with h2 | ⟨h2, k2⟩
  · exact .inl (by omega)
  · exact .inl (by omega)
  · exact .inl (by omega)
  · exact .inr ⟨by omega, List.le_trans k1 k2⟩
theorem wle_total (a b : List Nat) : wle a b ∨ wle b a := by
  unfold wle
  rcases Nat.lt_trichotomy a.length b.length with h | h | h
  · exact .inl (.inl h)
  · rcases List.le_total a b with k | k
    · exact .inl (.inr ⟨h, k⟩)
    · exact .inr (.inr ⟨h.symm, k⟩)
  · exact .inr (.inl h)
theorem wle_anti {a b : List Nat} (h1 : wle a b) (h2 : wle b a) : a = b := by
  unfold wle at *
  rcases h1 with h1 | ⟨h1, k1⟩ <;> rcases h2 with h2 | ⟨h2, k2⟩
  · omega
  · omega
  · omega
  · exact List.le_antisymm k1 k2
theorem data_wle : dataLe false wkey = fun a b => decide (wle a b) := by
  funext p q
  show (!dataLt (wkey q) (wkey p)) = _
  unfold wkey
  rw [dataLt_pair (by simp [alike]) (by simp [alike]), dataLt_int, dataLt_str]
  simp only [PyData.eqv, beq_iff_eq, S_cps]
  unfold wle
  by_cases h1 : ((q.length : Nat) : Int) = ((p.length : Nat) : Int)
  · have h1' : q.length = p.length := by omega
    rw [if_pos h1]
    by_cases h2 : S q = S p
    · rw [if_pos h2]
      have h2' := S_inj.mp h2
      subst h2'
      simp
    · rw [if_neg h2]
      have h2' : q ≠ p := fun e => h2 (by rw [e])
      by_cases h3 : q < p
      · have h4 : ¬ p ≤ q := fun z => List.not_lt.mpr z h3
        simp [h1', h3, h4]
      · have h4 : p ≤ q := List.not_lt.mp h3
        simp [h1', h3, h4]
  · rw [if_neg h1]
    by_cases h3 : q.length < p.length
    · have h4 : ¬ (p.length < q.length ∨ (p.length = q.length ∧ p ≤ q)) := by omega
      simp [h3, h4]
    · have h4 : (p.length < q.length ∨ (p.length = q.length ∧ p ≤ q)) := .inl (by omega)
      simp [h3, h4]
theorem sorted_wle (ws : List (List Nat)) : (ws.mergeSort (dataLe false wkey)).Perm ws ∧ (ws.mergeSort (dataLe false wkey)).Pairwise wle := by
  refine ⟨List.mergeSort_perm _ _, ?_⟩
  rw [data_wle]
  refine List.Pairwise.imp ?_ (List.pairwise_mergeSort (fun a b c h1 h2 => ?_) (fun a b => ?_) ws)
  · intro a b h; exact of_decide_eq_true h
  · exact decide_eq_true (wle_trans (of_decide_eq_true h1) (of_decide_eq_true h2))
  · rcases wle_total a b with h | h
    · simp [h]
    · simp [h]

/-! ### a def as a key -/
/-- a def of one word that keeps all that is there and gives the word's key -/
structure KeyD (P : Program) (w : World) (K : PySem.W.Frag) (mg : Str → Option Value) (base : Heap) (k : Nat) (x : Str) (key : List Nat → PyData) : Prop where
  ex : ∃ f, mg x = some (.ref f) ∧ ∀ (A : Around) (outer : List Env) (s : Shared) (H : Hp) (l : List Nat) (t : Tok), Room k A → Env0 P w K mg base A outer s H → l.length ≤ sizeLine →
    wpAny (model P w) A (call (.ref f) [.str (S l) t]) (KeyPure (key l) s) (fun _ _ => False) s
section
variable {X : Cx}
theorem ld_var {pins : List (Addr × Obj)} {σ : L2.St} {H : Hp} {s : Shared} {i : Nat} {x : Str} {v : V} {pos : Pos} {Q E : Value → Shared → Prop}
    (I : Inv X pins σ H s) (hN : X.N[i]? = some x) (hv : Vis X.env.scope x) (e : σ[i]? = some (some v)) (h : ∀ u, RelV v u → Q u s) (hd : (x == ("__debug__" : Str)) = false := by decide) (hcd : (x == ("__classdict__" : Str)) = false := by decide) :
    wpAny (model X.prog X.w) X.A (eval (.Name x pos) X.env) Q E s := by
  obtain ⟨m, hn, hl⟩ := I.loc
  obtain ⟨u, r, l⟩ := hl i x v hN e hv
  rcases l with ⟨hk, hm⟩ | ⟨hk, c, hc, hcell⟩
  · exact wpAny_Name (wpAny_loadName_local I.ok.kind hk hn hm (h u r)) hd
  · rcases hk with hk | hk
    · exact wpAny_Name (wpAny_loadName_cell I.ok.kind hk hc hcell (h u r)) hd
    · exact wpAny_Name (wpAny_loadName_free I.ok.kind hk hc hcell (h u r) hcd) hd
/-- return (len(word), word) -/
theorem key_body {pins : List (Addr × Obj)} {σ : L2.St} {H : Hp} {s : Shared} {l : List Nat} {x : Str} {p1 p2 p3 p4 p5 p6 : Pos} {x1 : Nat} {E : Value → Shared → Prop}
    (I : Inv X pins σ H s) (hN : X.N[0]? = some x) (hv : Vis X.env.scope x) (e : σ[0]? = some (some (.str (S l)))) (hg : Gl X "len") (hm : X.mg "len" = none) (hz : l.length ≤ sizeLine)
    (hd : (x == ("__debug__" : Str)) = false) (hcd : (x == ("__classdict__" : Str)) = false) :
    wpAny (model X.prog X.w) X.A (execs [.Return (some (.Tuple [.Call (.Name "len" p1) [.Name x p2] [] p3, .Name x p4] x1 p5)) p6] X.env) (fun fl s' => ∃ u, fl = .ret u ∧ KeyPure (wkey l) s u s') E s := by
  have h63 := line63
  refine wpAny_execs_cons (wpAny_Return_some (wpAny_Tuple_spliced ?_))
  refine Calls.spliced_cons (wpAny_Call_Name_kw (ld_blt I hg hm boot_len (PyProof.Rows.callWith_builtin1 (Calls.spliced_cons (ld_var I hN hv e (fun u ru => ?_) hd hcd)) rfl rfl)))
  obtain ⟨t, rfl⟩ := ru
  refine Calls.spliced_nil (len_str (by rw [S_len]; omega) ?_)
  refine Calls.spliced_cons (ld_var (I.tok _) hN hv e (fun u ru => ?_) hd hcd)
  obtain ⟨t2, rfl⟩ := ru
  refine Calls.spliced_nil ⟨by show 2 ≤ sizeLine; decide, ?_⟩
  refine ⟨_, rfl, _, _, rfl, fun b o q => Heap.get?_push_of_some _ q, ?_⟩
  have hget := Heap.get?_push_size s.heap (o := { cls := .type "tuple", data := .seq [Value.int ((S l).length : Nat) (s.toks + 1), Value.str (S l) t2].toArray }) rfl
  exact Reads.tuple hget rfl rfl (by
    rw [S_len]
    exact ReadsAll.cons (.int _ _) (ReadsAll.cons (.str _ _) .nil))
end
theorem KeyD.of {P : Program} {w : World} {K : PySem.W.Frag} {mg : Str → Option Value} {base : Heap} {x qual y : Str} {params : Arguments} {body : List Stmt} {scope : Scope} {f : Addr} {fd : FuncData} {N : List Str}
    (F : FunD K x qual params body scope [] [] f fd) (S0 : FnScope N [y] scope) (hb : Binds K fd [y] []) (hm0 : mg x = some (.ref f)) {key : List Nat → PyData}
    (hbody : ∀ (cdv : Value) (A : Around) (outer : List Env) (s s1 : Shared) (H : Hp) (l : List Nat) (E : Value → Shared → Prop), l.length ≤ sizeLine → (∀ E0, Inv (cxOf CX0 P w K mg base N qual scope f cdv A outer s H E0) [] (start N [.str (S l)]) H s1) →
      wpAny (model P w) (A.deeper (envOfC qual scope s.heap.objs.size f cdv)) (execs body (envOfC qual scope s.heap.objs.size f cdv)) (fun fl s' => ∃ u, fl = .ret u ∧ KeyPure (key l) s1 u s') E s1) : KeyD P w K mg base 1 x key := by
  refine ⟨f, hm0, fun A outer s H l t hr e0 hl => ?_⟩
  obtain ⟨oc, od, dV, kV, doc, pm, an, cdv, ct, osl, rfl, lk, hcd, _, _⟩ := F.ex
  have KX : K.In s.heap := e0.mod.kin.keeps fun b o e => (e0.bs b o e).1
  have lim : s.heap.NoLimit := e0.mod.nolimit.keeps fun b o e => (e0.bs b o e).1
  have r : Vals [.str (S l)] [Value.str (S l) t] := .cons ⟨t, rfl⟩ .nil
  have hkind : ∀ z ∈ [y].zip [Value.str (S l) t], scope.names.lookup z.1 = some .local ∨ (scope.names.lookup z.1 = some .cell ∧ ((cellsFrom (s.heap.objs.size + 1) scope.names []).lookup z.1).isSome = true) := fun ⟨n, v⟩ hy => by
    rcases S0.par n (List.of_mem_zip hy).1 with q | q
    · exact .inl q
    · exact .inr ⟨q, PySem.W.cellsFrom_some _ _ _ (.inl q)⟩
  refine wpAny_call (codeAny_call_function hr.depth (KX _ _ lk) rfl S0.co S0.gen rfl (PySem.W.codeRec_of KX hcd) ((hb s [Value.str (S l) t] KX rfl) _ _ _ _ ?_))
  refine wpAny_newFunctionEnv_cells S0.kind hkind fun env he s1 z => ?_
  subst he
  refine ⟨lim.keeps z.toInCall.keep, codeAny_func ?_⟩
  obtain ⟨h1, tk, e1, hk⟩ := z.done
  refine wpAny_mono (hbody cdv A outer s s1 H l _ hl fun E0 => inv_start S0 hr.hd e0 rfl r z) (fun fl s' hs => ?_) fun e s' hs => hs
  obtain ⟨u, rfl, h', tk', rfl, kp, rd⟩ := hs
  refine ⟨h', tk', by rw [e1], fun b o q => ?_, rd⟩
  refine kp b o ?_
  rw [e1]
  exact hk b o q
section
variable {X : Cx} {j k : Nat}
/-- sorted(ws, key=f) -/
def rSortK : List V → List V → Hp → VK → Prop := fun vs zs H Q => ∃ (a : Addr) (ws : List (List Nat)), vs = [.ref a] ∧ H a = some (.lst (ws.map fun w => V.str (S w))) ∧ (∀ w ∈ ws, w.length ≤ sizeLine) ∧
  ∀ (ys : List (List Nat)) (p : Addr), ys.Perm ws → ys.Pairwise wle → H p = none → Q (.ref p) (upd H p (.lst (ys.map fun w => V.str (S w))))
theorem strs_each {K : PySem.W.Frag} : ∀ {ws : List (List Nat)} {us : List Value}, Vals (ws.map fun w => V.str (S w)) us → EachIs (fun v w => ∃ t, v = Value.str (S w) t) us ws
  | [], _, h => by cases h; exact .nil
  | w :: ws, _, h => by
    cases h with
    | cons r t => exact .cons r (strs_each (K := K) t)
theorem each_strs : ∀ {ws : List (List Nat)} {us : List Value}, EachIs (fun v w => ∃ t, v = Value.str (S w) t) us ws → Vals (ws.map fun w => V.str (S w)) us
  | _, _, .nil => .nil
  | _, _, .cons r t => .cons r (each_strs t)
def tSortK (t : TA) : TE := fun σ H Q => t σ H fun vs H1 => rSortK vs [] H1 Q
theorem sortk_ {t : TA} {σ : L2.St} {H : Hp} {Q : VK} (q : t σ H fun vs H1 => rSortK vs [] H1 Q) : tSortK t σ H Q := q
theorem pe_sortedKey {x : Str} {e : Expr} {p p2 kpos pos : Pos} {t : TA} (C : KeyD X.prog X.w X.K X.mg X.base 1 x wkey) (hr : Room 3 X.A) (hm : X.mg "sorted" = none) (ha : PA X [e] t) (hg : Gl X "sorted" := by rfl) (hgx : Gl X x := by rfl)
    (hdb : (x == ("__debug__" : Str)) = false := by decide)
    (he : backTo pos (starEach [e] X.env) = (false, eval e X.env) :: backTo pos (starEach [] X.env) := by rfl) (hpl : (backTo pos (starEach [e] X.env)).any (·.1) = false := by rfl) :
    PE X (.Call (.Name "sorted" p) [e] [⟨some "key", .Name x p2, kpos⟩] pos) (tSortK t) := by
  obtain ⟨f, hmx, C⟩ := C.ex
  refine ⟨fun pins s σ H Q I h => ?_⟩
  refine wpAny_Call_Name_kw (ld_blt I hg hm (show bootBuiltins "sorted" = some (.builtin "sorted") by decide +kernel) ?_)
  refine PyProof.Rows.callWith_kw (thn (ha.run pos pins s σ H _ I h) fun us s1 ⟨vs, H1, I1, r1, q1⟩ => ?_) he hpl rfl rfl
  refine wpAny_evalAll_cons (wpAny_bind (ld_glob I1 hgx hmx (wpAny_bind (wpAny_standAt (wpAny_pure (wpAny_evalAll_nil ?_)))) hdb))
  show wpAny _ _ (call (.builtin "sorted") us [(Str.ofString "key", Value.ref f)]) _ _ _
  obtain ⟨a, ws, rfl, hl, hw, q⟩ := q1
  obtain rfl := Vals.ref1 r1
  obtain ⟨hz, its, n, rv, hob⟩ := I1.hok a _ hl
  have ev := strs_each (K := X.K) rv
  have hlen : ws.length ≤ sizeLine := by rw [List.length_map] at hz; exact hz
  refine sorted_key_data (b := false) wkey ⟨_, hob, rfl, n, rfl⟩ ev (AllAlike.of fun _ _ => by simp [wkey, alike, alikeAll]) (Sortable.tuples fun _ => ⟨_, _, rfl⟩) hlen (fun w _ => ?_) (ksk_s1 _ _) (fun _ => ksk_l1 _ _) (fun _ => ksk_t1 _ _)
    (fun v w hv hw' h tk kp => ?_) fun out c h' tk kp hf hD hlo eo => ?_
  · have hd : (wkey w).depth = 1 := by simp [wkey, PyData.depth, PyData.depthAll]
    have := hr.units
    omega
  · obtain ⟨t, rfl⟩ := hv
    exact C _ _ _ H1 w t hr.in1.in1 ((I1.kept (t' := tk) kp).env0).in1.in1 (hw w hw')
  · have hp : H1 (s1.heap.objs.size + 1) = none := I1.hok.fresh (Nat.le_succ _)
    have es := each_strs eo
    obtain ⟨p1, p2⟩ := sorted_wle ws
    have hl2 : ((ws.mergeSort (dataLe false wkey)).map fun w => V.str (S w)).length ≤ sizeLine := by rw [List.length_map, p1.length_eq]; exact hlen
    have J := I1.laid (t' := tk) (a := s1.heap.objs.size + 1) (o := .lst ((ws.mergeSort (dataLe false wkey)).map fun w => V.str (S w))) kp (Nat.le_succ _) ⟨hl2, out, c, es, hD⟩
    exact ⟨.ref _, _, J, rfl, q _ _ p1 p2 hp⟩
/-- sorted of pairs of a length and a word -/
def rSortD (K : PySem.W.Frag) : List V → Hp → VK → Prop := fun vs H Q => ∃ (a : Addr) (zs : List (Addr × List Nat)), vs = [.ref a] ∧ SqL K H a (zs.map fun z => V.ref z.1) ∧ (∀ z ∈ zs, SqT K H z.1 [.int (z.2.length : Nat), .str (S z.2)]) ∧
  ∀ (ys : List (Addr × List Nat)) (p : Addr), ys.Perm zs → ys.Pairwise (fun x y => wle x.2 y.2) → H p = none → Q (.ref p) (upd H p (.lst (ys.map fun z => V.ref z.1)))
theorem refs_each : ∀ {zs : List (Addr × List Nat)} {us : List Value}, Vals (zs.map fun z => V.ref z.1) us → EachIs (fun v (z : Addr × List Nat) => v = Value.ref z.1) us zs
  | [], _, h => by cases h; exact .nil
  | w :: ws, _, h => by
    cases h with
    | cons r t => exact .cons r (refs_each t)
theorem each_refs : ∀ {zs : List (Addr × List Nat)} {us : List Value}, EachIs (fun v (z : Addr × List Nat) => v = Value.ref z.1) us zs → Vals (zs.map fun z => V.ref z.1) us
  | _, _, .nil => .nil
  | _, _, .cons r t => .cons r (each_refs t)
theorem cr_sortedData (hu : Room 0 X.A) : CallR X (.builtin "sorted") (rSortD X.K) := by
  intro pins s σ H xs us Q I r h
  obtain ⟨a, zs, rfl, hs, ht, q⟩ := h
  obtain rfl := Vals.ref1 r
  obtain ⟨its, rv, hl, hz⟩ := I.list hs
  have ev := refs_each rv
  have hlen : zs.length ≤ sizeLine := by rw [List.length_map] at hz; exact hz
  refine sorted_data (enc := fun z : Addr × List Nat => wkey z.2) hl.isList ev ?_ (AllAlike.of fun _ _ => by simp [wkey, alike, alikeAll]) (Sortable.tuples fun _ => ⟨_, _, rfl⟩) hlen (fun w _ => ?_) fun out hlo eo => ?_
  · refine (each_mem ev).mono fun v z ⟨e, hm⟩ => ?_
    subst e
    obtain ⟨us, ru, hu, _⟩ := I.tuple (ht z hm)
    obtain ⟨u1, u2, rfl, r1, r2⟩ := vals2 ru
    obtain ⟨t1, rfl⟩ := r1
    obtain ⟨t2, rfl⟩ := r2
    obtain ⟨o, ho, hc, n, hd⟩ := hu
    exact ⟨_, Reads.tuple ho hc hd (ReadsAll.cons (.int _ _) (ReadsAll.cons (.str _ _) .nil))⟩
  · have hd : (wkey w.2).depth = 1 := by simp [wkey, PyData.depth, PyData.depthAll]
    have := hu.units
    omega
  · have hp : H (s.heap.objs.size + 1) = none := I.hok.fresh (Nat.le_succ _)
    have es := each_refs eo
    obtain ⟨ep, he'⟩ := PyProof.Rows.sortedAll_at s.heap its out.toArray
    have p1 : (zs.mergeSort (dataLe false fun z : Addr × List Nat => wkey z.2)).Perm zs := List.mergeSort_perm _ _
    have e1 : dataLe false (fun z : Addr × List Nat => wkey z.2) = fun a b => decide (wle a.2 b.2) := by
      funext p q
      exact congrFun (congrFun data_wle p.2) q.2
    have p2 : (zs.mergeSort (dataLe false fun z : Addr × List Nat => wkey z.2)).Pairwise fun x y => wle x.2 y.2 := by
      rw [e1]
      refine List.Pairwise.imp ?_ (List.pairwise_mergeSort (fun a b c h1 h2 => ?_) (fun a b => ?_) zs)
      · intro a b h; exact of_decide_eq_true h
      · exact decide_eq_true (wle_trans (of_decide_eq_true h1) (of_decide_eq_true h2))
      · rcases wle_total a.2 b.2 with h | h
        · simp [h]
        · simp [h]
    have hl2 : ((zs.mergeSort (dataLe false fun z : Addr × List Nat => wkey z.2)).map fun z => V.ref z.1).length ≤ sizeLine := by rw [List.length_map, p1.length_eq]; exact hlen
    have J := I.laid (t' := s.toks) (a := s.heap.objs.size + 1) (o := .lst ((zs.mergeSort (dataLe false fun z : Addr × List Nat => wkey z.2)).map fun z => V.ref z.1)) (fun _ _ => PyProof.Rows.sortedAll_old) (Nat.le_succ _) ⟨hl2, out, ep, es, he'⟩
    exact ⟨.ref _, _, J, rfl, q _ _ p1 p2 hp⟩
end
end Co
/-! Words: lots of words, ordered lists of them, dicts with words for keys. -/
namespace Co
open PySem L2

/-- ys: the different words among ws in their order -/
structure Told (ys ws : List (List Nat)) : Prop where
  asc : ys.Pairwise wle
  nd : ys.Nodup
  mem : ∀ w, w ∈ ys ↔ w ∈ ws
theorem Told.uniq {ys zs ws vs : List (List Nat)} (h : Told ys ws) (k : Told zs vs) (e : ∀ w, w ∈ ws ↔ w ∈ vs) : ys = zs :=
  List.Perm.eq_of_pairwise (fun a b _ _ h1 h2 => wle_anti h1 h2) h.asc k.asc ((List.perm_ext_iff_of_nodup h.nd k.nd).mpr fun w => (h.mem w).trans ((e w).trans (k.mem w).symm))
theorem Told.len {ys ws : List (List Nat)} (h : Told ys ws) : ys.length ≤ ws.length := h.nd.length_le_of_subset fun w hw => (h.mem w).mp hw
theorem Told.perm {ys ws vs : List (List Nat)} (hp : ys.Perm ws) (hs : ys.Pairwise wle) (nd : ws.Nodup) (h : ∀ w, w ∈ ws ↔ w ∈ vs) : Told ys vs := ⟨hs, hp.nodup_iff.mpr nd, fun w => hp.mem_iff.trans (h w)⟩

/-! ### a dict with words for keys, each with True -/
def dW (ws : List (List Nat)) : List (Key × V) := ws.map fun w => (.inr (S w), .bl true)
def addW (ws : List (List Nat)) (w : List Nat) : List (List Nat) := if w ∈ ws then ws else ws ++ [w]
theorem addW_mem {ws : List (List Nat)} {w v : List Nat} : v ∈ addW ws w ↔ v ∈ ws ∨ v = w := by
  unfold addW
  split
  · constructor
    · exact .inl
    · rintro (h | rfl) <;> assumption
  · rw [List.mem_append, List.mem_singleton]
theorem addW_nd {ws : List (List Nat)} {w : List Nat} (h : ws.Nodup) : (addW ws w).Nodup := by
  unfold addW
  split
  · exact h
  · rename_i hn
    refine List.nodup_append.mpr ⟨h, by simp, fun a ha b hb e => ?_⟩
    rw [List.mem_singleton.mp hb] at e
    exact hn (e ▸ ha)
theorem addW_len {ws : List (List Nat)} {w : List Nat} : (addW ws w).length ≤ ws.length + 1 := by
  unfold addW
  split
  · omega
  · rw [List.length_append]; simp
def addAll (ws : List (List Nat)) : List (List Nat) := ws.foldl addW []
theorem addAll_snoc {ws : List (List Nat)} {w : List Nat} : addAll (ws ++ [w]) = addW (addAll ws) w := by unfold addAll; rw [List.foldl_append]; rfl
theorem addAll_ok : ∀ (n : Nat) (ws : List (List Nat)), ws.length = n → (addAll ws).Nodup ∧ (addAll ws).length ≤ ws.length ∧ ∀ w, w ∈ addAll ws ↔ w ∈ ws
  | 0, ws, h => by
    have : ws = [] := List.length_eq_zero_iff.mp h
    subst this
    exact ⟨List.nodup_nil, Nat.le_refl _, fun _ => Iff.rfl⟩
  | n + 1, ws, h => by
    have hne : ws ≠ [] := by intro z; rw [z] at h; simp at h
    obtain ⟨v, c, rfl⟩ : ∃ v c, ws = v ++ [c] := ⟨ws.dropLast, ws.getLast hne, (List.dropLast_concat_getLast hne).symm⟩
    have hv : v.length = n := by rw [List.length_append] at h; simpa using h
    obtain ⟨h1, h2, h3⟩ := addAll_ok n v hv
    rw [addAll_snoc]
    refine ⟨addW_nd h1, ?_, fun w => ?_⟩
    · have := addW_len (ws := addAll v) (w := c)
      rw [List.length_append, List.length_singleton]
      omega
    · rw [addW_mem, h3, List.mem_append, List.mem_singleton]
theorem dW_put (ws : List (List Nat)) (w : List Nat) : putK (dW ws) (.inr (S w)) (.bl true) = dW (addW ws w) := by
  have e : ((dW ws).any fun kv => decide (kv.1 = (.inr (S w) : Key))) = decide (w ∈ ws) := by
    unfold dW
    rw [List.any_map, Bool.eq_iff_iff, List.any_eq_true, decide_eq_true_iff]
    constructor
    · rintro ⟨d, hd, e⟩
      have e2 : (Sum.inr (S d) : Key) = .inr (S w) := of_decide_eq_true e
      have e3 : S d = S w := by injection e2
      rw [← S_inj.mp e3]; exact hd
    · exact fun h => ⟨w, h, decide_eq_true rfl⟩
  unfold putK
  rw [e]
  unfold addW
  by_cases h : w ∈ ws
  · rw [if_pos (decide_eq_true h), if_pos h]
    unfold dW
    rw [List.map_map]
    refine List.map_congr_left fun v _ => ?_
    show (if (Sum.inr (S v) : Key) = .inr (S w) then _ else _) = _
    split
    · rename_i q; rfl
    · rfl
  · rw [if_neg (by simpa using h), if_neg h]
    unfold dW
    rw [List.map_append]
    rfl
theorem dW_keys (ws : List (List Nat)) : ((dW ws).map fun kv => kV kv.1) = ws.map fun w => V.str (S w) := by
  unfold dW; rw [List.map_map]; rfl
section
variable {σ : L2.St} {H G : Hp} {L : Own} {D : Ends} {td ty tv : TE} {d : Addr} {ws : List (List Nat)} {w : List Nat} {q r : Addr × OP}
theorem st_dputW (hd : Val td σ H (.ref d)) (hy : Val ty σ H (.str (S w))) (hv : Val tv σ H (.bl true)) (hA : At G H ((d, oIs (.dK (dW ws))) :: L)) (hl : ws.length < sizeLine)
    (qq : ∀ H', At G H' ((d, oIs (.dK (dW (addW ws w)))) :: L) → D.nx σ H') : sDPut td ty tv D σ H := by
  have hp := DPut.k (k := .inr (S w)) (v := .bl true) hA.is (by show (dW ws).length < sizeLine; unfold dW; rw [List.length_map]; exact hl)
  rw [dW_put] at hp
  exact hv _ (hd _ (hy _ ⟨d, _, rfl, hp, qq _ (hA.set rfl)⟩))
theorem st_dputW2 (hd : Val td σ H (.ref d)) (hy : Val ty σ H (.str (S w))) (hv : Val tv σ H (.bl true)) (hA : At G H (q :: (d, oIs (.dK (dW ws))) :: L)) (hl : ws.length < sizeLine)
    (qq : ∀ H', At G H' (q :: (d, oIs (.dK (dW (addW ws w)))) :: L) → D.nx σ H') : sDPut td ty tv D σ H := st_dputW hd hy hv hA.swap hl fun H' h => qq H' h.swap
end

theorem new_dW1 {σ : L2.St} {H : Hp} {Q : VK} (q : ∀ p, H p = none → Q (.ref p) (upd (upd H p (.dK [])) p (.dK (dW [[]])))) : tDisp [(tC (.str ""), tC (.bl true))] σ H Q := by
  intro p hp
  refine ⟨upd_same, [(.inr "", .bl true)], rfl, by decide, ?_⟩
  have e : mergeK [] [((.inr "" : Key), V.bl true)] = dW [[]] := by
    show putK [] (Sum.inr (Str.ofString "")) (V.bl true) = _
    rw [show Str.ofString "" = S [] by decide +kernel]
    rfl
  rw [e]
  exact q p hp
/-! ### lists of words, of ints compared -/
def pdW (ws : List (List Nat)) : List PyData := ws.map fun w => .str (S w)
theorem dp_words {K : PySem.W.Frag} {H : Hp} : ∀ ws : List (List Nat), DpAll K H (ws.map fun w => V.str (S w)) (pdW ws)
  | [] => .nil
  | w :: ws => .cons (.str _) (dp_words ws)
def Small (ws : List (List Nat)) : Prop := ∀ w ∈ ws, ∀ c ∈ w, c < 1114112
theorem small_ok {w : List Nat} (h : ∀ c ∈ w, c < 1114112) : PyData.strOk (S w) = true := by
  show (S w).cps.all (· < 0x110000) = true
  rw [← Array.all_toList, List.all_eq_true]
  exact fun c hc => decide_eq_true (h c hc)
theorem lay_words : ∀ ws : List (List Nat), Small ws → PyData.canLayAll0 (pdW ws) = true ∧ PyData.depthAll (pdW ws) = 0 ∧ PyData.eqvAll (pdW ws) (pdW ws) = true
  | [], _ => ⟨by simp [pdW, PyData.canLayAll0], by simp [pdW, PyData.depthAll], by simp [pdW, PyData.eqvAll]⟩
  | w :: ws, h => by
    obtain ⟨h1, h2, h3⟩ := lay_words ws fun v hv => h v (List.mem_cons_of_mem _ hv)
    have h4 := small_ok (h w (List.mem_cons_self ..))
    unfold pdW at *
    refine ⟨?_, ?_, ?_⟩
    · simp [PyData.canLayAll0, PyData.canLay0]
      exact ⟨h4, by simpa using h1⟩
    · simp [PyData.depthAll, PyData.depth]
      simpa using h2
    · simp [PyData.eqvAll, PyData.eqv]
      simpa using h3
theorem shaped_words (ws : List (List Nat)) (h : Small ws) : SeqAt.shaped (.list (pdW ws)) = true := by
  obtain ⟨h1, h2, _⟩ := lay_words ws h
  unfold SeqAt.shaped
  simp [PyData.canLay0, PyData.depth, h1, h2]
theorem val_eqWords {K : PySem.W.Frag} {σ : L2.St} {H : Hp} {ta tb : TE} {a b : Addr} {ws : List (List Nat)} (ha : Val ta σ H (.ref a)) (hb : Val tb σ H (.ref b)) (h1 : SqL K H a (ws.map fun w => V.str (S w))) (h2 : SqL K H b (ws.map fun w => V.str (S w))) (hs : Small ws) :
    Val (tOp (rEqD K) ta tb) σ H (.bl true) := fun Q q => ha _ (hb _ ⟨.list (pdW ws), .list (pdW ws), .lst h1 (dp_words ws), .lst h2 (dp_words ws), shaped_words ws hs, shaped_words ws hs, by
    have e : PyData.eqv (.list (pdW ws)) (.list (pdW ws)) = true := by
      rw [PyData.eqv]
      exact (lay_words ws hs).2.2
    rw [e]
    exact q⟩)
def pdI (is : List Int) : List PyData := is.map .int
theorem dp_ints {K : PySem.W.Frag} {H : Hp} : ∀ is : List Int, DpAll K H (is.map V.int) (pdI is)
  | [] => .nil
  | w :: ws => .cons (.int w) (dp_ints ws)
theorem lay_ints : ∀ ws : List Int, PyData.canLayAll0 (pdI ws) = true ∧ PyData.depthAll (pdI ws) = 0 ∧ PyData.eqvAll (pdI ws) (pdI ws) = true
  | [] => ⟨by simp [pdI, PyData.canLayAll0], by simp [pdI, PyData.depthAll], by simp [pdI, PyData.eqvAll]⟩
  | w :: ws => by
    obtain ⟨h1, h2, h3⟩ := lay_ints ws
    unfold pdI at *
    refine ⟨?_, ?_, ?_⟩
    · simp [PyData.canLayAll0, PyData.canLay0]
      simpa using h1
    · simp [PyData.depthAll, PyData.depth]
      simpa using h2
    · simp [PyData.eqvAll, PyData.eqv]
      simpa using h3
theorem shaped_ints (ws : List Int) : SeqAt.shaped (.list (pdI ws)) = true := by
  obtain ⟨h1, h2, _⟩ := lay_ints ws
  unfold SeqAt.shaped
  simp [PyData.canLay0, PyData.depth, h1, h2]
theorem val_neInts {K : PySem.W.Frag} {σ : L2.St} {H : Hp} {ta tb : TE} {a b : Addr} {ws : List Int} (ha : Val ta σ H (.ref a)) (hb : Val tb σ H (.ref b)) (h1 : SqL K H a (ws.map V.int)) (h2 : SqL K H b (ws.map V.int)) :
    Val (tOp (rNeD K) ta tb) σ H (.bl false) := fun Q q => ha _ (hb _ ⟨.list (pdI ws), .list (pdI ws), .lst h1 (dp_ints ws), .lst h2 (dp_ints ws), shaped_ints ws, shaped_ints ws, by
    have e : PyData.eqv (.list (pdI ws)) (.list (pdI ws)) = true := by
      rw [PyData.eqv]
      exact (lay_ints ws).2.2
    rw [e]
    exact q⟩)
theorem ne_ints {K : PySem.W.Frag} {H : Hp} {a b : Addr} {ws : List Int} {Q : VK} (h1 : SqL K H a (ws.map V.int)) (h2 : SqL K H b (ws.map V.int)) (q : Q (.bl false) H) : rNeD K (.ref a) (.ref b) H Q :=
  ⟨.list (pdI ws), .list (pdI ws), .lst h1 (dp_ints ws), .lst h2 (dp_ints ws), shaped_ints ws, shaped_ints ws, by
    have e : PyData.eqv (.list (pdI ws)) (.list (pdI ws)) = true := by
      rw [PyData.eqv]
      exact (lay_ints ws).2.2
    rw [e]
    exact q⟩
/-! ### an ordered list without its repeats -/
def dd1 (ys : List (List Nat)) (w : List Nat) : List (List Nat) := if ys.getLast? = some w then ys else ys ++ [w]
def dd (ws : List (List Nat)) : List (List Nat) := ws.foldl dd1 []
theorem dd_snoc {ws : List (List Nat)} {w : List Nat} : dd (ws ++ [w]) = dd1 (dd ws) w := by unfold dd; rw [List.foldl_append]; rfl
theorem dd_ok : ∀ (n : Nat) (ws : List (List Nat)), ws.length = n → ws.Pairwise wle → (dd ws).Pairwise wle ∧ (dd ws).Nodup ∧ (∀ w, w ∈ dd ws ↔ w ∈ ws) ∧ (dd ws).getLast? = ws.getLast?
  | 0, ws, h, _ => by
    have : ws = [] := List.length_eq_zero_iff.mp h
    subst this
    exact ⟨List.Pairwise.nil, List.nodup_nil, fun _ => Iff.rfl, rfl⟩
  | n + 1, ws, h, hp => by
    have hne : ws ≠ [] := by intro z; rw [z] at h; simp at h
    obtain ⟨v, c, rfl⟩ : ∃ v c, ws = v ++ [c] := ⟨ws.dropLast, ws.getLast hne, (List.dropLast_concat_getLast hne).symm⟩
    have hv : v.length = n := by rw [List.length_append] at h; simpa using h
    obtain ⟨p1, _, p3⟩ := List.pairwise_append.mp hp
    obtain ⟨h1, h2, h3, h4⟩ := dd_ok n v hv p1
    rw [dd_snoc]
    unfold dd1
    have hall : ∀ x ∈ v, wle x c := fun x hx => p3 x hx c (List.mem_singleton.mpr rfl)
    split
    · rename_i hl
      have hc : c ∈ dd v := List.mem_of_getLast? hl
      refine ⟨h1, h2, fun w => ?_, by rw [hl, List.getLast?_append]; rfl⟩
      rw [List.mem_append, List.mem_singleton, h3]
      constructor
      · exact .inl
      · rintro (q | rfl)
        · exact q
        · exact (h3 _).mp hc
    · rename_i hl
      have hc : c ∉ dd v := fun hc => by
        have hcv := (h3 c).mp hc
        have hvne : v ≠ [] := fun z => by rw [z] at hcv; cases hcv
        have hlast : v.getLast? = some (v.getLast hvne) := List.getLast?_eq_some_getLast hvne
        have e : v = v.dropLast ++ [v.getLast hvne] := (List.dropLast_concat_getLast hvne).symm
        have hcz : wle c (v.getLast hvne) := by
          rw [e] at hcv
          rcases List.mem_append.mp hcv with q | q
          · rw [e] at p1
            exact (List.pairwise_append.mp p1).2.2 c q _ (List.mem_singleton.mpr rfl)
          · rw [List.mem_singleton.mp q]; exact wle_refl _
        have hzc := hall _ (List.getLast_mem hvne)
        have := wle_anti hcz hzc
        rw [h4, hlast, ← this] at hl
        exact hl rfl
      refine ⟨?_, ?_, fun w => ?_, ?_⟩
      · exact List.pairwise_append.mpr ⟨h1, List.pairwise_singleton _ _, fun x hx y hy => by rw [List.mem_singleton.mp hy]; exact hall x ((h3 x).mp hx)⟩
      · refine List.nodup_append.mpr ⟨h2, by simp, fun a ha b hb e => ?_⟩
        rw [List.mem_singleton.mp hb] at e
        exact hc (e ▸ ha)
      · rw [List.mem_append, List.mem_append, List.mem_singleton, h3]
      · rw [List.getLast?_append, List.getLast?_append]
        rfl
theorem dd_len (ws : List (List Nat)) (hp : ws.Pairwise wle) : (dd ws).length ≤ ws.length := by
  obtain ⟨_, h2, h3, _⟩ := dd_ok _ ws rfl hp
  exact h2.length_le_of_subset fun w hw => (h3 w).mp hw
theorem atI_last {α : Type} {xs : List α} {x : α} (h : xs.getLast? = some x) : atI xs (-1) = some x := by
  have hne : xs ≠ [] := fun z => by rw [z] at h; cases h
  have hl : 0 < xs.length := List.length_pos_iff.mpr hne
  unfold atI ixN
  rw [if_neg (by decide), if_pos (by omega)]
  show xs[((-1 : Int) + (xs.length : Int)).toNat]? = some x
  rw [show ((-1 : Int) + (xs.length : Int)).toNat = xs.length - 1 by omega, ← List.getLast?_eq_getElem?, h]
theorem tup_keep {H : Hp} {b p : Addr} {xs : List V} {o u : HO} (h : H b = some (.tup xs)) (hp : H p = some u) (hu : ∀ ys, u ≠ .tup ys) : upd H p o b = some (.tup xs) := by
  rw [upd_ne]
  · exact h
  · intro e
    rw [e, hp] at h
    exact hu xs (Option.some.inj h)
theorem tup_keep0 {H : Hp} {b p : Addr} {xs : List V} {o : HO} (h : H b = some (.tup xs)) (hp : H p = none) : upd H p o b = some (.tup xs) := by
  rw [upd_ne (ne_of_none h hp)]; exact h
/-! ### scattered words, by the rule -/
def scat1 (m : Int) (c : Nat) (ps : List (List Nat)) (acc : List (List Nat)) : List (List Nat) := ps.foldl (fun a p => if (p.length : Int) < m then addW a (p ++ [c]) else a) acc
def scat (m : Int) (w : List Nat) : List (List Nat) := w.foldl (fun ps c => scat1 m c ps ps) [[]]
theorem scat1_snoc {m : Int} {c : Nat} {ps acc : List (List Nat)} {p : List Nat} : scat1 m c (ps ++ [p]) acc = if (p.length : Int) < m then addW (scat1 m c ps acc) (p ++ [c]) else scat1 m c ps acc := by
  unfold scat1; rw [List.foldl_append]; rfl
theorem scat_snoc {m : Int} {c : Nat} {w : List Nat} : scat m (w ++ [c]) = scat1 m c (scat m w) (scat m w) := by
  unfold scat; rw [List.foldl_append]; rfl
/-- what is kept: no repeats, over the letters, short -/
structure Lot (lt : List Nat) (k : Nat) (m : Int) (ps : List (List Nat)) : Prop where
  nd : ps.Nodup
  ov : ∀ p ∈ ps, ∀ c ∈ p, c ∈ lt
  ln : ∀ p ∈ ps, p.length ≤ k ∧ (p.length : Int) ≤ max m 0
theorem Lot.nil {lt : List Nat} {m : Int} : Lot lt 0 m [[]] where
  nd := by simp
  ov := fun p hp c hc => by
    rw [List.mem_singleton.mp hp] at hc
    cases hc
  ln := fun p hp => by
    rw [List.mem_singleton.mp hp]
    exact ⟨Nat.le_refl _, by show (0 : Int) ≤ max m 0; omega⟩
theorem Lot.scat1 {lt : List Nat} {k : Nat} {m : Int} {c : Nat} (hc : c ∈ lt) : ∀ {ps acc : List (List Nat)}, Lot lt k m ps → Lot lt (k + 1) m acc → Lot lt (k + 1) m (scat1 m c ps acc)
  | [], acc, _, h => h
  | p :: ps, acc, hp, h => by
    have hp1 := hp.ln p (List.mem_cons_self ..)
    have hp2 := hp.ov p (List.mem_cons_self ..)
    have hps : Lot lt k m ps := ⟨(List.nodup_cons.mp hp.nd).2, fun v hv => hp.ov v (List.mem_cons_of_mem _ hv), fun v hv => hp.ln v (List.mem_cons_of_mem _ hv)⟩
    show Lot lt (k + 1) m (Co.scat1 m c ps (if (p.length : Int) < m then addW acc (p ++ [c]) else acc))
    refine Lot.scat1 hc hps ?_
    split
    · rename_i hlt
      refine ⟨addW_nd h.nd, fun v hv => ?_, fun v hv => ?_⟩
      · rcases addW_mem.mp hv with hv | rfl
        · exact h.ov v hv
        · intro x hx
          rcases List.mem_append.mp hx with hx | hx
          · exact hp2 x hx
          · rw [List.mem_singleton.mp hx]; exact hc
      · rcases addW_mem.mp hv with hv | rfl
        · exact h.ln v hv
        · rw [List.length_append]
          simp only [List.length_singleton]
          omega
    · exact h
theorem Lot.more {lt : List Nat} {k : Nat} {m : Int} {ps : List (List Nat)} (h : Lot lt k m ps) : Lot lt (k + 1) m ps := ⟨h.nd, h.ov, fun p hp => ⟨by have := (h.ln p hp).1; omega, (h.ln p hp).2⟩⟩
theorem Lot.take {lt : List Nat} {k : Nat} {m : Int} {ps : List (List Nat)} (h : Lot lt k m ps) (j : Nat) : Lot lt k m (ps.take j) :=
  ⟨h.nd.sublist (List.take_sublist j ps), fun p hp => h.ov p (List.mem_of_mem_take hp), fun p hp => h.ln p (List.mem_of_mem_take hp)⟩
theorem lot_scat {lt : List Nat} {m : Int} {w : List Nat} (hw : ∀ c ∈ w, c ∈ lt) : ∀ i, i ≤ w.length → Lot lt i m (scat m (w.take i))
  | 0, _ => by rw [List.take_zero]; exact Lot.nil
  | i + 1, hi => by
    obtain ⟨c, hc⟩ : ∃ c, w[i]? = some c := ⟨_, List.getElem?_eq_getElem (by omega)⟩
    have e : w.take (i + 1) = w.take i ++ [c] := by rw [List.take_succ, hc]; rfl
    have ih := lot_scat (m := m) hw i (by omega)
    rw [e, scat_snoc]
    exact Lot.scat1 (hw c (List.mem_of_getElem? hc)) ih ih.more
/-! ### all words of some length -/
def layer (lt : List Nat) : Nat → List (List Nat)
  | 0 => [[]]
  | n + 1 => (layer lt n).flatMap fun w => lt.map fun c => w ++ [c]
def upTo (lt : List Nat) : Nat → List (List Nat)
  | 0 => [[]]
  | n + 1 => upTo lt n ++ layer lt (n + 1)
def sums (m : Nat) : Nat → Nat
  | 0 => 1
  | n + 1 => sums m n + m ^ (n + 1)
theorem layer_len (lt : List Nat) : ∀ n, (layer lt n).length = lt.length ^ n
  | 0 => rfl
  | n + 1 => by
    show ((layer lt n).flatMap fun w => lt.map fun c => w ++ [c]).length = _
    rw [List.length_flatMap]
    have e : ((layer lt n).map fun w => (lt.map fun c => w ++ [c]).length) = List.replicate (layer lt n).length lt.length := by
      rw [List.eq_replicate_iff]
      refine ⟨List.length_map .., fun b hb => ?_⟩
      obtain ⟨c, _, rfl⟩ := List.mem_map.mp hb
      exact List.length_map ..
    rw [e, List.sum_replicate_nat, layer_len lt n, Nat.pow_succ]
theorem upTo_len (lt : List Nat) : ∀ n, (upTo lt n).length = sums lt.length n
  | 0 => rfl
  | n + 1 => by
    show (upTo lt n ++ layer lt (n + 1)).length = _
    rw [List.length_append, upTo_len lt n, layer_len]
    rfl
theorem mem_layer {lt : List Nat} : ∀ (n : Nat) (w : List Nat), w.length = n → (∀ c ∈ w, c ∈ lt) → w ∈ layer lt n
  | 0, w, h, _ => by
    have : w = [] := List.length_eq_zero_iff.mp h
    subst this
    exact List.mem_singleton.mpr rfl
  | n + 1, w, h, ho => by
    have hne : w ≠ [] := by intro z; rw [z] at h; simp at h
    obtain ⟨v, c, rfl⟩ : ∃ v c, w = v ++ [c] := ⟨w.dropLast, w.getLast hne, (List.dropLast_concat_getLast hne).symm⟩
    have hv : v.length = n := by rw [List.length_append] at h; simpa using h
    exact List.mem_flatMap.mpr ⟨v, mem_layer n v hv fun x hx => ho x (List.mem_append.mpr (.inl hx)), List.mem_map.mpr ⟨c, ho c (List.mem_append.mpr (.inr (List.mem_singleton.mpr rfl))), rfl⟩⟩
theorem mem_upTo {lt : List Nat} : ∀ (n : Nat) (w : List Nat), w.length ≤ n → (∀ c ∈ w, c ∈ lt) → w ∈ upTo lt n
  | 0, w, h, _ => by
    have : w = [] := List.length_eq_zero_iff.mp (by omega)
    subst this
    exact List.mem_singleton.mpr rfl
  | n + 1, w, h, ho => by
    refine List.mem_append.mpr ?_
    by_cases e : w.length ≤ n
    · exact .inl (mem_upTo n w e ho)
    · exact .inr (mem_layer (n + 1) w (by omega) ho)
theorem layer_word {lt : List Nat} : ∀ (n : Nat) (w : List Nat), w ∈ layer lt n → w.length = n
  | 0, w, h => by rw [List.mem_singleton.mp h]; rfl
  | n + 1, w, h => by
    obtain ⟨v, hv, h2⟩ := List.mem_flatMap.mp h
    obtain ⟨c, _, rfl⟩ := List.mem_map.mp h2
    rw [List.length_append, layer_word n v hv]
    rfl
theorem flat_take {α β : Type} (f : α → List β) (l : List α) (j : Nat) : ((l.take j).flatMap f).length ≤ (l.flatMap f).length := by
  have e : l.flatMap f = (l.take j).flatMap f ++ (l.drop j).flatMap f := by rw [← List.flatMap_append, List.take_append_drop]
  rw [e, List.length_append]
  exact Nat.le_add_right _ _
theorem sums_pos (m : Nat) : ∀ n, 0 < sums m n
  | 0 => Nat.one_pos
  | n + 1 => Nat.lt_of_lt_of_le (sums_pos m n) (Nat.le_add_right _ _)
theorem sums_mono {m : Nat} : ∀ {n k : Nat}, n ≤ k → sums m n ≤ sums m k
  | n, 0, h => by rw [show n = 0 by omega]; exact Nat.le_refl _
  | n, k + 1, h => by
    by_cases e : n = k + 1
    · rw [e]; exact Nat.le_refl _
    · exact Nat.le_trans (sums_mono (k := k) (by omega)) (Nat.le_add_right _ _)
theorem sums_base {m m' : Nat} (h : m ≤ m') : ∀ n, sums m n ≤ sums m' n
  | 0 => Nat.le_refl _
  | n + 1 => Nat.add_le_add (sums_base h n) (Nat.pow_le_pow_left h _)
theorem Lot.few {lt : List Nat} {k n : Nat} {m : Int} {ps : List (List Nat)} (h : Lot lt k m ps) (hn : k ≤ n ∨ max m 0 ≤ n) : ps.length ≤ sums lt.length n := by
  rw [← upTo_len]
  refine h.nd.length_le_of_subset fun w hw => mem_upTo n w ?_ (h.ov w hw)
  have := h.ln w hw
  omega
end Co
/-! Specs: what the defs promise. -/
namespace Co
open PySem L2
theorem len_sp_law_next {vs : List V} {H : Hp} {Q : VK} {E : XK} (h : sp_law_next vs H Q E) : vs.length = 2 := by obtain ⟨_, _, _, _, rfl, _⟩ := h; rfl
def sp_law_start (K : PySem.W.Frag) : Sp := fun vs H Q _ => ∃ (G : Hp) (L : Own) (a : Addr) (ns : List Int), vs = [.ref a] ∧ At G H L ∧ SqL K G a (ns.map V.int) ∧ ns.length ≤ 63 ∧
  ∀ G' H' s, Same G G' → At G' H' ((s, oSt) :: L) → Q (.ref s) H'
theorem len_sp_law_start {K : PySem.W.Frag} {vs : List V} {H : Hp} {Q : VK} {E : XK} (h : sp_law_start K vs H Q E) : vs.length = 1 := by obtain ⟨_, _, _, _, rfl, _⟩ := h; rfl
def sp_law_word : Sp := fun vs H Q _ => ∃ (G : Hp) (L : Own) (s : Addr) (lt : List Nat) (n : Int), vs = [.ref s, .str (S lt), .int n] ∧ At G H ((s, oSt) :: L) ∧ 0 < lt.length ∧ lt.length ≤ 1000 ∧ 0 ≤ n ∧ n ≤ 1000 ∧
  ∀ H' (w : List Nat), At G H' ((s, oSt) :: L) → (∀ c ∈ w, c ∈ lt) → (w.length : Int) = n → Q (.str (S w)) H'
theorem len_sp_law_word {vs : List V} {H : Hp} {Q : VK} {E : XK} (h : sp_law_word vs H Q E) : vs.length = 3 := by obtain ⟨_, _, _, _, _, rfl, _⟩ := h; rfl
/-! ### words -/
abbrev sV (w : List Nat) : V := .str (S w)
/-- letters: 1 to 4 small ones, ascending -/
structure GoodL (lt : List Nat) : Prop where
  pos : 0 < lt.length
  few : lt.length ≤ 4
  asc : lt.Pairwise (· < ·)
  small : ∀ c ∈ lt, 97 ≤ c ∧ c ≤ 122
def Over (lt w : List Nat) : Prop := ∀ c ∈ w, c ∈ lt
def rankF (lt : List Nat) (w : List Nat) : Int := w.foldl (fun n c => n * (lt.length : Int) + (lt.idxOf c : Int) + 1) 0
def rankN (lt : List Nat) (w : List Nat) : Int := w.foldl (fun n c => n * (lt.length : Int) + (lt.idxOf c : Int)) 0
def rankP (lt : List Nat) : Nat → Int
  | 0 => 1
  | i + 1 => rankP lt i * (lt.length : Int)
def rankB (lt : List Nat) : Nat → Int
  | 0 => 0
  | i + 1 => rankB lt i + rankP lt i
theorem rankP_succ {lt : List Nat} {i : Nat} : rankP lt (i + 1) = rankP lt i * (lt.length : Int) := rfl
theorem rankB_succ {lt : List Nat} {i : Nat} : rankB lt (i + 1) = rankB lt i + rankP lt i := rfl
theorem take_snoc {α : Type} {w : List α} {i : Nat} {c : α} (h : w[i]? = some c) : w.take (i + 1) = w.take i ++ [c] := by
  rw [List.take_succ, h]; rfl
theorem rankN_snoc {lt w : List Nat} {c : Nat} : rankN lt (w ++ [c]) = rankN lt w * (lt.length : Int) + (lt.idxOf c : Int) := by
  unfold rankN; rw [List.foldl_append]; rfl
theorem rankF_snoc {lt w : List Nat} {c : Nat} : rankF lt (w ++ [c]) = rankF lt w * (lt.length : Int) + (lt.idxOf c : Int) + 1 := by
  unfold rankF; rw [List.foldl_append]; rfl
theorem rankN_succ {lt w : List Nat} {i c : Nat} (h : w[i]? = some c) : rankN lt (w.take (i + 1)) = rankN lt (w.take i) * (lt.length : Int) + (lt.idxOf c : Int) := by rw [take_snoc h, rankN_snoc]
theorem rankF_succ {lt w : List Nat} {i c : Nat} (h : w[i]? = some c) : rankF lt (w.take (i + 1)) = rankF lt (w.take i) * (lt.length : Int) + (lt.idxOf c : Int) + 1 := by rw [take_snoc h, rankF_snoc]
theorem rankB_mul (lt : List Nat) : ∀ i, rankB lt i * (lt.length : Int) + 1 = rankB lt i + rankP lt i
  | 0 => by show (0 : Int) * _ + 1 = 0 + 1; rw [Int.zero_mul]
  | i + 1 => by
    have ih := rankB_mul lt i
    rw [rankB_succ, rankP_succ, Int.add_mul, ← ih]
    omega
theorem rank_split {lt : List Nat} (w : List Nat) : rankB lt w.length + rankN lt w = rankF lt w := by
  have key : ∀ (n : Nat) (w : List Nat), w.length = n → rankB lt w.length + rankN lt w = rankF lt w := by
    intro n
    induction n with
    | zero =>
      intro w h
      cases w with
      | nil => rfl
      | cons _ _ => simp at h
    | succ n ih =>
      intro w h
      have hne : w ≠ [] := by intro z; rw [z] at h; simp at h
      obtain ⟨v, c, rfl⟩ : ∃ v c, w = v ++ [c] := ⟨w.dropLast, w.getLast hne, (List.dropLast_concat_getLast hne).symm⟩
      have hv : v.length = n := by rw [List.length_append] at h; simpa using h
      have e := ih v hv
      have hm := rankB_mul lt v.length
      rw [rankN_snoc, rankF_snoc, ← e, List.length_append, List.length_singleton, rankB_succ, Int.add_mul]
      omega
  exact key _ w rfl
theorem rankF_nn (lt : List Nat) (w : List Nat) : 0 ≤ rankF lt w := by
  unfold rankF
  have key : ∀ (w : List Nat) (z : Int), 0 ≤ z → 0 ≤ w.foldl (fun n c => n * (lt.length : Int) + (lt.idxOf c : Int) + 1) z := by
    intro w
    induction w with
    | nil => exact fun z h => h
    | cons c r ih =>
      intro z h
      refine ih _ ?_
      show (0 : Int) ≤ z * (lt.length : Int) + (lt.idxOf c : Int) + 1
      have := Int.mul_nonneg h (Int.natCast_nonneg lt.length)
      omega
  exact key w 0 (Int.le_refl _)
theorem idx_get {lt : List Nat} {c : Nat} (h : c ∈ lt) : lt[lt.idxOf c]? = some c := by
  have hix := List.idxOf_lt_length_iff.mpr h
  rw [List.getElem?_eq_getElem hix, List.getElem_idxOf]
theorem rankP_pos {lt : List Nat} (h : 0 < lt.length) : ∀ i, 0 < rankP lt i
  | 0 => by show (0 : Int) < 1; omega
  | i + 1 => by rw [rankP_succ]; exact Int.mul_pos (rankP_pos h i) (by omega)
theorem rankN_lt {lt : List Nat} (hp : 0 < lt.length) {w : List Nat} (ho : Over lt w) : ∀ i, i ≤ w.length → 0 ≤ rankN lt (w.take i) ∧ rankN lt (w.take i) < rankP lt i
  | 0, _ => by rw [List.take_zero]; exact ⟨Int.le_refl _, by show (0 : Int) < 1; omega⟩
  | i + 1, hi => by
    obtain ⟨c, hc⟩ : ∃ c, w[i]? = some c := ⟨_, List.getElem?_eq_getElem (by omega)⟩
    have hix : lt.idxOf c < lt.length := List.idxOf_lt_length_iff.mpr (ho c (List.mem_of_getElem? hc))
    obtain ⟨h1, h2⟩ := rankN_lt hp ho i (by omega)
    rw [rankN_succ hc, rankP_succ]
    have m0 := Int.mul_nonneg h1 (Int.natCast_nonneg lt.length)
    have m1 : (rankN lt (w.take i) + 1) * (lt.length : Int) ≤ rankP lt i * (lt.length : Int) := Int.mul_le_mul_of_nonneg_right (by omega) (by omega)
    rw [Int.add_mul, Int.one_mul] at m1
    omega
theorem rankB_le {lt : List Nat} (hp : 0 < lt.length) : ∀ {i j}, i ≤ j → rankB lt i ≤ rankB lt j
  | i, 0, h => by rw [show i = 0 by omega]; exact Int.le_refl _
  | i, j + 1, h => by
    by_cases e : i = j + 1
    · rw [e]; exact Int.le_refl _
    · have := rankB_le hp (i := i) (j := j) (by omega)
      have p := rankP_pos hp j
      rw [rankB_succ]
      omega
theorem rankF_lt {lt : List Nat} (hp : 0 < lt.length) {w : List Nat} (ho : Over lt w) {k : Nat} (hk : w.length ≤ k) : rankF lt w < rankB lt (k + 1) := by
  have h1 := rank_split (lt := lt) w
  have h2 := (rankN_lt hp ho w.length (Nat.le_refl _)).2
  rw [List.take_length] at h2
  have h3 := rankB_le hp (i := w.length + 1) (j := k + 1) (by omega)
  rw [rankB_succ] at h3
  omega
/-- each number below the bound is a word's -/
theorem rank_all {lt : List Nat} (hp : 0 < lt.length) (hd : lt.Nodup) {k : Nat} : ∀ n : Nat, (n : Int) < rankB lt (k + 1) → ∃ w, Over lt w ∧ w.length ≤ k ∧ rankF lt w = n := by
  have key : ∀ n : Nat, ∃ w, Over lt w ∧ rankF lt w = n := by
    intro n
    refine Nat.strongRecOn n ?_
    intro n ih
    · skip
      cases n with
      | zero => exact ⟨[], fun _ h => (by cases h), rfl⟩
      | succ n =>
        have hlt : n / lt.length < n + 1 := Nat.lt_succ_of_le (Nat.div_le_self _ _)
        obtain ⟨v, hv, e⟩ := ih _ hlt
        have hm := Nat.mod_lt n hp
        refine ⟨v ++ [lt[n % lt.length]], fun c hc => ?_, ?_⟩
        · rcases List.mem_append.mp hc with hc | hc
          · exact hv c hc
          · rw [List.mem_singleton.mp hc]; exact List.getElem_mem _
        · rw [rankF_snoc, e, hd.idxOf_getElem]
          have := Nat.div_add_mod n lt.length
          rw [Nat.mul_comm] at this
          have h2 : (((n / lt.length) * lt.length + n % lt.length : Nat) : Int) = (n : Int) := by rw [this]
          rw [Int.natCast_add, Int.natCast_mul] at h2
          omega
  intro n hn
  obtain ⟨w, ho, e⟩ := key n
  refine ⟨w, ho, ?_, e⟩
  apply Decidable.byContradiction
  intro hc
  have h1 := rank_split (lt := lt) w
  have h2 := (rankN_lt hp ho w.length (Nat.le_refl _)).1
  rw [List.take_length] at h2
  have h3 := rankB_le hp (i := k + 1) (j := w.length) (by omega)
  omega
def classF (lt w : List Nat) (e p : Int) : List Int := lt.map fun c => if e ≤ (w.count c : Int) then e + ((w.count c : Int) - e) % p else (w.count c : Int)
/-! ### promises -/
def sp_check_letters : Sp := fun vs H Q _ => ∃ lt, vs = [sV lt] ∧ GoodL lt ∧ Q .non H
theorem len_sp_check_letters {vs : List V} {H : Hp} {Q : VK} {E : XK} (h : sp_check_letters vs H Q E) : vs.length = 1 := by obtain ⟨_, rfl, _⟩ := h; rfl
def sp_check_word : Sp := fun vs H Q _ => ∃ lt w, vs = [sV lt, sV w] ∧ Over lt w ∧ w.length ≤ 100000 ∧ ∀ H', Same H H' → Q .non H'
theorem len_sp_check_word {vs : List V} {H : Hp} {Q : VK} {E : XK} (h : sp_check_word vs H Q E) : vs.length = 2 := by obtain ⟨_, _, rfl, _⟩ := h; rfl
def sp_law_pick : Sp := fun vs H Q _ => ∃ (G : Hp) (L : Own) (s a : Addr) (xs : List V), vs = [.ref s, .ref a] ∧ At G H ((s, oSt) :: L) ∧ (∀ H', At G H' ((s, oSt) :: L) → H' a = some (.lst xs)) ∧ 0 < xs.length ∧ xs.length < 1000000000 ∧
  ∀ H' x, At G H' ((s, oSt) :: L) → x ∈ xs → Q x H'
theorem len_sp_law_pick {vs : List V} {H : Hp} {Q : VK} {E : XK} (h : sp_law_pick vs H Q E) : vs.length = 2 := by obtain ⟨_, _, _, _, _, rfl, _⟩ := h; rfl
def sp_law_integer : Sp := fun vs H Q _ => ∃ i, vs = [.int i] ∧ Q (.bl true) H
theorem len_sp_law_integer {vs : List V} {H : Hp} {Q : VK} {E : XK} (h : sp_law_integer vs H Q E) : vs.length = 1 := by obtain ⟨_, rfl, _⟩ := h; rfl
def sp_law_strings : Sp := fun vs H Q _ => ∃ (a b : Addr) (ws : List (List Nat)), vs = [.ref a, .ref b] ∧ H a = some (.lst (ws.map sV)) ∧ H b = some (.lst (ws.map sV)) ∧ ws.length ≤ 16777216 ∧ Q (.bl true) H
theorem len_sp_law_strings {vs : List V} {H : Hp} {Q : VK} {E : XK} (h : sp_law_strings vs H Q E) : vs.length = 2 := by obtain ⟨_, _, _, rfl, _⟩ := h; rfl
def sp_law_same_text : Sp := fun vs H Q _ => ∃ w, vs = [sV w, sV w] ∧ Q (.bl true) H
theorem len_sp_law_same_text {vs : List V} {H : Hp} {Q : VK} {E : XK} (h : sp_law_same_text vs H Q E) : vs.length = 2 := by obtain ⟨_, rfl, _⟩ := h; rfl
def sp_law_alphabet : Sp := fun vs H Q _ => ∃ (G : Hp) (L : Own) (s : Addr) (n : Int), vs = [.ref s, .int n] ∧ At G H ((s, oSt) :: L) ∧ 1 ≤ n ∧ n ≤ 4 ∧
  ∀ H' lt, At G H' ((s, oSt) :: L) → GoodL lt → (lt.length : Int) ≤ n → Q (sV lt) H'
theorem len_sp_law_alphabet {vs : List V} {H : Hp} {Q : VK} {E : XK} (h : sp_law_alphabet vs H Q E) : vs.length = 2 := by obtain ⟨_, _, _, _, rfl, _⟩ := h; rfl
def sp_law_power : Sp := fun vs H Q _ => ∃ (m n : Nat), vs = [.int m, .int n] ∧ m ≤ 1000 ∧ n ≤ 100000 ∧ Q (.int ((m ^ n : Nat) : Int)) H
theorem len_sp_law_power {vs : List V} {H : Hp} {Q : VK} {E : XK} (h : sp_law_power vs H Q E) : vs.length = 2 := by obtain ⟨_, _, rfl, _⟩ := h; rfl
def sp_law_rank_due : Sp := fun vs H Q _ => ∃ lt w, vs = [sV lt, sV w] ∧ GoodL lt ∧ Over lt w ∧ w.length ≤ 100000 ∧ Q (.int (rankF lt w)) H
theorem len_sp_law_rank_due {vs : List V} {H : Hp} {Q : VK} {E : XK} (h : sp_law_rank_due vs H Q E) : vs.length = 2 := by obtain ⟨_, _, rfl, _⟩ := h; rfl
def sp_rank : Sp := fun vs H Q _ => ∃ lt w, vs = [sV lt, sV w] ∧ GoodL lt ∧ Over lt w ∧ w.length ≤ 100000 ∧ ∀ H', Same H H' → Q (.int (rankF lt w)) H'
theorem len_sp_rank {vs : List V} {H : Hp} {Q : VK} {E : XK} (h : sp_rank vs H Q E) : vs.length = 2 := by obtain ⟨_, _, rfl, _⟩ := h; rfl
def sp_class_of : Sp := fun vs H Q _ => ∃ (G : Hp) (L : Own) (lt w : List Nat) (e p : Int), vs = [sV lt, sV w, .int e, .int p] ∧ At G H L ∧ lt.length ≤ 4 ∧ w.length ≤ 100000 ∧ 0 < p ∧ p ≤ 1000000 ∧
  ∀ H' q, At G H' ((q, oIs (.tup ((classF lt w e p).map V.int))) :: L) → Q (.ref q) H'
theorem len_sp_class_of {vs : List V} {H : Hp} {Q : VK} {E : XK} (h : sp_class_of vs H Q E) : vs.length = 4 := by obtain ⟨_, _, _, _, _, _, rfl, _⟩ := h; rfl
def sp_words_to : Sp := fun vs H Q _ => ∃ (G : Hp) (L : Own) (lt : List Nat) (n : Nat), vs = [sV lt, .int n] ∧ At G H L ∧ GoodL lt ∧ n ≤ 6 ∧
  ∀ H' p, At G H' ((p, oIs (.lst ((upTo lt n).map sV))) :: L) → Q (.ref p) H'
theorem len_sp_words_to {vs : List V} {H : Hp} {Q : VK} {E : XK} (h : sp_words_to vs H Q E) : vs.length = 2 := by obtain ⟨_, _, _, _, rfl, _⟩ := h; rfl
def sp_law_all_words : Sp := sp_words_to
theorem len_sp_law_all_words {vs : List V} {H : Hp} {Q : VK} {E : XK} (h : sp_law_all_words vs H Q E) : vs.length = 2 := len_sp_words_to h
def sp_law_long_word : Sp := fun vs H Q _ => ∃ (G : Hp) (L : Own) (s : Addr) (lt : List Nat), vs = [.ref s, sV lt] ∧ At G H ((s, oSt) :: L) ∧ GoodL lt ∧
  ∀ H' w, At G H' ((s, oSt) :: L) → Over lt w → w.length ≤ 200 → Q (sV w) H'
theorem len_sp_law_long_word {vs : List V} {H : Hp} {Q : VK} {E : XK} (h : sp_law_long_word vs H Q E) : vs.length = 2 := by obtain ⟨_, _, _, _, rfl, _⟩ := h; rfl
/-! ### ordered lists -/
def sp_in_order : Sp := fun vs H Q _ => ∃ (G : Hp) (L : Own) (a : Addr) (ws : List (List Nat)), vs = [.ref a] ∧ At G H ((a, oIs (.lst (ws.map sV))) :: L) ∧ ws.length ≤ 1000000 ∧ (∀ w ∈ ws, w.length ≤ 1000000) ∧
  ∀ H' p ys, At G H' ((p, oIs (.lst (ys.map sV))) :: (a, oIs (.lst (ws.map sV))) :: L) → Told ys ws → Q (.ref p) H'
theorem len_sp_in_order {vs : List V} {H : Hp} {Q : VK} {E : XK} (h : sp_in_order vs H Q E) : vs.length = 1 := by obtain ⟨_, _, _, _, rfl, _⟩ := h; rfl
def sp_law_in_order : Sp := sp_in_order
theorem len_sp_law_in_order {vs : List V} {H : Hp} {Q : VK} {E : XK} (h : sp_law_in_order vs H Q E) : vs.length = 1 := len_sp_in_order h
def winds (w : List Nat) (n : Nat) : List (List Nat) := (List.range (w.length + 1 - n)).map fun i => (w.drop i).take n
def sp_windows : Sp := fun vs H Q _ => ∃ (G : Hp) (L : Own) (w : List Nat) (n : Nat), vs = [sV w, .int n] ∧ At G H L ∧ w.length ≤ 1000 ∧ 0 < n ∧ n ≤ 10000 ∧
  ∀ H' p ys, At G H' ((p, oIs (.lst (ys.map sV))) :: L) → Told ys (winds w n) → Q (.ref p) H'
theorem len_sp_windows {vs : List V} {H : Hp} {Q : VK} {E : XK} (h : sp_windows vs H Q E) : vs.length = 2 := by obtain ⟨_, _, _, _, rfl, _⟩ := h; rfl
def sp_scattered_words : Sp := fun vs H Q _ => ∃ (G : Hp) (L : Own) (lt w : List Nat) (m : Int) (n : Nat), vs = [sV w, .int m] ∧ At G H L ∧ Over lt w ∧ (w.length ≤ n ∨ max m 0 ≤ n) ∧ sums lt.length n ≤ 1000000 ∧ w.length ≤ 1000 ∧
  ∀ H' p ys, At G H' ((p, oIs (.lst (ys.map sV))) :: L) → Told ys (scat m w) → Q (.ref p) H'
theorem len_sp_scattered_words {vs : List V} {H : Hp} {Q : VK} {E : XK} (h : sp_scattered_words vs H Q E) : vs.length = 2 := by obtain ⟨_, _, _, _, _, _, rfl, _⟩ := h; rfl
def sp_law_scattered_due : Sp := sp_scattered_words
theorem len_sp_law_scattered_due {vs : List V} {H : Hp} {Q : VK} {E : XK} (h : sp_law_scattered_due vs H Q E) : vs.length = 2 := len_sp_scattered_words h
/-! ### words by number -/
def sp_word_at : Sp := fun vs H Q _ => ∃ lt w, vs = [sV lt, .int (rankF lt w)] ∧ GoodL lt ∧ Over lt w ∧ w.length ≤ 200 ∧ ∀ H', Same H H' → Q (sV w) H'
theorem len_sp_word_at {vs : List V} {H : Hp} {Q : VK} {E : XK} (h : sp_word_at vs H Q E) : vs.length = 2 := by obtain ⟨_, _, rfl, _⟩ := h; rfl
def sp_law_word_due : Sp := sp_word_at
theorem len_sp_law_word_due {vs : List V} {H : Hp} {Q : VK} {E : XK} (h : sp_law_word_due vs H Q E) : vs.length = 2 := len_sp_word_at h
/-- the two long words of the script -/
def oWs (lt : List Nat) : OP := ⟨fun _ o => ∃ u v, o = .lst [sV u, sV v] ∧ Over lt u ∧ Over lt v ∧ u.length ≤ 200 ∧ v.length ≤ 200, fun _ h => h⟩
def sp_law_numbers_of : Sp := fun vs H Q _ => ∃ (G : Hp) (L : Own) (s a : Addr) (lt : List Nat), vs = [.ref s, sV lt, .ref a] ∧ At G H ((s, oSt) :: (a, oWs lt) :: L) ∧ GoodL lt ∧
  ∀ H' p (ns : List Int), At G H' ((p, oIs (.lst (ns.map V.int))) :: (s, oSt) :: (a, oWs lt) :: L) → (∀ n ∈ ns, 0 ≤ n ∧ n < rankB lt 201) → Q (.ref p) H'
theorem len_sp_law_numbers_of {vs : List V} {H : Hp} {Q : VK} {E : XK} (h : sp_law_numbers_of vs H Q E) : vs.length = 3 := by obtain ⟨_, _, _, _, _, rfl, _⟩ := h; rfl
/-- one part of the law: true, at whatever is drawn -/
def sp_law_lists_hold : Sp := fun vs H Q _ => ∃ (G : Hp) (L : Own) (s : Addr) (lt : List Nat), vs = [.ref s, sV lt] ∧ At G H ((s, oSt) :: L) ∧ GoodL lt ∧ ∀ H', At G H' ((s, oSt) :: L) → Q (.bl true) H'
theorem len_sp_law_lists_hold {vs : List V} {H : Hp} {Q : VK} {E : XK} (h : sp_law_lists_hold vs H Q E) : vs.length = 2 := by obtain ⟨_, _, _, _, rfl, _⟩ := h; rfl
def sp_law_scattered_hold : Sp := sp_law_lists_hold
theorem len_sp_law_scattered_hold {vs : List V} {H : Hp} {Q : VK} {E : XK} (h : sp_law_scattered_hold vs H Q E) : vs.length = 2 := len_sp_law_lists_hold h
def sp_law_order_holds : Sp := fun vs H Q _ => ∃ (G : Hp) (L : Own) (s a : Addr) (lt : List Nat), vs = [.ref s, sV lt, .ref a] ∧ At G H ((s, oSt) :: (a, oWs lt) :: L) ∧ GoodL lt ∧ ∀ H', At G H' ((s, oSt) :: (a, oWs lt) :: L) → Q (.bl true) H'
theorem len_sp_law_order_holds {vs : List V} {H : Hp} {Q : VK} {E : XK} (h : sp_law_order_holds vs H Q E) : vs.length = 3 := by obtain ⟨_, _, _, _, _, rfl, _⟩ := h; rfl
def sp_law_class_holds : Sp := sp_law_order_holds
theorem len_sp_law_class_holds {vs : List V} {H : Hp} {Q : VK} {E : XK} (h : sp_law_class_holds vs H Q E) : vs.length = 3 := len_sp_law_order_holds h
def sp_law_windows_hold : Sp := fun vs H Q _ => ∃ (G : Hp) (L : Own) (s a : Addr) (lt : List Nat), vs = [.ref s, .ref a] ∧ At G H ((s, oSt) :: (a, oWs lt) :: L) ∧ ∀ H', At G H' ((s, oSt) :: (a, oWs lt) :: L) → Q (.bl true) H'
theorem len_sp_law_windows_hold {vs : List V} {H : Hp} {Q : VK} {E : XK} (h : sp_law_windows_hold vs H Q E) : vs.length = 2 := by obtain ⟨_, _, _, _, _, rfl, _⟩ := h; rfl
def sp_law (K : PySem.W.Frag) : Sp := fun vs H Q _ => ∃ (a : Addr) (ns : List Int), vs = [.ref a] ∧ SqL K H a (ns.map V.int) ∧ ns.length ≤ 63 ∧ ∀ H', Q (.bl true) H'
theorem len_sp_law {K : PySem.W.Frag} {vs : List V} {H : Hp} {Q : VK} {E : XK} (h : sp_law K vs H Q E) : vs.length = 1 := by obtain ⟨_, _, rfl, _⟩ := h; rfl
/-- a draw within an expression -/
theorem next_ {σ : L2.St} {H : Hp} {t : TA} {E : XK} {Q : VK} {G : Hp} {L : Own} {s : Addr} {n : Int} (ha : AVal t σ H [.ref s, .int n]) (hA : At G H ((s, oSt) :: L)) (h0 : 0 < n) (h1 : n < 1073741824)
    (q : ∀ H' (k : Int), At G H' ((s, oSt) :: L) → 0 ≤ k → k < n → Q (.int k) H') : tCall sp_law_next [] E t σ H Q := ha _ ⟨G, L, s, n, rfl, hA, h0, h1, q⟩
theorem nextN_ {σ : L2.St} {H : Hp} {t : TA} {E : XK} {Q : VK} {G : Hp} {L : Own} {s : Addr} {n : Int} (ha : AVal t σ H [.ref s, .int n]) (hA : At G H ((s, oSt) :: L)) (h0 : 0 < n) (h1 : n < 1073741824)
    (q : ∀ H' (j : Nat), At G H' ((s, oSt) :: L) → (j : Int) < n → Q (.int (j : Int)) H') : tCall sp_law_next [] E t σ H Q := next_ ha hA h0 h1 fun H' k hA' k0 k1 => by
  obtain ⟨j, rfl⟩ : ∃ j : Nat, k = (j : Int) := ⟨k.toNat, by omega⟩
  exact q H' j hA' k1
def abc : List Nat := List.range' 97 26
theorem small_S : (Str.ofString "abcdefghijklmnopqrstuvwxyz") = S abc := by decide +kernel
theorem abc_len : abc.length = 26 := List.length_range' ..
theorem abc_get {j : Nat} (h : j < 26) : abc[j]? = some (97 + j) := by unfold abc; rw [List.getElem?_range' h]; simp
theorem mem_abc {c : Nat} : c ∈ abc ↔ 97 ≤ c ∧ c ≤ 122 := by unfold abc; rw [List.mem_range'_1]; omega
theorem val_abc {σ : L2.St} {H : Hp} : Val (tC (.str "abcdefghijklmnopqrstuvwxyz")) σ H (sV abc) := by rw [small_S]; exact val_c
/-! ### statements whose parts call -/
section
variable {σ : L2.St} {H : Hp} {D : Ends} {t1 t2 u : TS} {te ta tb : TE} {tt tu : TT} {v : V} {i : Nat} {sp : Sp} {E : XK} {t : TA} {vs : List V} {Q : VK} {QB : Bool → Hp → Prop} {r : R2}
theorem q_whenx (q : tt σ H fun b H1 => if b = true then t1 { D with nx := u D } σ H1 else u D σ H1) : tSeq (tIfS tt t1 tNext) u D σ H := q
theorem st_whenx (q : tt σ H fun b H1 => if b = true then t1 D σ H1 else D.nx σ H1) : tIfS tt t1 tNext D σ H := q
theorem nt_ (q : tt σ H fun c H1 => QB (!c) H1) : tNot tt σ H QB := q
theorem tst_ (q : te σ H fun x H1 => ∃ c, x = .bl c ∧ QB c H1) : tTest te σ H QB := q
theorem or_ (q : tt σ H fun c H1 => if c = true then QB true H1 else tu σ H1 QB) : tOr tt tu σ H QB := q
theorem and_ (q : tt σ H fun c H1 => if c = true then tu σ H1 QB else QB false H1) : tAnd tt tu σ H QB := q
theorem val_call (ha : AVal t σ H vs) (q : ∀ Q : VK, Q v H → sp (vs ++ []) H Q E) : Val (tCall sp [] E t) σ H v := fun Q h => ha _ (q Q h)
theorem q_subx {to ti : TE} {r : TSet} (q : te σ H fun v H1 => to σ H1 fun o H2 => ti σ H2 fun i H3 => r o i v H3 fun H4 => u D σ H4) : tSeq (tAsg te (gSub to ti r)) u D σ H := q
theorem andv_ (q : ta σ H fun x H1 => ∃ c, x = .bl c ∧ if c = true then tb σ H1 Q else Q (.bl false) H1) : tAndV ta tb σ H Q := q
theorem gn_ {QS : L2.St → Hp → Prop} (q : QS (σ.set i (some v)) H) : gName i v σ H QS := q
theorem q_appx {K : PySem.W.Frag} {l : Addr} {xs : List V} (ho : Val ta σ H (.ref l)) (hl : H l = some (.lst xs)) (q : te σ H fun v H2 => ∃ l' ys v', V.ref l = .ref l' ∧ [v] = [v'] ∧ H2 l' = some (.lst ys) ∧ ys.length < sizeLine ∧ u D σ (upd H2 l' (.lst (ys ++ [v'])))) :
    tSeq (tDrop (tBM K "list" rAppend ta (tCons te tNil))) u D σ H := ho _ ⟨Or.inl ⟨rfl, _, Or.inl (Or.inl hl)⟩, q⟩
theorem not_t : (!true) = false := rfl
end
theorem GoodL.take2 {lt : List Nat} (h : GoodL lt) : GoodL (lt.take 2) :=
  ⟨by rw [List.length_take]; have := h.pos; omega, by rw [List.length_take]; omega, h.asc.sublist (List.take_sublist 2 lt), fun c hc => h.small c (List.mem_of_mem_take hc)⟩
end Co
namespace Tx
open PySem L2
def top (i : Nat) : Stmt := PySem.Challenge.pw_treesfromyes_k01_words_at_greatest_sizes.main.body.getD i (.Pass ⟨0, 0, 0, 0⟩)
abbrev s_BadWord_init : Stmt := inClass (top 3) 0
abbrev N_BadWord_init : List Str := ["self", "word", "place"]
abbrev P_BadWord_init : List Str := ["self", "word", "place"]
-- generator: BadWord_init
abbrev F_BadWord_init (K : PySem.W.Frag) (f : Addr) (fd : FuncData) : Prop := FunD K "__init__" "BadWord.__init__" (defArgs s_BadWord_init) (defBody s_BadWord_init) (defScope s_BadWord_init) [] [] f fd
abbrev s_check_letters : Stmt := top 7
abbrev N_check_letters : List Str := ["letters", "before", "letter"]
abbrev P_check_letters : List Str := ["letters"]
theorem sc_check_letters : FnScope N_check_letters P_check_letters (defScope s_check_letters) := ⟨rfl, rfl, rfl, by decide +kernel, rfl, by decide +kernel, by decide +kernel⟩
abbrev F_check_letters (K : PySem.W.Frag) (f : Addr) (fd : FuncData) : Prop := FunD K "check_letters" "check_letters" (defArgs s_check_letters) (defBody s_check_letters) (defScope s_check_letters) [] [] f fd
abbrev s_check_word : Stmt := top 8
abbrev N_check_word : List Str := ["letters", "word", "place", "letter"]
abbrev P_check_word : List Str := ["letters", "word"]
theorem sc_check_word : FnScope N_check_word P_check_word (defScope s_check_word) := ⟨rfl, rfl, rfl, by decide +kernel, rfl, by decide +kernel, by decide +kernel⟩
abbrev F_check_word (K : PySem.W.Frag) (f : Addr) (fd : FuncData) : Prop := FunD K "check_word" "check_word" (defArgs s_check_word) (defBody s_check_word) (defScope s_check_word) [] [] f fd
abbrev s_order_key : Stmt := top 9
abbrev N_order_key : List Str := ["word"]
abbrev P_order_key : List Str := ["word"]
theorem sc_order_key : FnScope N_order_key P_order_key (defScope s_order_key) := ⟨rfl, rfl, rfl, by decide +kernel, rfl, by decide +kernel, by decide +kernel⟩
abbrev F_order_key (K : PySem.W.Frag) (f : Addr) (fd : FuncData) : Prop := FunD K "order_key" "order_key" (defArgs s_order_key) (defBody s_order_key) (defScope s_order_key) [] [] f fd
abbrev s_in_order : Stmt := top 10
abbrev N_in_order : List Str := ["words", "found", "word"]
abbrev P_in_order : List Str := ["words"]
theorem sc_in_order : FnScope N_in_order P_in_order (defScope s_in_order) := ⟨rfl, rfl, rfl, by decide +kernel, rfl, by decide +kernel, by decide +kernel⟩
abbrev F_in_order (K : PySem.W.Frag) (f : Addr) (fd : FuncData) : Prop := FunD K "in_order" "in_order" (defArgs s_in_order) (defBody s_in_order) (defScope s_in_order) [] [] f fd
abbrev s_words_to : Stmt := top 11
abbrev N_words_to : List Str := ["letters", "most", "layer", "told", "_", "word", "letter"]
abbrev P_words_to : List Str := ["letters", "most"]
theorem sc_words_to : FnScope N_words_to P_words_to (defScope s_words_to) := ⟨rfl, rfl, rfl, by decide +kernel, rfl, by decide +kernel, by decide +kernel⟩
abbrev F_words_to (K : PySem.W.Frag) (f : Addr) (fd : FuncData) : Prop := FunD K "words_to" "words_to" (defArgs s_words_to) (defBody s_words_to) (defScope s_words_to) [] [] f fd
abbrev s_rank : Stmt := top 12
abbrev N_rank : List Str := ["letters", "word", "number", "letter"]
abbrev P_rank : List Str := ["letters", "word"]
theorem sc_rank : FnScope N_rank P_rank (defScope s_rank) := ⟨rfl, rfl, rfl, by decide +kernel, rfl, by decide +kernel, by decide +kernel⟩
abbrev F_rank (K : PySem.W.Frag) (f : Addr) (fd : FuncData) : Prop := FunD K "rank" "rank" (defArgs s_rank) (defBody s_rank) (defScope s_rank) [] [] f fd
abbrev s_word_at : Stmt := top 13
abbrev N_word_at : List Str := ["letters", "number", "word", "digit"]
abbrev P_word_at : List Str := ["letters", "number"]
theorem sc_word_at : FnScope N_word_at P_word_at (defScope s_word_at) := ⟨rfl, rfl, rfl, by decide +kernel, rfl, by decide +kernel, by decide +kernel⟩
abbrev F_word_at (K : PySem.W.Frag) (f : Addr) (fd : FuncData) : Prop := FunD K "word_at" "word_at" (defArgs s_word_at) (defBody s_word_at) (defScope s_word_at) [] [] f fd
abbrev s_scattered_words : Stmt := top 14
abbrev N_scattered_words : List Str := ["word", "most", "found", "letter", "part"]
abbrev P_scattered_words : List Str := ["word", "most"]
theorem sc_scattered_words : FnScope N_scattered_words P_scattered_words (defScope s_scattered_words) := ⟨rfl, rfl, rfl, by decide +kernel, rfl, by decide +kernel, by decide +kernel⟩
abbrev F_scattered_words (K : PySem.W.Frag) (f : Addr) (fd : FuncData) : Prop := FunD K "scattered_words" "scattered_words" (defArgs s_scattered_words) (defBody s_scattered_words) (defScope s_scattered_words) [] [] f fd
abbrev s_windows : Stmt := top 15
abbrev N_windows : List Str := ["word", "size", "at"]
abbrev P_windows : List Str := ["word", "size"]
theorem sc_windows : FnScope N_windows P_windows (defScope s_windows) := ⟨rfl, rfl, rfl, by decide +kernel, rfl, by decide +kernel, by decide +kernel⟩
abbrev F_windows (K : PySem.W.Frag) (f : Addr) (fd : FuncData) : Prop := FunD K "windows" "windows" (defArgs s_windows) (defBody s_windows) (defScope s_windows) [] [] f fd
abbrev s_class_of : Stmt := top 16
abbrev N_class_of : List Str := ["letters", "word", "exact", "period", "told", "letter", "count"]
abbrev P_class_of : List Str := ["letters", "word", "exact", "period"]
theorem sc_class_of : FnScope N_class_of P_class_of (defScope s_class_of) := ⟨rfl, rfl, rfl, by decide +kernel, rfl, by decide +kernel, by decide +kernel⟩
abbrev F_class_of (K : PySem.W.Frag) (f : Addr) (fd : FuncData) : Prop := FunD K "class_of" "class_of" (defArgs s_class_of) (defBody s_class_of) (defScope s_class_of) [] [] f fd
abbrev s_law_start : Stmt := top 18
abbrev N_law_start : List Str := ["script", "cells", "cell"]
abbrev P_law_start : List Str := ["script"]
theorem sc_law_start : FnScope N_law_start P_law_start (defScope s_law_start) := ⟨rfl, rfl, rfl, by decide +kernel, rfl, by decide +kernel, by decide +kernel⟩
abbrev F_law_start (K : PySem.W.Frag) (f : Addr) (fd : FuncData) : Prop := FunD K "_law_start" "_law_start" (defArgs s_law_start) (defBody s_law_start) (defScope s_law_start) [] [] f fd
abbrev s_law_next : Stmt := top 19
abbrev N_law_next : List Str := ["state", "many", "cells", "cell", "told", "turn", "mixed"]
abbrev P_law_next : List Str := ["state", "many"]
theorem sc_law_next : FnScope N_law_next P_law_next (defScope s_law_next) := ⟨rfl, rfl, rfl, by decide +kernel, rfl, by decide +kernel, by decide +kernel⟩
abbrev F_law_next (K : PySem.W.Frag) (f : Addr) (fd : FuncData) : Prop := FunD K "_law_next" "_law_next" (defArgs s_law_next) (defBody s_law_next) (defScope s_law_next) [] [] f fd
abbrev s_law_pick : Stmt := top 20
abbrev N_law_pick : List Str := ["state", "row"]
abbrev P_law_pick : List Str := ["state", "row"]
theorem sc_law_pick : FnScope N_law_pick P_law_pick (defScope s_law_pick) := ⟨rfl, rfl, rfl, by decide +kernel, rfl, by decide +kernel, by decide +kernel⟩
abbrev F_law_pick (K : PySem.W.Frag) (f : Addr) (fd : FuncData) : Prop := FunD K "_law_pick" "_law_pick" (defArgs s_law_pick) (defBody s_law_pick) (defScope s_law_pick) [] [] f fd
abbrev s_law_integer : Stmt := top 21
abbrev N_law_integer : List Str := ["actual"]
abbrev P_law_integer : List Str := ["actual"]
theorem sc_law_integer : FnScope N_law_integer P_law_integer (defScope s_law_integer) := ⟨rfl, rfl, rfl, by decide +kernel, rfl, by decide +kernel, by decide +kernel⟩
abbrev F_law_integer (K : PySem.W.Frag) (f : Addr) (fd : FuncData) : Prop := FunD K "_law_integer" "_law_integer" (defArgs s_law_integer) (defBody s_law_integer) (defScope s_law_integer) [] [] f fd
abbrev s_law_strings : Stmt := top 22
abbrev N_law_strings : List Str := ["actual", "due", "k"]
abbrev P_law_strings : List Str := ["actual", "due"]
theorem sc_law_strings : FnScope N_law_strings P_law_strings (defScope s_law_strings) := ⟨rfl, rfl, rfl, by decide +kernel, rfl, by decide +kernel, by decide +kernel⟩
abbrev F_law_strings (K : PySem.W.Frag) (f : Addr) (fd : FuncData) : Prop := FunD K "_law_strings" "_law_strings" (defArgs s_law_strings) (defBody s_law_strings) (defScope s_law_strings) [] [] f fd
abbrev s_law_same_text : Stmt := top 23
abbrev N_law_same_text : List Str := ["actual", "due"]
abbrev P_law_same_text : List Str := ["actual", "due"]
theorem sc_law_same_text : FnScope N_law_same_text P_law_same_text (defScope s_law_same_text) := ⟨rfl, rfl, rfl, by decide +kernel, rfl, by decide +kernel, by decide +kernel⟩
abbrev F_law_same_text (K : PySem.W.Frag) (f : Addr) (fd : FuncData) : Prop := FunD K "_law_same_text" "_law_same_text" (defArgs s_law_same_text) (defBody s_law_same_text) (defScope s_law_same_text) [] [] f fd
abbrev s_law_in_order : Stmt := top 24
abbrev N_law_in_order : List Str := ["words", "told", "key", "word"]
abbrev P_law_in_order : List Str := ["words"]
theorem sc_law_in_order : FnScope N_law_in_order P_law_in_order (defScope s_law_in_order) := ⟨rfl, rfl, rfl, by decide +kernel, rfl, by decide +kernel, by decide +kernel⟩
abbrev F_law_in_order (K : PySem.W.Frag) (f : Addr) (fd : FuncData) : Prop := FunD K "_law_in_order" "_law_in_order" (defArgs s_law_in_order) (defBody s_law_in_order) (defScope s_law_in_order) [] [] f fd
abbrev s_law_alphabet : Stmt := top 25
abbrev N_law_alphabet : List Str := ["state", "most", "pool", "signs", "k", "sign"]
abbrev P_law_alphabet : List Str := ["state", "most"]
theorem sc_law_alphabet : FnScope N_law_alphabet P_law_alphabet (defScope s_law_alphabet) := ⟨rfl, rfl, rfl, by decide +kernel, rfl, by decide +kernel, by decide +kernel⟩
abbrev F_law_alphabet (K : PySem.W.Frag) (f : Addr) (fd : FuncData) : Prop := FunD K "_law_alphabet" "_law_alphabet" (defArgs s_law_alphabet) (defBody s_law_alphabet) (defScope s_law_alphabet) [] [] f fd
abbrev s_law_word : Stmt := top 26
abbrev N_law_word : List Str := ["state", "letters", "size", "word", "k"]
abbrev P_law_word : List Str := ["state", "letters", "size"]
theorem sc_law_word : FnScope N_law_word P_law_word (defScope s_law_word) := ⟨rfl, rfl, rfl, by decide +kernel, rfl, by decide +kernel, by decide +kernel⟩
abbrev F_law_word (K : PySem.W.Frag) (f : Addr) (fd : FuncData) : Prop := FunD K "_law_word" "_law_word" (defArgs s_law_word) (defBody s_law_word) (defScope s_law_word) [] [] f fd
abbrev s_law_all_words : Stmt := top 27
abbrev N_law_all_words : List Str := ["letters", "most", "layer", "told", "turn", "longer", "word", "letter"]
abbrev P_law_all_words : List Str := ["letters", "most"]
theorem sc_law_all_words : FnScope N_law_all_words P_law_all_words (defScope s_law_all_words) := ⟨rfl, rfl, rfl, by decide +kernel, rfl, by decide +kernel, by decide +kernel⟩
abbrev F_law_all_words (K : PySem.W.Frag) (f : Addr) (fd : FuncData) : Prop := FunD K "_law_all_words" "_law_all_words" (defArgs s_law_all_words) (defBody s_law_all_words) (defScope s_law_all_words) [] [] f fd
abbrev s_law_long_word : Stmt := top 28
abbrev N_law_long_word : List Str := ["state", "letters", "size", "base", "turn", "k"]
abbrev P_law_long_word : List Str := ["state", "letters"]
theorem sc_law_long_word : FnScope N_law_long_word P_law_long_word (defScope s_law_long_word) := ⟨rfl, rfl, rfl, by decide +kernel, rfl, by decide +kernel, by decide +kernel⟩
abbrev F_law_long_word (K : PySem.W.Frag) (f : Addr) (fd : FuncData) : Prop := FunD K "_law_long_word" "_law_long_word" (defArgs s_law_long_word) (defBody s_law_long_word) (defScope s_law_long_word) [] [] f fd
abbrev s_law_power : Stmt := top 29
abbrev N_law_power : List Str := ["many", "size", "told", "turn"]
abbrev P_law_power : List Str := ["many", "size"]
theorem sc_law_power : FnScope N_law_power P_law_power (defScope s_law_power) := ⟨rfl, rfl, rfl, by decide +kernel, rfl, by decide +kernel, by decide +kernel⟩
abbrev F_law_power (K : PySem.W.Frag) (f : Addr) (fd : FuncData) : Prop := FunD K "_law_power" "_law_power" (defArgs s_law_power) (defBody s_law_power) (defScope s_law_power) [] [] f fd
abbrev s_law_rank_due : Stmt := top 30
abbrev N_law_rank_due : List Str := ["letters", "word", "before", "power", "number", "letter"]
abbrev P_law_rank_due : List Str := ["letters", "word"]
theorem sc_law_rank_due : FnScope N_law_rank_due P_law_rank_due (defScope s_law_rank_due) := ⟨rfl, rfl, rfl, by decide +kernel, rfl, by decide +kernel, by decide +kernel⟩
abbrev F_law_rank_due (K : PySem.W.Frag) (f : Addr) (fd : FuncData) : Prop := FunD K "_law_rank_due" "_law_rank_due" (defArgs s_law_rank_due) (defBody s_law_rank_due) (defScope s_law_rank_due) [] [] f fd
abbrev s_law_word_due : Stmt := top 31
abbrev N_law_word_due : List Str := ["letters", "number", "many", "power", "size", "turn", "word"]
abbrev P_law_word_due : List Str := ["letters", "number"]
theorem sc_law_word_due : FnScope N_law_word_due P_law_word_due (defScope s_law_word_due) := ⟨rfl, rfl, rfl, by decide +kernel, rfl, by decide +kernel, by decide +kernel⟩
abbrev F_law_word_due (K : PySem.W.Frag) (f : Addr) (fd : FuncData) : Prop := FunD K "_law_word_due" "_law_word_due" (defArgs s_law_word_due) (defBody s_law_word_due) (defScope s_law_word_due) [] [] f fd
abbrev s_law_numbers_of : Stmt := top 32
abbrev N_law_numbers_of : List Str := ["state", "letters", "words", "limit", "power", "size", "great", "turn", "numbers", "word", "number"]
abbrev P_law_numbers_of : List Str := ["state", "letters", "words"]
theorem sc_law_numbers_of : FnScope N_law_numbers_of P_law_numbers_of (defScope s_law_numbers_of) := ⟨rfl, rfl, rfl, by decide +kernel, rfl, by decide +kernel, by decide +kernel⟩
abbrev F_law_numbers_of (K : PySem.W.Frag) (f : Addr) (fd : FuncData) : Prop := FunD K "_law_numbers_of" "_law_numbers_of" (defArgs s_law_numbers_of) (defBody s_law_numbers_of) (defScope s_law_numbers_of) [] [] f fd
abbrev s_law_scattered_due : Stmt := top 33
abbrev N_law_scattered_due : List Str := ["word", "most", "parts", "letter", "part"]
abbrev P_law_scattered_due : List Str := ["word", "most"]
theorem sc_law_scattered_due : FnScope N_law_scattered_due P_law_scattered_due (defScope s_law_scattered_due) := ⟨rfl, rfl, rfl, by decide +kernel, rfl, by decide +kernel, by decide +kernel⟩
abbrev F_law_scattered_due (K : PySem.W.Frag) (f : Addr) (fd : FuncData) : Prop := FunD K "_law_scattered_due" "_law_scattered_due" (defArgs s_law_scattered_due) (defBody s_law_scattered_due) (defScope s_law_scattered_due) [] [] f fd
abbrev s_law_lists_hold : Stmt := top 34
abbrev N_law_lists_hold : List Str := ["state", "letters", "most", "whole", "few", "turn", "due", "told"]
abbrev P_law_lists_hold : List Str := ["state", "letters"]
theorem sc_law_lists_hold : FnScope N_law_lists_hold P_law_lists_hold (defScope s_law_lists_hold) := ⟨rfl, rfl, rfl, by decide +kernel, rfl, by decide +kernel, by decide +kernel⟩
abbrev F_law_lists_hold (K : PySem.W.Frag) (f : Addr) (fd : FuncData) : Prop := FunD K "_law_lists_hold" "_law_lists_hold" (defArgs s_law_lists_hold) (defBody s_law_lists_hold) (defScope s_law_lists_hold) [] [] f fd
abbrev s_law_order_holds : Stmt := top 35
abbrev N_law_order_holds : List Str := ["state", "letters", "words", "word", "told", "number", "pool", "lot", "handed", "due", "k"]
abbrev P_law_order_holds : List Str := ["state", "letters", "words"]
theorem sc_law_order_holds : FnScope N_law_order_holds P_law_order_holds (defScope s_law_order_holds) := ⟨rfl, rfl, rfl, by decide +kernel, rfl, by decide +kernel, by decide +kernel⟩
abbrev F_law_order_holds (K : PySem.W.Frag) (f : Addr) (fd : FuncData) : Prop := FunD K "_law_order_holds" "_law_order_holds" (defArgs s_law_order_holds) (defBody s_law_order_holds) (defScope s_law_order_holds) [] [] f fd
abbrev s_law_windows_hold : Stmt := top 36
abbrev N_law_windows_hold : List Str := ["state", "words", "word", "sizes", "size", "due", "at"]
abbrev P_law_windows_hold : List Str := ["state", "words"]
theorem sc_law_windows_hold : FnScope N_law_windows_hold P_law_windows_hold (defScope s_law_windows_hold) := ⟨rfl, rfl, rfl, by decide +kernel, rfl, by decide +kernel, by decide +kernel⟩
abbrev F_law_windows_hold (K : PySem.W.Frag) (f : Addr) (fd : FuncData) : Prop := FunD K "_law_windows_hold" "_law_windows_hold" (defArgs s_law_windows_hold) (defBody s_law_windows_hold) (defScope s_law_windows_hold) [] [] f fd
abbrev s_law_scattered_hold : Stmt := top 37
abbrev N_law_scattered_hold : List Str := ["state", "letters", "asked", "pair"]
abbrev P_law_scattered_hold : List Str := ["state", "letters"]
theorem sc_law_scattered_hold : FnScope N_law_scattered_hold P_law_scattered_hold (defScope s_law_scattered_hold) := ⟨rfl, rfl, rfl, by decide +kernel, rfl, by decide +kernel, by decide +kernel⟩
abbrev F_law_scattered_hold (K : PySem.W.Frag) (f : Addr) (fd : FuncData) : Prop := FunD K "_law_scattered_hold" "_law_scattered_hold" (defArgs s_law_scattered_hold) (defBody s_law_scattered_hold) (defScope s_law_scattered_hold) [] [] f fd
abbrev s_law_class_holds : Stmt := top 38
abbrev N_law_class_holds : List Str := ["state", "letters", "words", "word", "exact", "period", "due", "letter", "count", "told", "sign"]
abbrev P_law_class_holds : List Str := ["state", "letters", "words"]
theorem sc_law_class_holds : FnScope N_law_class_holds P_law_class_holds (defScope s_law_class_holds) := ⟨rfl, rfl, rfl, by decide +kernel, rfl, by decide +kernel, by decide +kernel⟩
abbrev F_law_class_holds (K : PySem.W.Frag) (f : Addr) (fd : FuncData) : Prop := FunD K "_law_class_holds" "_law_class_holds" (defArgs s_law_class_holds) (defBody s_law_class_holds) (defScope s_law_class_holds) [] [] f fd
abbrev s_law : Stmt := top 39
abbrev N_law : List Str := ["script", "state", "letters", "words"]
abbrev P_law : List Str := ["script"]
theorem sc_law : FnScope N_law P_law (defScope s_law) := ⟨rfl, rfl, rfl, by decide +kernel, rfl, by decide +kernel, by decide +kernel⟩
abbrev F_law (K : PySem.W.Frag) (f : Addr) (fd : FuncData) : Prop := FunD K "law" "law" (defArgs s_law) (defBody s_law) (defScope s_law) [] [] f fd
end Tx
/-! ### each def keeps its promise -/
namespace Ok
open PySem PySem.Spec PyProof.Rows L2 Co
local macro_rules | `(tactic| walk_at "side") => `(tactic| ((with_reducible show (_ : Prop)); first
  | assumption
  | exact SqL.of (At.is (by assumption))
  | exact SqL.of (At.is2 (by assumption))
  | exact SqL.of (At.is3 (by assumption))
  | exact SqL.of (At.is4 (by assumption))
  | exact SqL.of ((At.gh (by assumption)) _ _ (by assumption))
  | exact SqT.of ((At.gh (by assumption)) _ _ (by assumption))
  | exact SqL.of (by assumption)
  | exact SqT.of (by assumption)
  | exact rfl
  | exact all_flat (fun _ => rfl) _
  | exact TyX.base (.int _)
  | exact TyX.base (.str _)
  | exact TyX.base (.lst (by assumption))
  | exact TyX.base (.tup (by assumption))
  | with_reducible exact kii
  | with_reducible exact kib
  | with_reducible exact kss
  | with_reducible exact kll
  | with_reducible exact ktt
  | omega
  | decide
  | (exact Or.inl ⟨by omega, by omega⟩)
  | (exact Or.inr ⟨by omega, by omega⟩)
  | (exact ⟨by omega, by omega⟩)
  | (exact ⟨by omega, by omega, by omega⟩)
  | (show (0 : Int) < _; omega)
  | exact Nat.le_trans (by assumption) (by decide)
  | (simp only [List.length_cons, List.length_nil, List.length_append, List.length_map]; omega)))
local macro_rules | `(tactic| walk_at "val1") => `(tactic| (first
  | ((with_reducible apply val_var); exact rfl)
  | with_reducible exact val_c
  | with_reducible exact val_cS
  | with_reducible exact aval_nil
  | with_reducible apply aval_cons
  | with_reducible apply val_I0
  | with_reducible apply val_I
  | with_reducible apply val_un
  | with_reducible apply val_int1
  | with_reducible apply val_eq
  | with_reducible apply val_ne
  | with_reducible apply val_ixL
  | with_reducible apply val_ixT
  | with_reducible apply val_ixS
  | with_reducible apply val_addS
  | with_reducible apply val_inS
  | with_reducible apply val_notInS
  | with_reducible apply val_leS
  | with_reducible apply val_inSeqL
  | with_reducible apply val_lenS
  | with_reducible apply val_lenD
  | with_reducible apply val_lenL
  | with_reducible apply val_isi
  | with_reducible apply val_isN
  | with_reducible apply val_notN
  | with_reducible apply val_abs
  | with_reducible apply val_max2
  | with_reducible apply val_min2
  | with_reducible apply val_andV0
  | with_reducible apply val_orV0
  | with_reducible apply val_notV
  | with_reducible apply ans_T
  | with_reducible apply ans_B
  | with_reducible apply ans_nt
  | with_reducible apply ans_an0
  | with_reducible apply ans_orr0
  | walk_at "side"))
local macro_rules | `(tactic| walk_at "val") => `(tactic| repeat' (walk_at "val1"))
local macro_rules | `(tactic| walk_at "set") => `(tactic| ((with_reducible first | apply q_set | apply st_set); (case h => (walk_at "val"))))
local macro_rules | `(tactic| walk_at "setl") => `(tactic| first
  | ((with_reducible first | apply q_setO | apply st_setO); (case ho => (walk_at "val")); (case he => (walk_at "val")); (case hi => (walk_at "val")); (case hl => assumption); (case hj => (walk_at "side")); intro _ _)
  | ((with_reducible first | apply q_setO2 | apply st_setO2); (case ho => (walk_at "val")); (case he => (walk_at "val")); (case hi => (walk_at "val")); (case hl => assumption); (case hj => (walk_at "side")); intro _ _)
  | ((with_reducible first | apply q_setO3 | apply st_setO3); (case ho => (walk_at "val")); (case he => (walk_at "val")); (case hi => (walk_at "val")); (case hl => assumption); (case hj => (walk_at "side")); intro _ _)
  | ((with_reducible first | apply q_setO4 | apply st_setO4); (case ho => (walk_at "val")); (case he => (walk_at "val")); (case hi => (walk_at "val")); (case hl => assumption); (case hj => (walk_at "side")); intro _ _))
local macro_rules | `(tactic| walk_at "app") => `(tactic| first
  | ((with_reducible first | apply q_appO | apply st_appO); (case ho => (walk_at "val")); (case he => (walk_at "val")); (case hl => assumption); (case hz => (walk_at "side")); intro _ _)
  | ((with_reducible first | apply q_appO2 | apply st_appO2); (case ho => (walk_at "val")); (case he => (walk_at "val")); (case hl => assumption); (case hz => (walk_at "side")); intro _ _)
  | ((with_reducible first | apply q_appO3 | apply st_appO3); (case ho => (walk_at "val")); (case he => (walk_at "val")); (case hl => assumption); (case hz => (walk_at "side")); intro _ _)
  | ((with_reducible first | apply q_appO4 | apply st_appO4); (case ho => (walk_at "val")); (case he => (walk_at "val")); (case hl => assumption); (case hz => (walk_at "side")); intro _ _))
local macro_rules | `(tactic| walk_at "if") => `(tactic| ((with_reducible first | apply q_when | apply st_when | apply q_if | apply st_if); (case h => (walk_at "val")); (all_goals intro _)))
local macro_rules | `(tactic| walk_at "ret") => `(tactic| ((with_reducible apply st_ret1); (case h => (walk_at "val"))))
theorem ok_law_start {P : Program} {w : World} {K : PySem.W.Frag} {mg : Str → Option Value} {base : Heap} {f : Addr} {fd : FuncData} (D0 : Tx.F_law_start K f fd) (hm0 : mg "_law_start" = some (.ref f))
    (m_abs : mg "abs" = none) (m_len : mg "len" = none) : Cal P w K mg base CX0 1 "_law_start" ["script"] (sp_law_start K) := by
  refine ⟨f, fd, hm0, ?_, D0.kp, FunD.bindsN D0 fun _ _ _ _ _ _ us hl => match us, hl with | [_], _ => rfl⟩
  refine FunD.ok (k := 0) D0 Tx.sc_law_start (fun vs H Q E h => len_sp_law_start h) (fun cdv A outer s0 H vs Q E hr h => ?_)
  have hsz : sizeLine = 16777216 := rfl
  obtain ⟨G, L, a, ns, rfl, hA, hs, hn, k⟩ := h
  have fin : ∀ (G1 : Hp) H (p q : Addr) (l : List Int), At G1 H L → Same G G1 → G1 p = some (.lst (l.map V.int)) → 0 < l.length → l.length ≤ 63 → H q = none → Q (.ref q) (upd H q (.lst [.ref p, .int 0, .int 0, .int 0])) := fun G1 H p q l h1 s1 h2 h3 h4 h5 =>
    k G1 _ q s1 (h1.own (P := oSt) h5 ⟨p, l, 0, 0, 0, rfl, h2, h3, by omega, by omega, by omega⟩)
  refine ⟨_, PSs.nox (pss_cons (ps_setLc (i := 1) (own := [("cell", 2)]) rfl Tx.sc_law_start.nd rfl rfl (sw_true rfl rfl rfl (by decide +kernel)) (pi_list (pv 0)) (blkOk_by (own := [("cell", 2)]) (N := Tx.N_law_start) (sc := defScope Tx.s_law_start) (by decide +kernel)) (fun _ _ _ _ _ => (pg_name (i := 2) Tx.sc_law_start.nd rfl (Or.inl rfl))) (fun _ _ _ _ _ => pts_nil) (fun _ _ _ _ _ => (pe_callB call_abs (by rfl) m_abs (by decide +kernel) (pa_cons (pv 2) pa_nil))))
  (pss_cons (ps_if (pt_cmpR op_eq (pe_callB call_len_seq (by rfl) m_len PySem.boot_len (pa_cons (pv 1) pa_nil)) pe_int (nomark _))
  (pss_one (ps_set (i := 1) Tx.sc_law_start.nd rfl (Or.inl rfl) (pe_lst (pa_cons pe_int pa_nil))))
  pss_nil)
  (pss_one (ps_ret (pe_lst (pa_cons (pv 1) (pa_cons pe_int (pa_cons pe_int (pa_cons pe_int pa_nil))))))))), ?_⟩
  with_reducible refine q_as ?_
  refine lcLn (K := K) (xs := ns.map V.int) (by walk_at "val") (hA.gh.seq hs) (fun D i H => At G H ((D, oIs (.lst (((ns.take i).map fun n => if n < 0 then -n else n).map V.int))) :: L)) ?_ ?_ ?_ ?_
  · intro D hD
    exact hA.ownL hD
  · intro D i H h
    exact h.gh.seq hs
  · intro D i x H1 hx h
    obtain ⟨n, hni, rfl⟩ := map_get hx
    have hl : i < ns.length := (List.getElem?_eq_some_iff.mp hni).1
    refine ⟨rfl, go (v := .int (if n < 0 then -n else n)) (by walk_at "val") ⟨_, h.is, by rw [List.length_map, List.length_map]; have := List.length_take_le' (l := ns) (i := i); omega, ?_⟩⟩
    rw [take_snoc hni, List.map_append, List.map_append]
    exact h.set rfl
  · intro D H1 h
    rw [List.length_map, List.take_length] at h
    have hl : ((ns.map fun n => if n < 0 then -n else n).map V.int).length = ns.length := by rw [List.length_map, List.length_map]
    walk_at "if"
    · rename_i h0
      refine st_as (new_lst (by walk_at "val") (by decide) fun p hp => ?_)
      obtain ⟨s1, h2⟩ := (h.tail.ownL (p := p) (o := .lst [.int 0]) hp).frz
      refine ret_ (lst_ (acons_ (var_ rfl (acons_ (c_ (acons_ (c_ (acons_ (c_ (anil_ ⟨by show 4 ≤ sizeLine; decide, fun q hq => ?_⟩))))))))))
      exact fin _ _ _ _ [0] h2 s1 upd_same (by decide) (by decide) hq
    · rename_i h0
      obtain ⟨s1, h2⟩ := h.frz
      refine ret_ (lst_ (acons_ (var_ rfl (acons_ (c_ (acons_ (c_ (acons_ (c_ (anil_ ⟨by show 4 ≤ sizeLine; decide, fun q hq => ?_⟩))))))))))
      refine fin _ _ _ _ (ns.map fun n => if n < 0 then -n else n) h2 s1 upd_same ?_ (by rw [List.length_map]; exact hn) hq
      rw [List.length_map]
      rw [hl] at h0
      simp at h0
      exact List.length_pos_iff.mpr h0
theorem ok_law_next {P : Program} {w : World} {K : PySem.W.Frag} {mg : Str → Option Value} {base : Heap} {f : Addr} {fd : FuncData} (D0 : Tx.F_law_next K f fd) (hm0 : mg "_law_next" = some (.ref f))
    (m_int : mg "int" = none) (m_len : mg "len" = none) : Cal P w K mg base CX0 1 "_law_next" ["state", "many"] sp_law_next := by
  refine ⟨f, fd, hm0, ?_, D0.kp, FunD.bindsN D0 fun _ _ _ _ _ _ us hl => match us, hl with | [_, _], _ => rfl⟩
  refine FunD.ok (k := 0) D0 Tx.sc_law_next (fun vs H Q E h => len_sp_law_next h) (fun cdv A outer s0 H vs Q E hr h => ?_)
  have hsz : sizeLine = 16777216 := rfl
  obtain ⟨G, L, s, n, rfl, hA, hn0, hn1, k⟩ := h
  obtain ⟨o, ⟨ca, cells, p, v, c, rfl, hca, hc0, hc1, hp, hcc⟩, hA⟩ := hA.open1
  have hlen : ((cells.map V.int).length : Int) = (cells.length : Int) := by rw [List.length_map]
  have hl0 : (0 : Int) < ((cells.map V.int).length : Int) := by omega
  have hm0 := Int.emod_nonneg p (show ((cells.map V.int).length : Int) ≠ 0 by omega)
  have hm1 := Int.emod_lt_of_pos p hl0
  obtain ⟨cell, hcell⟩ : ∃ cell, cells[(p % ((cells.map V.int).length : Int)).toNat]? = some cell := ⟨_, List.getElem?_eq_getElem (by omega)⟩
  have hat : atI (cells.map V.int) (p % ((cells.map V.int).length : Int)) = some (V.int cell) := by
    refine at_of (j := (p % ((cells.map V.int).length : Int)).toNat) (by omega) ?_
    rw [List.getElem?_map, hcell]; rfl
  have ok : ∀ p' v' c' : Int, 0 ≤ p' → 0 ≤ c' → oSt.p G (.lst [.ref ca, .int p', .int v', .int c']) := fun p' v' c' h1 h2 => ⟨ca, cells, p', v', c', rfl, hca, hc0, hc1, h1, h2⟩
  have mod : ∀ x : Int, 0 ≤ x % n ∧ x % n < n := fun x => ⟨Int.emod_nonneg x (by omega), Int.emod_lt_of_pos x hn0⟩
  refine ⟨_, PSs.nox (pss_cons (ps_set (i := 2) Tx.sc_law_next.nd rfl (Or.inl rfl) (pe_ix ix_list (pv 0) pe_int (fun _ _ => rfl)))
  (pss_cons (ps_set (i := 3) Tx.sc_law_next.nd rfl (Or.inl rfl) (pe_ix ix_list (pv 2) (pe_op op_mod (pe_callTy call_int1 (by rfl) m_int (by decide +kernel) (pa_cons (pe_ix ix_list (pv 0) pe_int (fun _ _ => rfl)) pa_nil)) (pe_callB call_len_seq (by rfl) m_len PySem.boot_len (pa_cons (pv 2) pa_nil))) (fun _ _ => rfl)))
  (pss_cons (ps_if (PW.pt (pw_and (pt_cmpR op_ge (pv 3) (pe_op op_pow pe_int pe_int) (nomark _)) (pw_and1 (pt_cmpR op_lt (pe_ix ix_list (pv 0) pe_int (fun _ _ => rfl)) (pe_callB call_len_seq (by rfl) m_len PySem.boot_len (pa_cons (pv 2) pa_nil)) (nomark _)))))
  (pss_cons (ps_if (pt_cmpR op_eq (pe_ix ix_list (pv 0) pe_int (fun _ _ => rfl)) pe_int (nomark _))
  (pss_one (ps_asg (pv 3) (pg_sub (pv 0) pe_int set_list)))
  pss_nil)
  (pss_cons (ps_set (i := 4) Tx.sc_law_next.nd rfl (Or.inl rfl) (pe_op op_mod (pe_callTy call_int1 (by rfl) m_int (by decide +kernel) (pa_cons (pe_ix ix_list (pv 0) pe_int (fun _ _ => rfl)) pa_nil)) (pv 1)))
  (pss_cons (ps_asg (pe_op op_fdiv (pe_callTy call_int1 (by rfl) m_int (by decide +kernel) (pa_cons (pe_ix ix_list (pv 0) pe_int (fun _ _ => rfl)) pa_nil)) (pv 1)) (pg_sub (pv 0) pe_int set_list))
  (pss_cons (ps_asg (pe_op op_add (pe_ix ix_list (pv 0) pe_int (fun _ _ => rfl)) pe_int) (pg_sub (pv 0) pe_int set_list))
  (pss_cons (ps_if (PW.pt (pw_or (pt_cmpR op_eq (pe_ix ix_list (pv 0) pe_int (fun _ _ => rfl)) pe_int (nomark _)) (pw_or1 (pt_cmpR op_ge (pe_ix ix_list (pv 0) pe_int (fun _ _ => rfl)) pe_int (nomark _)))))
  (pss_cons (ps_asg (pe_op op_add (pe_ix ix_list (pv 0) pe_int (fun _ _ => rfl)) pe_int) (pg_sub (pv 0) pe_int set_list))
  (pss_one (ps_asg pe_int (pg_sub (pv 0) pe_int set_list))))
  pss_nil)
  (pss_one (ps_ret (pv 4))))))))
  pss_nil)
  (pss_cons (ps_set (i := 5) Tx.sc_law_next.nd rfl (Or.inl rfl) (pe_op op_add (pe_ix ix_list (pv 0) pe_int (fun _ _ => rfl)) (pe_op op_mul pe_int (pe_ix ix_list (pv 0) pe_int (fun _ _ => rfl)))))
  (pss_cons (ps_set (i := 6) Tx.sc_law_next.nd rfl (Or.inl rfl) (pe_op op_mul (pe_op op_add (pe_op op_mod (pe_callTy call_int1 (by rfl) m_int (by decide +kernel) (pa_cons (pv 3) pa_nil)) pe_int) pe_int) (pe_op op_add pe_int (pe_op op_mul pe_int (pv 5)))))
  (pss_cons (ps_set (i := 6) Tx.sc_law_next.nd rfl (Or.inl rfl) (pe_op op_mod (pe_callTy call_int1 (by rfl) m_int (by decide +kernel) (pa_cons (pv 6) pa_nil)) pe_int))
  (pss_cons (ps_set (i := 6) Tx.sc_law_next.nd rfl (Or.inl rfl) (pe_op op_mod (pe_callTy call_int1 (by rfl) m_int (by decide +kernel) (pa_cons (pe_op op_add (pe_op op_add (pe_op op_mul (pv 6) (pv 6)) (pe_op op_mul pe_int (pv 5))) pe_int) pa_nil)) pe_int))
  (pss_cons (ps_asg (pe_op op_add (pe_ix ix_list (pv 0) pe_int (fun _ _ => rfl)) pe_int) (pg_sub (pv 0) pe_int set_list))
  (pss_cons (ps_if (pt_cmpR op_ge (pe_ix ix_list (pv 0) pe_int (fun _ _ => rfl)) pe_int (nomark _))
  (pss_cons (ps_asg (pe_op op_add (pe_ix ix_list (pv 0) pe_int (fun _ _ => rfl)) pe_int) (pg_sub (pv 0) pe_int set_list))
  (pss_one (ps_asg pe_int (pg_sub (pv 0) pe_int set_list))))
  pss_nil)
  (pss_one (ps_ret (pe_op op_mod (pe_callTy call_int1 (by rfl) m_int (by decide +kernel) (pa_cons (pe_op op_fdiv (pv 6) pe_int) pa_nil)) (pv 1))))))))))))), ?_⟩
  walk_at "set"
  walk_at "set"
  walk_at "if"
  · walk_at "if"
    · walk_at "setl"
      walk_at "set"
      walk_at "setl"
      walk_at "setl"
      walk_at "if"
      · walk_at "setl"
        walk_at "setl"
        walk_at "ret"
        exact k _ _ (At.close (by assumption) (ok _ _ _ (by omega) (by omega))) (mod _).1 (mod _).2
      · walk_at "ret"
        exact k _ _ (At.close (by assumption) (ok _ _ _ (by omega) (by omega))) (mod _).1 (mod _).2
    · walk_at "set"
      walk_at "setl"
      walk_at "setl"
      walk_at "if"
      · walk_at "setl"
        walk_at "setl"
        walk_at "ret"
        exact k _ _ (At.close (by assumption) (ok _ _ _ (by omega) (by omega))) (mod _).1 (mod _).2
      · walk_at "ret"
        exact k _ _ (At.close (by assumption) (ok _ _ _ (by omega) (by omega))) (mod _).1 (mod _).2
  · walk_at "set"
    walk_at "set"
    walk_at "set"
    walk_at "set"
    walk_at "setl"
    walk_at "if"
    · walk_at "setl"
      walk_at "setl"
      walk_at "ret"
      exact k _ _ (At.close (by assumption) (ok _ _ _ (by omega) (by omega))) (mod _).1 (mod _).2
    · walk_at "ret"
      exact k _ _ (At.close (by assumption) (ok _ _ _ (by omega) (by omega))) (mod _).1 (mod _).2
theorem ok_law_alphabet {P : Program} {w : World} {K : PySem.W.Frag} {mg : Str → Option Value} {base : Heap} {f : Addr} {fd : FuncData} (D0 : Tx.F_law_alphabet K f fd) (hm0 : mg "_law_alphabet" = some (.ref f))
    (C_law_next : Cal P w K mg base CX0 1 "_law_next" ["state", "many"] sp_law_next) (m_range : mg "range" = none) (m_sorted : mg "sorted" = none) : Cal P w K mg base CX0 2 "_law_alphabet" ["state", "most"] sp_law_alphabet := by
  refine ⟨f, fd, hm0, ?_, D0.kp, FunD.bindsN D0 fun _ _ _ _ _ _ us hl => match us, hl with | [_, _], _ => rfl⟩
  refine FunD.ok (k := 1) D0 Tx.sc_law_alphabet (fun vs H Q E h => len_sp_law_alphabet h) (fun cdv A outer s0 H vs Q E hr h => ?_)
  have hsz : sizeLine = 16777216 := rfl
  obtain ⟨G, L, s, n, rfl, hA, h0, h1, k⟩ := h
  refine ⟨_, PSs.nox (pss_cons (ps_set (i := 2) Tx.sc_law_alphabet.nd rfl (Or.inl rfl) pe_str)
  (pss_cons (ps_set (i := 3) Tx.sc_law_alphabet.nd rfl (Or.inl rfl) (pe_lst pa_nil))
  (pss_cons (ps_for PassesOwn.never rfl (pi_range1 (by rfl) m_range (pa_cons (pe_op op_add pe_int (pe_cal C_law_next hr pass0 (pa_cons (pv 0) (pa_cons (pv 1) pa_nil)))) pa_nil)) (pg_name (i := 4) Tx.sc_law_alphabet.nd rfl (Or.inl rfl))
  (pss_cons (ps_set (i := 5) Tx.sc_law_alphabet.nd rfl (Or.inl rfl) (pe_ix ix_str (pv 2) (pe_cal C_law_next hr pass0 (pa_cons (pv 0) (pa_cons pe_int pa_nil))) (fun _ _ => rfl)))
  (pss_one (ps_if (pt_cmpR op_notIn_seq (pv 5) (pv 3) (by rfl))
  (pss_one (ps_expr (pe_bm PySem.F.plainAttrs_list PySem.F.slot_list_append PySem.F.type_list_append mt_append (pv 3) (pa_cons (pv 5) pa_nil))))
  pss_nil))))
  (pss_one (ps_ret (pe_join pe_str (pe_callB cr_sortedS (by rfl) m_sorted (by decide +kernel) (pa_cons (pv 3) pa_nil)))))))), ?_⟩
  refine q_set val_abc ?_
  refine q_as (new_lst (by walk_at "val") (Nat.zero_le _) fun p hp => ?_)
  have hA1 := (hA.ownL (p := p) (o := .lst []) hp)
  refine q_forRx (op_l val_c (next_ (by walk_at "val") hA1.swap (by omega) (by omega) fun H1 m hA2 m0 m1 => ?_))
  refine ⟨1, m, rfl, rfl, 1 + m, rfl, by omega, by omega, forK_R (fun i σ H => ∃ cs v1 v2, σ = [some (.ref s), some (.int n), some (sV abc), some (.ref p), v1, v2] ∧ At G H ((s, oSt) :: (p, oIs (.lst ((cs : List Nat).map fun c => V.str (S [c])))) :: L) ∧ cs.Nodup ∧ cs.length ≤ i ∧ (0 < i → 0 < cs.length) ∧ ∀ c ∈ cs, 97 ≤ c ∧ c ≤ 122)
    ⟨[], none, none, rfl, hA2, List.nodup_nil, Nat.le_refl _, fun h => h, fun _ h => by (cases h)⟩ ?_ ?_⟩
  · rintro i σ H hi ⟨cs, v1, v2, rfl, hA, hnd, hl, hpos, hc⟩
    refine q_as (op_l (val_var rfl) (nextN_ (by walk_at "val") hA (by omega) (by omega) fun H2 j hA' hj => ?_))
    refine ⟨S abc, j, 97 + j, rfl, rfl, by rw [S_len, abc_len]; omega, atI_nat (abc_get (by omega)), ?_⟩
    have hlen : (cs.map fun c => V.str (S [c])).length = cs.length := List.length_map ..
    refine st_when (b := !decide ((97 + j) ∈ cs)) (ans_T (val_to (val_inSeqL (x := .str (S [97 + j])) (neg := true) (val_var rfl) (val_var rfl) (SqL.of hA'.is2) rfl (all_flat (fun _ => rfl) _)) ?_)) (fun hb => ?_) (fun hb => ?_)
    · rw [inV_sign]; rfl
    · walk_at "app"
      rename_i H3 hA3
      have hn : (97 + j) ∉ cs := by simpa using hb
      refine ⟨cs ++ [97 + j], _, _, rfl, ?_, ?_, ?_, ?_, ?_⟩
      · rw [List.map_append]; exact hA3
      · refine List.nodup_append.mpr ⟨hnd, by simp, fun a ha b hb' e => ?_⟩
        rw [List.mem_singleton.mp hb'] at e
        exact hn (e ▸ ha)
      · rw [List.length_append]; simp; omega
      · intro _; rw [List.length_append]; simp
      · intro c hc'
        rcases List.mem_append.mp hc' with h | h
        · exact hc c h
        · rw [List.mem_singleton.mp h]; omega
    · have hn : (97 + j) ∈ cs := by simpa using hb
      refine ⟨cs, _, _, rfl, hA', hnd, by omega, fun _ => List.length_pos_of_mem hn, hc⟩
  · rintro σ H ⟨cs, v1, v2, rfl, hA, hnd, hl, hpos, hc⟩
    with_reducible refine ret_ ?_
    refine m1_ (c_ ⟨⟨_, rfl⟩, ?_⟩)
    refine cb_ (acons_ (var_ rfl (anil_ ?_)))
    refine ⟨p, cs.map fun c => S [c], rfl, .inl ?_, by rw [List.length_map]; omega, fun ys q hys hso hq => ?_⟩
    · rw [List.map_map]; exact .inl hA.is2
    obtain ⟨ds, hds, rfl⟩ := perm_inv (f := fun c => S [c]) (g := fun z => z.cps.toList.headD 0) (fun _ => rfl) hys
    have hdl : ds.length = cs.length := hds.length_eq
    refine ⟨_, q, ds.map fun c => S [c], rfl, rfl, .inl (.inl (.inl upd_same)), ?_, ?_⟩
    · rw [show (Str.ofString "").length = 0 by decide +kernel, Nat.mul_zero, Nat.add_zero, List.map_map]
      have e : (ds.map ((fun x : Str => x.length) ∘ fun c => S [c])) = List.replicate ds.length 1 := by
        rw [List.eq_replicate_iff]
        refine ⟨List.length_map .., fun b hb => ?_⟩
        obtain ⟨c, _, rfl⟩ := List.mem_map.mp hb
        rfl
      rw [e, List.sum_replicate_nat]
      omega
    · rw [join_signs]
      refine k _ ds (hA.drop2.litter hq) ⟨?_, ?_, ?_, fun c hc' => hc c (hds.mem_iff.mp hc')⟩ (by omega)
      · have := hpos (by omega); omega
      · omega
      · exact asc_of (sorted_signs hso) (hds.nodup_iff.mpr hnd)
theorem ok_law_word {P : Program} {w : World} {K : PySem.W.Frag} {mg : Str → Option Value} {base : Heap} {f : Addr} {fd : FuncData} (D0 : Tx.F_law_word K f fd) (hm0 : mg "_law_word" = some (.ref f))
    (C_law_next : Cal P w K mg base CX0 1 "_law_next" ["state", "many"] sp_law_next) (m_len : mg "len" = none) (m_range : mg "range" = none) : Cal P w K mg base CX0 2 "_law_word" ["state", "letters", "size"] sp_law_word := by
  refine ⟨f, fd, hm0, ?_, D0.kp, FunD.bindsN D0 fun _ _ _ _ _ _ us hl => match us, hl with | [_, _, _], _ => rfl⟩
  refine FunD.ok (k := 1) D0 Tx.sc_law_word (fun vs H Q E h => len_sp_law_word h) (fun cdv A outer s0 H vs Q E hr h => ?_)
  have hsz : sizeLine = 16777216 := rfl
  obtain ⟨G, L, s, lt, n, rfl, hA, h0, h1, hn0, hn1, k⟩ := h
  refine ⟨_, PSs.nox (pss_cons (ps_set (i := 3) Tx.sc_law_word.nd rfl (Or.inl rfl) pe_str)
  (pss_cons (ps_for PassesOwn.never rfl (pi_range1 (by rfl) m_range (pa_cons (pv 2) pa_nil)) (pg_name (i := 4) Tx.sc_law_word.nd rfl (Or.inl rfl))
  (pss_one (ps_set (i := 3) Tx.sc_law_word.nd rfl (Or.inl rfl) (pe_op op_add_str (pv 3) (pe_ix ix_str (pv 1) (pe_cal C_law_next hr pass0 (pa_cons (pv 0) (pa_cons (pe_callB call_len_str (by rfl) m_len PySem.boot_len (pa_cons (pv 1) pa_nil)) pa_nil))) (fun _ _ => rfl))))))
  (pss_one (ps_ret (pv 3))))), ?_⟩
  walk_at "set"
  refine q_forR (n := n) (by walk_at "val") ⟨by omega, by omega⟩ (fun i σ H => ∃ w v, σ = [some (.ref s), some (sV lt), some (.int n), some (sV w), v] ∧ At G H ((s, oSt) :: L) ∧ (∀ c ∈ w, c ∈ lt) ∧ w.length = i)
    ⟨[], none, rfl, hA, fun _ h => by (cases h), rfl⟩ ?_ ?_
  · rintro i σ H hi ⟨w, v, rfl, hA, hw, hl⟩
    refine st_as (op_l (val_var rfl) (op_l (val_var rfl) (nextN_ (n := (lt.length : Int)) (by walk_at "val") hA (by omega) (by omega) fun H' j hA' hj => ?_)))
    obtain ⟨c, hc⟩ : ∃ c, lt[j]? = some c := ⟨_, List.getElem?_eq_getElem (by omega)⟩
    refine ⟨S lt, j, c, rfl, rfl, by rw [S_len]; omega, atI_nat hc, S w, S [c], rfl, rfl, by rw [S_len, S_len]; show w.length + 1 ≤ sizeLine; omega, ?_⟩
    refine ⟨w ++ [c], _, by rw [S_app]; rfl, hA', fun x hx => ?_, by rw [List.length_append]; simp; omega⟩
    rcases List.mem_append.mp hx with hx | hx
    · exact hw x hx
    · rw [List.mem_singleton.mp hx]
      exact List.mem_of_getElem? hc
  · rintro σ H ⟨w, v, rfl, hA, hw, hl⟩
    walk_at "ret"
    exact k _ w hA hw (by omega)
theorem ok_law_long_word {P : Program} {w : World} {K : PySem.W.Frag} {mg : Str → Option Value} {base : Heap} {f : Addr} {fd : FuncData} (D0 : Tx.F_law_long_word K f fd) (hm0 : mg "_law_long_word" = some (.ref f))
    (C_law_next : Cal P w K mg base CX0 1 "_law_next" ["state", "many"] sp_law_next) (C_law_word : Cal P w K mg base CX0 2 "_law_word" ["state", "letters", "size"] sp_law_word) (m_int : mg "int" = none) (m_range : mg "range" = none) : Cal P w K mg base CX0 3 "_law_long_word" ["state", "letters"] sp_law_long_word := by
  refine ⟨f, fd, hm0, ?_, D0.kp, FunD.bindsN D0 fun _ _ _ _ _ _ us hl => match us, hl with | [_, _], _ => rfl⟩
  refine FunD.ok (k := 2) D0 Tx.sc_law_long_word (fun vs H Q E h => len_sp_law_long_word h) (fun cdv A outer s0 H vs Q E hr h => ?_)
  have hsz : sizeLine = 16777216 := rfl
  obtain ⟨G, L, s, lt, rfl, hA, hg, k⟩ := h
  have g1 := hg.pos
  have g2 := hg.few
  refine ⟨_, PSs.nox (pss_cons (ps_set (i := 2) Tx.sc_law_long_word.nd rfl (Or.inl rfl) (pe_ix ix_list (pe_lst (pa_cons (pe_cal C_law_next hr pass0 (pa_cons (pv 0) (pa_cons pe_int pa_nil))) (pa_cons (pe_op op_add pe_int (pe_cal C_law_next hr pass0 (pa_cons (pv 0) (pa_cons pe_int pa_nil)))) (pa_cons (pe_op op_sub pe_int (pe_cal C_law_next hr pass0 (pa_cons (pv 0) (pa_cons pe_int pa_nil)))) pa_nil)))) (pe_cal C_law_next hr pass0 (pa_cons (pv 0) (pa_cons pe_int pa_nil))) (fun _ _ => rfl)))
  (pss_cons (ps_set (i := 3) Tx.sc_law_long_word.nd rfl (Or.inr rfl) (pe_cal C_law_word hr pass0 (pa_cons (pv 0) (pa_cons (pv 1) (pa_cons pe_int pa_nil)))))
  (pss_cons (ps_set (i := 4) Tx.sc_law_long_word.nd rfl (Or.inr rfl) (pe_cal C_law_next hr pass0 (pa_cons (pv 0) (pa_cons pe_int pa_nil))))
  (pss_one (ps_ret (pe_join pe_str (pe_lc (own := [("k", 5)]) rfl Tx.sc_law_long_word.nd (pi_range1 (by rfl) m_range (pa_cons (pv 2) pa_nil)) (blkOk_by (own := [("k", 5)]) (N := Tx.N_law_long_word) (sc := defScope Tx.s_law_long_word) (by decide +kernel)) (fun _ _ _ _ _ => (pg_name (i := 5) Tx.sc_law_long_word.nd rfl (Or.inl rfl))) (fun _ _ _ _ _ => pts_nil) (fun _ _ _ _ _ => (pe_ix ix_str (pv 3) (pe_op op_mod (pe_callTy call_int1 (by rfl) m_int (by decide +kernel) (pa_cons (pe_op op_add (pe_op op_add (pe_op op_mul (pv 5) (pv 5)) (pe_op op_mul (pv 4) (pv 5))) (pe_op op_fdiv (pv 5) pe_int)) pa_nil)) pe_int) (fun _ _ => rfl)))))))))), ?_⟩
  refine q_as (op_ ?_)
  refine lst_ (acons_ (nextN_ (by walk_at "val") hA (by omega) (by omega) fun H1 j1 hA hj1 => ?_))
  refine acons_ (op_l val_c (nextN_ (by walk_at "val") hA (by omega) (by omega) fun H2 j2 hA hj2 => ⟨_, _, rfl, rfl, ?_⟩))
  refine acons_ (op_l val_c (nextN_ (by walk_at "val") hA (by omega) (by omega) fun H3 j3 hA hj3 => ⟨_, _, rfl, rfl, ?_⟩))
  refine anil_ ⟨by show 3 ≤ sizeLine; omega, fun p hp => ?_⟩
  refine nextN_ (by walk_at "val") (hA.ownL (o := .lst [.int (j1 : Int), .int (60 + (j2 : Int)), .int (200 - (j3 : Int))]) hp).swap (by omega) (by omega) fun H4 j4 hA4 hj4 => ?_
  obtain ⟨z, hz, hz0, hz1⟩ : ∃ z : Int, ([.int (j1 : Int), .int (60 + (j2 : Int)), .int (200 - (j3 : Int))] : List V)[j4]? = some (.int z) ∧ 0 ≤ z ∧ z ≤ 200 := by
    rcases (by omega : j4 = 0 ∨ j4 = 1 ∨ j4 = 2) with rfl | rfl | rfl
    · exact ⟨_, rfl, by omega, by omega⟩
    · exact ⟨_, rfl, by omega, by omega⟩
    · exact ⟨_, rfl, by omega, by omega⟩
  refine ⟨p, _, _, _, rfl, rfl, SqL.of hA4.is2, atI_nat hz, ?_⟩
  have hA5 := hA4.drop2
  refine q_call (by walk_at "val") ⟨G, L, s, lt, 7, rfl, hA5, g1, by omega, by omega, by omega, fun H5 b hA6 hb hbl => ?_⟩
  refine q_as (nextN_ (by walk_at "val") hA6 (by omega) (by omega) fun H6 t hA7 ht => ?_)
  refine ret_ (m1_ (c_ ⟨⟨_, rfl⟩, ?_⟩))
  refine lcR (z := z) (by walk_at "val") ⟨by omega, by omega⟩ (fun D i H => ∃ l : List Nat, At G H ((D, oIs (.lst (l.map fun c => V.str (S [c])))) :: (s, oSt) :: L) ∧ Over lt l ∧ l.length = i) ?_ ?_ ?_
  · intro D hD
    exact ⟨[], hA7.ownL hD, fun _ h => by (cases h), rfl⟩
  · rintro D i H7 hi ⟨l, hA, ho, hl⟩
    refine ⟨rfl, ?_⟩
    obtain ⟨c, hc⟩ : ∃ c, b[(((i : Int) * i + t * i + (i : Int) / 7) % 7).toNat]? = some c := ⟨_, List.getElem?_eq_getElem (by omega)⟩
    refine go (val_ixS (c := c) (by walk_at "val") (by walk_at "val") (by omega) (atI_of (by omega) hc)) ?_
    refine ⟨_, hA.is, by rw [List.length_map]; omega, l ++ [c], by rw [List.map_append]; exact hA.set rfl, ?_, by rw [List.length_append, hl]; rfl⟩
    intro x hx
    rcases List.mem_append.mp hx with hx | hx
    · exact ho x hx
    · rw [List.mem_singleton.mp hx]; exact hb c (List.mem_of_getElem? hc)
  · rintro D H7 ⟨l, hA, ho, hl⟩
    refine ⟨_, D, l.map fun c => S [c], rfl, rfl, .inl (.inl ?_), ?_, ?_⟩
    · rw [List.map_map]; exact .inl hA.is
    · rw [Nat.mul_comm]; exact join_fits l (by omega)
    · rw [join_signs]
      exact k _ l hA.tail ho (by omega)
theorem ok_check_letters {P : Program} {w : World} {K : PySem.W.Frag} {mg : Str → Option Value} {base : Heap} {f : Addr} {fd : FuncData} (D0 : Tx.F_check_letters K f fd) (hm0 : mg "check_letters" = some (.ref f))
    (m_len : mg "len" = none) (m_MOST_KINDS_OF_LETTERS : ∃ t, mg "MOST_KINDS_OF_LETTERS" = some (.int 4 t)) (m_SMALL : ∃ t, mg "SMALL" = some (.str "abcdefghijklmnopqrstuvwxyz" t)) : Cal P w K mg base CX0 1 "check_letters" ["letters"] sp_check_letters := by
  refine ⟨f, fd, hm0, ?_, D0.kp, FunD.bindsN D0 fun _ _ _ _ _ _ us hl => match us, hl with | [_], _ => rfl⟩
  refine FunD.ok (k := 0) D0 Tx.sc_check_letters (fun vs H Q E h => len_sp_check_letters h) (fun cdv A outer s0 H vs Q E hr h => ?_)
  have hsz : sizeLine = 16777216 := rfl
  obtain ⟨lt, rfl, hg, k⟩ := h
  have g1 := hg.pos
  have g2 := hg.few
  refine ⟨_, PSs.nox (pss_cons (ps_if (PW.pt (pw_or (pt_cmpR op_lt (pe_callB call_len_str (by rfl) m_len PySem.boot_len (pa_cons (pv 0) pa_nil)) pe_int (nomark _)) (pw_or1 (pt_cmpR op_gt (pe_callB call_len_str (by rfl) m_len PySem.boot_len (pa_cons (pv 0) pa_nil)) (pe_gint m_MOST_KINDS_OF_LETTERS) (nomark _)))))
  (pss_one ps_never)
  pss_nil)
  (pss_cons (ps_set (i := 1) Tx.sc_check_letters.nd rfl (Or.inl rfl) pe_str)
  (pss_one (ps_for PassesOwn.never rfl (pi_str (pv 0)) (pg_name (i := 2) Tx.sc_check_letters.nd rfl (Or.inl rfl))
  (pss_cons (ps_if (PW.pt (pw_or (pt_cmpR op_notIn_sign (pv 2) (pe_gstr m_SMALL) (by rfl)) (pw_or1 (pt_cmpR op_le_str (pv 2) (pv 1) (nomark _)))))
  (pss_one ps_never)
  pss_nil)
  (pss_one (ps_set (i := 1) Tx.sc_check_letters.nd rfl (Or.inl rfl) (pv 2)))))))), ?_⟩
  walk_at "if"
  · rename_i h
    exfalso
    simp at h
    omega
  · walk_at "set"
    refine st_forS (l := lt) (by walk_at "val") (fun i σ H' => ∃ b v, σ = [some (sV lt), some (sV b), v] ∧ H' = H ∧ ((i = 0 ∧ b = []) ∨ ∃ c, b = [c] ∧ 0 < i ∧ lt[i - 1]? = some c))
      ⟨[], none, rfl, rfl, .inl ⟨rfl, rfl⟩⟩ ?_ ?_
    · rintro i c σ H' hc ⟨b, v, rfl, rfl, hb⟩
      walk_at "if"
      · rename_i h
        exfalso
        have hs := hg.small c (List.mem_of_getElem? hc)
        have e1 : (Str.ofString "abcdefghijklmnopqrstuvwxyz").cps.toList = abc := by rw [small_S]; rfl
        rw [e1, Bool.or_eq_true] at h
        rcases h with h | h
        · have : c ∈ abc := mem_abc.mpr ⟨by omega, by omega⟩
          simp [this] at h
        · rcases hb with ⟨h0, rfl⟩ | ⟨d, rfl, h0, hd⟩
          · simp at h
          · have hlt := List.pairwise_iff_getElem.mp hg.asc (i - 1) i (List.getElem?_eq_some_iff.mp hd).1 (List.getElem?_eq_some_iff.mp hc).1 (by omega)
            rw [(List.getElem?_eq_some_iff.mp hd).2, (List.getElem?_eq_some_iff.mp hc).2] at hlt
            have : ([d] : List Nat) < [c] := List.Lex.rel hlt
            simp [this] at h
      · walk_at "set"
        exact ⟨[c], _, rfl, rfl, .inr ⟨c, rfl, by omega, by simpa using hc⟩⟩
    · rintro σ H' ⟨b, v, rfl, rfl, hb⟩
      exact k
theorem ok_words_to {P : Program} {w : World} {K : PySem.W.Frag} {mg : Str → Option Value} {base : Heap} {f : Addr} {fd : FuncData} (D0 : Tx.F_words_to K f fd) (hm0 : mg "words_to" = some (.ref f))
    (C_check_letters : Cal P w K mg base CX0 1 "check_letters" ["letters"] sp_check_letters) (m_range : mg "range" = none) : Cal P w K mg base CX0 2 "words_to" ["letters", "most"] sp_words_to := by
  refine ⟨f, fd, hm0, ?_, D0.kp, FunD.bindsN D0 fun _ _ _ _ _ _ us hl => match us, hl with | [_, _], _ => rfl⟩
  refine FunD.ok (k := 1) D0 Tx.sc_words_to (fun vs H Q E h => len_sp_words_to h) (fun cdv A outer s0 H vs Q E hr h => ?_)
  have hsz : sizeLine = 16777216 := rfl
  obtain ⟨G, L, lt, n, rfl, hA, hg, hn, k⟩ := h
  have g1 := hg.pos
  have g2 := hg.few
  have hb : ∀ i, i ≤ 6 → (upTo lt i).length ≤ 5461 := fun i hi => by
    rw [upTo_len]
    exact Nat.le_trans (sums_base g2 i) (Nat.le_trans (sums_mono hi) (by decide))
  have hb2 : ∀ i, i ≤ 6 → (layer lt i).length ≤ 4096 := fun i hi => by
    rw [layer_len]
    exact Nat.le_trans (Nat.pow_le_pow_left g2 i) (Nat.pow_le_pow_right (by decide) hi)
  refine ⟨_, PSs.nox (pss_cons (ps_expr (pe_cal C_check_letters hr pass0 (pa_cons (pv 0) pa_nil)))
  (pss_cons (ps_set (i := 2) Tx.sc_words_to.nd rfl (Or.inl rfl) (pe_lst (pa_cons pe_str pa_nil)))
  (pss_cons (ps_set (i := 3) Tx.sc_words_to.nd rfl (Or.inl rfl) (pe_lst (pa_cons pe_str pa_nil)))
  (pss_cons (ps_for PassesOwn.never rfl (pi_range1 (by rfl) m_range (pa_cons (pv 1) pa_nil)) (pg_name (i := 4) Tx.sc_words_to.nd rfl (Or.inl rfl))
  (pss_cons (ps_setLc2 (i := 2) (own := [("word", 5), ("letter", 6)]) (vs1 := [6]) rfl Tx.sc_words_to.nd rfl rfl (sw_true rfl rfl rfl (by decide +kernel)) (pi_list (pv 2)) (blkOk_by (own := [("word", 5), ("letter", 6)]) (N := Tx.N_words_to) (sc := defScope Tx.s_words_to) (by decide +kernel)) (by decide) (fun _ _ _ _ _ => (pg_name (i := 5) Tx.sc_words_to.nd rfl (Or.inl rfl))) (fun _ _ _ _ _ => pts_nil) (fun _ _ _ _ _ => (pi_str (pv 0))) (fun _ _ _ _ _ => (pg_name (i := 6) Tx.sc_words_to.nd rfl (Or.inl rfl))) (fun _ _ _ _ _ => pts_nil) (fun _ _ _ _ _ => (pe_op op_add_str (pv 5) (pv 6))))
  (pss_one (ps_set (i := 3) Tx.sc_words_to.nd rfl (Or.inl rfl) (pe_op op_cat (pv 3) (pv 2))))))
  (pss_one (ps_ret (pv 3))))))), ?_⟩
  refine q_dropCall (by walk_at "val") ⟨lt, rfl, hg, ?_⟩
  refine q_as (new_lst (by walk_at "val") (by decide) fun pl hpl => ?_)
  have hA1 := hA.ownL (p := pl) (o := .lst [sV []]) hpl
  refine q_as (new_lst (by walk_at "val") (by decide) fun pt hpt => ?_)
  have hA2 := hA1.ownL (p := pt) (o := .lst [sV []]) hpt
  refine q_forR (n := n) (by walk_at "val") ⟨by omega, by omega⟩ (fun i σ H => ∃ pl pt v4 v5 v6, σ = [some (sV lt), some (.int n), some (.ref pl), some (.ref pt), v4, v5, v6] ∧ At G H ((pt, oIs (.lst ((upTo lt i).map sV))) :: (pl, oIs (.lst ((layer lt i).map sV))) :: L))
    ⟨pl, pt, none, none, none, rfl, hA2⟩ ?_ ?_
  · rintro i σ H hi ⟨pl, pt, v4, v5, v6, rfl, hA⟩
    have hbn := hb2 (i + 1) (by omega)
    have hll : ((layer lt i).map sV).length = (layer lt i).length := List.length_map ..
    with_reducible refine q_as ?_
    refine lc2LS (K := K) (xs := (layer lt i).map sV) (l := lt) (by walk_at "val") (SqL.of hA.is2) (fun D j t H => At G H ((D, oIs (.lst ((((layer lt i).take j).flatMap fun w => lt.map fun c => w ++ [c]).map sV ++ (((layer lt i)[j]?).map fun w => (lt.take t).map fun c => sV (w ++ [c])).getD []))) :: (pt, oIs (.lst ((upTo lt i).map sV))) :: (pl, oIs (.lst ((layer lt i).map sV))) :: L)) ?_ ?_ ?_ ?_ ?_ ?_
    · intro D hD
      have := hA.ownL (p := D) (o := .lst []) hD
      cases e : (layer lt i)[0]? with
      | none => exact this
      | some w => exact this
    · intro D j H h
      exact SqL.of h.is3
    · intro D j x H hx h
      exact ⟨rfl, by walk_at "val"⟩
    · intro D j t x c H hx hc h
      obtain ⟨w, hw, rfl⟩ : ∃ w, (layer lt i)[j]? = some w ∧ sV w = x := by
        rw [List.getElem?_map] at hx
        cases e : (layer lt i)[j]? with
        | none => rw [e] at hx; cases hx
        | some w => rw [e] at hx; exact ⟨w, rfl, Option.some.inj hx⟩
      have hwl : w.length = i := layer_word i w (List.mem_of_getElem? hw)
      have htk : (layer lt i).take (j + 1) = (layer lt i).take j ++ [w] := take_snoc hw
      have hlen : ((((layer lt i).take (j + 1)).flatMap fun w => lt.map fun c => w ++ [c])).length ≤ 4096 := Nat.le_trans (flat_take _ _ _) hbn
      rw [htk, List.flatMap_append, List.length_append] at hlen
      have h1 : ([w].flatMap fun w => lt.map fun c => w ++ [c]) = lt.map fun c => w ++ [c] := by simp
      rw [h1, List.length_map] at hlen
      have htl : (lt.take t).length ≤ lt.length := List.length_take_le' ..
      rw [hw] at h
      refine ⟨rfl, go (v := sV (w ++ [c])) (by walk_at "val") ⟨_, h.is, ?_, ?_⟩⟩
      · simp only [List.length_append, List.length_map, Option.map_some, Option.getD_some]
        omega
      · rw [hw]
        have h2 := h.set (P' := oIs (.lst ((((layer lt i).take j).flatMap fun w => lt.map fun c => w ++ [c]).map sV ++ ((lt.take (t + 1)).map fun c => sV (w ++ [c]))))) (o' := .lst (((((layer lt i).take j).flatMap fun w => lt.map fun c => w ++ [c]).map sV ++ (lt.take t).map fun c => sV (w ++ [c])) ++ [sV (w ++ [c])])) (by
          show HO.lst _ = HO.lst _
          rw [take_snoc hc, List.map_append, ← List.append_assoc]
          rfl)
        exact h2
    · intro D j H hj h
      rw [hll] at hj
      obtain ⟨w, hw⟩ : ∃ w, (layer lt i)[j]? = some w := ⟨_, List.getElem?_eq_getElem hj⟩
      rw [hw] at h
      have htk : (layer lt i).take (j + 1) = (layer lt i).take j ++ [w] := take_snoc hw
      have h1 : ([w].flatMap fun w => lt.map fun c => w ++ [c]) = lt.map fun c => w ++ [c] := by simp
      have e : (((layer lt i)[j + 1]?).map fun w => (lt.take 0).map fun c => sV (w ++ [c])).getD [] = [] := by
        cases (layer lt i)[j + 1]? <;> rfl
      rw [e, List.append_nil, htk, List.flatMap_append, h1, List.map_append, List.map_map]
      have h2 := h
      rw [List.take_length] at h2
      exact h2
    · intro D H h
      rw [hll, List.take_length] at h
      have e : (((layer lt i)[(layer lt i).length]?).map fun w => (lt.take 0).map fun c => sV (w ++ [c])).getD [] = [] := by
        cases (layer lt i)[(layer lt i).length]? <;> rfl
      rw [e, List.append_nil] at h
      with_reducible refine st_as (op_ (var_ rfl (var_ rfl ?_)))
      refine ⟨pt, D, _, _, rfl, rfl, h.is2, h.is, ?_, fun pz hpz => ?_⟩
      · rw [List.length_map, List.length_map]
        have := hb i (by omega)
        have e : ((layer lt i).flatMap fun w => lt.map fun c => w ++ [c]).length ≤ 4096 := hbn
        omega
      · have hA4 := h.ownL (p := pz) (o := .lst ((upTo lt i).map sV ++ ((layer lt i).flatMap fun w => lt.map fun c => w ++ [c]).map sV)) hpz
        refine ⟨D, pz, _, _, _, rfl, ?_⟩
        have hA5 := hA4.drop3.up3.tail
        have e : (upTo lt i).map sV ++ ((layer lt i).flatMap fun w => lt.map fun c => w ++ [c]).map sV = (upTo lt (i + 1)).map sV := (List.map_append ..).symm
        rw [e] at hA5
        rw [e]
        exact hA5
  · rintro σ H ⟨pl, pt, v4, v5, v6, rfl, hA⟩
    walk_at "ret"
    exact k _ _ hA.drop2
theorem ok_law_strings {P : Program} {w : World} {K : PySem.W.Frag} {mg : Str → Option Value} {base : Heap} {f : Addr} {fd : FuncData} (D0 : Tx.F_law_strings K f fd) (hm0 : mg "_law_strings" = some (.ref f))
    (m_isinstance : mg "isinstance" = none) (m_len : mg "len" = none) (m_list : mg "list" = none) (m_range : mg "range" = none) (m_str : mg "str" = none) : Cal P w K mg base CX0 1 "_law_strings" ["actual", "due"] sp_law_strings := by
  refine ⟨f, fd, hm0, ?_, D0.kp, FunD.bindsN D0 fun _ _ _ _ _ _ us hl => match us, hl with | [_, _], _ => rfl⟩
  refine FunD.ok (k := 0) D0 Tx.sc_law_strings (fun vs H Q E h => len_sp_law_strings h) (fun cdv A outer s0 H vs Q E hr h => ?_)
  have hsz : sizeLine = 16777216 := rfl
  obtain ⟨a, b, ws, rfl, ha, hb, hz, k⟩ := h
  have hlen : (ws.map sV).length = ws.length := List.length_map ..
  refine ⟨_, PSs.nox (pss_cons (ps_if (PW.pt (pw_or (pt_not (pt_val (pe_callB call_isi (by rfl) m_isinstance (by decide +kernel) (pa_cons (pv 0) (pa_cons (pe_bltn (v := .ty "list") (by rfl) m_list (by decide +kernel) rfl) pa_nil))))) (pw_or1 (pt_cmpR op_ne (pe_callB call_len_seq (by rfl) m_len PySem.boot_len (pa_cons (pv 0) pa_nil)) (pe_callB call_len_seq (by rfl) m_len PySem.boot_len (pa_cons (pv 1) pa_nil)) (nomark _)))))
  (pss_one (ps_ret pe_bl))
  pss_nil)
  (pss_cons (ps_for PassesOwn.never rfl (pi_range1 (by rfl) m_range (pa_cons (pe_callB call_len_seq (by rfl) m_len PySem.boot_len (pa_cons (pv 1) pa_nil)) pa_nil)) (pg_name (i := 2) Tx.sc_law_strings.nd rfl (Or.inl rfl))
  (pss_one (ps_if (PW.pt (pw_or (pt_not (pt_val (pe_callB call_isi (by rfl) m_isinstance (by decide +kernel) (pa_cons (pe_ix ix_list (pv 0) (pv 2) (fun _ _ => rfl)) (pa_cons (pe_bltn (v := .ty "str") (by rfl) m_str (by decide +kernel) rfl) pa_nil))))) (pw_or1 (pt_cmpR op_ne (pe_ix ix_list (pv 0) (pv 2) (fun _ _ => rfl)) (pe_ix ix_list (pv 1) (pv 2) (fun _ _ => rfl)) (nomark _)))))
  (pss_one (ps_ret pe_bl))
  pss_nil)))
  (pss_one (ps_ret pe_bl)))), ?_⟩
  walk_at "if"
  · rename_i h
    exfalso
    simp at h
  · refine q_forR (n := ((ws.map sV).length : Int)) (by walk_at "val") ⟨by omega, by rw [hlen]; omega⟩ (fun i σ H' => ∃ v, σ = [some (.ref a), some (.ref b), v] ∧ H' = H)
      ⟨none, rfl, rfl⟩ ?_ ?_
    · rintro i σ H' hi ⟨v, rfl, rfl⟩
      obtain ⟨x, hx⟩ : ∃ x, ws[i]? = some x := ⟨_, List.getElem?_eq_getElem (by omega)⟩
      have hat : atI (ws.map sV) ((i : Nat) : Int) = some (sV x) := atI_nat (by rw [List.getElem?_map, hx]; rfl)
      walk_at "if"
      · rename_i h
        exfalso
        simp at h
      · exact ⟨_, rfl, rfl⟩
    · rintro σ H' ⟨v, rfl, rfl⟩
      walk_at "ret"
      exact k
theorem ok_law_all_words {P : Program} {w : World} {K : PySem.W.Frag} {mg : Str → Option Value} {base : Heap} {f : Addr} {fd : FuncData} (D0 : Tx.F_law_all_words K f fd) (hm0 : mg "_law_all_words" = some (.ref f))
    (m_list : mg "list" = none) (m_range : mg "range" = none) : Cal P w K mg base CX0 1 "_law_all_words" ["letters", "most"] sp_law_all_words := by
  refine ⟨f, fd, hm0, ?_, D0.kp, FunD.bindsN D0 fun _ _ _ _ _ _ us hl => match us, hl with | [_, _], _ => rfl⟩
  refine FunD.ok (k := 0) D0 Tx.sc_law_all_words (fun vs H Q E h => len_sp_law_all_words h) (fun cdv A outer s0 H vs Q E hr h => ?_)
  have hsz : sizeLine = 16777216 := rfl
  obtain ⟨G, L, lt, n, rfl, hA, hg, hn, k⟩ := h
  have g1 := hg.pos
  have g2 := hg.few
  have hb : ∀ i, i ≤ 6 → (upTo lt i).length ≤ 5461 := fun i hi => by
    rw [upTo_len]
    exact Nat.le_trans (sums_base g2 i) (Nat.le_trans (sums_mono hi) (by decide))
  have hb2 : ∀ i, i ≤ 6 → (layer lt i).length ≤ 4096 := fun i hi => by
    rw [layer_len]
    exact Nat.le_trans (Nat.pow_le_pow_left g2 i) (Nat.pow_le_pow_right (by decide) hi)
  refine ⟨_, PSs.nox (pss_cons (ps_set (i := 2) Tx.sc_law_all_words.nd rfl (Or.inl rfl) (pe_lst (pa_cons pe_str pa_nil)))
  (pss_cons (ps_set (i := 3) Tx.sc_law_all_words.nd rfl (Or.inl rfl) (pe_lst (pa_cons pe_str pa_nil)))
  (pss_cons (ps_for PassesOwn.never rfl (pi_range1 (by rfl) m_range (pa_cons (pv 1) pa_nil)) (pg_name (i := 4) Tx.sc_law_all_words.nd rfl (Or.inl rfl))
  (pss_cons (ps_set (i := 5) Tx.sc_law_all_words.nd rfl (Or.inl rfl) (pe_lst pa_nil))
  (pss_cons (ps_for PassesOwn.never rfl (pi_list (pe_callTy call_list_of (by rfl) m_list (by decide +kernel) (pa_cons (pv 2) pa_nil))) (pg_name (i := 6) Tx.sc_law_all_words.nd rfl (Or.inl rfl))
  (pss_one (ps_for PassesOwn.never rfl (pi_str (pv 0)) (pg_name (i := 7) Tx.sc_law_all_words.nd rfl (Or.inl rfl))
  (pss_one (ps_expr (pe_bm PySem.F.plainAttrs_list PySem.F.slot_list_append PySem.F.type_list_append mt_append (pv 5) (pa_cons (pe_op op_add_str (pv 6) (pv 7)) pa_nil)))))))
  (pss_cons (ps_set (i := 2) Tx.sc_law_all_words.nd rfl (Or.inl rfl) (pv 5))
  (pss_one (ps_set (i := 3) Tx.sc_law_all_words.nd rfl (Or.inl rfl) (pe_op op_cat (pv 3) (pv 5))))))))
  (pss_one (ps_ret (pv 3)))))), ?_⟩
  refine q_as (new_lst (by walk_at "val") (by decide) fun pl hpl => ?_)
  have hA1 := hA.ownL (p := pl) (o := .lst [sV []]) hpl
  refine q_as (new_lst (by walk_at "val") (by decide) fun pt hpt => ?_)
  have hA2 := hA1.ownL (p := pt) (o := .lst [sV []]) hpt
  refine q_forR (n := n) (by walk_at "val") ⟨by omega, by omega⟩ (fun i σ H => ∃ pl pt v4 v5 v6 v7, σ = [some (sV lt), some (.int n), some (.ref pl), some (.ref pt), v4, v5, v6, v7] ∧ At G H ((pt, oIs (.lst ((upTo lt i).map sV))) :: (pl, oIs (.lst ((layer lt i).map sV))) :: L))
    ⟨pl, pt, none, none, none, none, rfl, hA2⟩ ?_ ?_
  · rintro i σ H hi ⟨pl, pt, v4, v5, v6, v7, rfl, hA⟩
    refine q_as (new_lst (by walk_at "val") (by decide) fun pn hpn => ?_)
    have hA1 := hA.ownL (p := pn) (o := .lst []) hpn
    refine q_forLx (cb_ (acons_ (var_ rfl (anil_ ⟨pl, _, rfl, .inl (SqL.of hA1.is3), fun pc hpc => ?_⟩))))
    have hA3 := hA1.ownL (p := pc) (o := .lst ((layer lt i).map sV)) hpc
    have hll : ((layer lt i).map sV).length = (layer lt i).length := List.length_map ..
    have hbi := hb2 i (by omega)
    have hbn := hb2 (i + 1) (by omega)
    refine ⟨pc, rfl, ⟨_, SqL.of hA3.is⟩, forK_L (xs := (layer lt i).map sV) (fun j σ H => ∃ v6 v7, σ = [some (sV lt), some (.int n), some (.ref pl), some (.ref pt), some (.int (i : Nat)), some (.ref pn), v6, v7] ∧ At G H ((pc, oIs (.lst ((layer lt i).map sV))) :: (pn, oIs (.lst ((((layer lt i).take j).flatMap fun w => lt.map fun c => w ++ [c]).map sV))) :: (pt, oIs (.lst ((upTo lt i).map sV))) :: (pl, oIs (.lst ((layer lt i).map sV))) :: L))
      ⟨_, _, rfl, hA3⟩ (fun j σ H ⟨_, _, _, h⟩ => SqL.of h.is) ?_ ?_⟩
    · rintro j x σ H hx ⟨v6, v7, rfl, hA⟩
      obtain ⟨w, hw, rfl⟩ : ∃ w, (layer lt i)[j]? = some w ∧ sV w = x := by
        rw [List.getElem?_map] at hx
        cases e : (layer lt i)[j]? with
        | none => rw [e] at hx; cases hx
        | some w => rw [e] at hx; exact ⟨w, rfl, Option.some.inj hx⟩
      have hwl : w.length = i := layer_word i w (List.mem_of_getElem? hw)
      have htk : (layer lt i).take (j + 1) = (layer lt i).take j ++ [w] := take_snoc hw
      have hlen : ((((layer lt i).take (j + 1)).flatMap fun w => lt.map fun c => w ++ [c])).length ≤ 4096 := Nat.le_trans (flat_take _ _ _) hbn
      rw [htk, List.flatMap_append, List.length_append] at hlen
      have h1 : ([w].flatMap fun w => lt.map fun c => w ++ [c]) = lt.map fun c => w ++ [c] := by simp
      rw [h1, List.length_map] at hlen
      refine st_forS (l := lt) (by walk_at "val") (fun t σ H => ∃ v7, σ = [some (sV lt), some (.int n), some (.ref pl), some (.ref pt), some (.int (i : Nat)), some (.ref pn), some (sV w), v7] ∧ At G H ((pc, oIs (.lst ((layer lt i).map sV))) :: (pn, oIs (.lst ((((layer lt i).take j).flatMap fun w => lt.map fun c => w ++ [c]).map sV ++ (lt.take t).map fun c => sV (w ++ [c])))) :: (pt, oIs (.lst ((upTo lt i).map sV))) :: (pl, oIs (.lst ((layer lt i).map sV))) :: L))
        ⟨_, rfl, by rw [List.take_zero, List.map_nil, List.append_nil]; exact hA⟩ ?_ ?_
      · rintro t c σ H hc ⟨v7, rfl, hA⟩
        have htl : (lt.take t).length ≤ lt.length := List.length_take_le' ..
        walk_at "app"
        · rename_i H3 hA3
          refine ⟨_, rfl, ?_⟩
          rw [take_snoc hc, List.map_append, ← List.append_assoc]
          exact hA3
      · rintro σ H ⟨v7, rfl, hA⟩
        refine ⟨_, _, rfl, ?_⟩
        rw [htk, List.flatMap_append, h1, List.map_append]
        rw [List.take_length] at hA
        rw [List.map_map]
        exact hA
    · rintro σ H ⟨v6, v7, rfl, hA⟩
      rw [hll, List.take_length] at hA
      have hA := hA.tail
      walk_at "set"
      refine st_as (op_ (var_ rfl (var_ rfl ⟨pt, pn, _, _, rfl, rfl, hA.is2, hA.is, ?_, fun pz hpz => ?_⟩)))
      · rw [List.length_map, List.length_map]
        have := hb i (by omega)
        have e : ((layer lt i).flatMap fun w => lt.map fun c => w ++ [c]).length ≤ 4096 := hbn
        omega
      · have hA4 := hA.ownL (p := pz) (o := .lst ((upTo lt i).map sV ++ ((layer lt i).flatMap fun w => lt.map fun c => w ++ [c]).map sV)) hpz
        refine ⟨pn, pz, _, _, _, _, rfl, ?_⟩
        have hA5 := hA4.drop3.up3.tail
        have e : (upTo lt i).map sV ++ ((layer lt i).flatMap fun w => lt.map fun c => w ++ [c]).map sV = (upTo lt (i + 1)).map sV := (List.map_append ..).symm
        rw [e] at hA5
        rw [e]
        exact hA5
  · rintro σ H ⟨pl, pt, v4, v5, v6, v7, rfl, hA⟩
    walk_at "ret"
    exact k _ _ hA.drop2
theorem ok_law_power {P : Program} {w : World} {K : PySem.W.Frag} {mg : Str → Option Value} {base : Heap} {f : Addr} {fd : FuncData} (D0 : Tx.F_law_power K f fd) (hm0 : mg "_law_power" = some (.ref f))
    (m_range : mg "range" = none) : Cal P w K mg base CX0 1 "_law_power" ["many", "size"] sp_law_power := by
  refine ⟨f, fd, hm0, ?_, D0.kp, FunD.bindsN D0 fun _ _ _ _ _ _ us hl => match us, hl with | [_, _], _ => rfl⟩
  refine FunD.ok (k := 0) D0 Tx.sc_law_power (fun vs H Q E h => len_sp_law_power h) (fun cdv A outer s0 H vs Q E hr h => ?_)
  have hsz : sizeLine = 16777216 := rfl
  obtain ⟨m, n, rfl, hm, hn, k⟩ := h
  refine ⟨_, PSs.nox (pss_cons (ps_set (i := 2) Tx.sc_law_power.nd rfl (Or.inl rfl) pe_int)
  (pss_cons (ps_for PassesOwn.never rfl (pi_range1 (by rfl) m_range (pa_cons (pv 1) pa_nil)) (pg_name (i := 3) Tx.sc_law_power.nd rfl (Or.inl rfl))
  (pss_one (ps_set (i := 2) Tx.sc_law_power.nd rfl (Or.inl rfl) (pe_op op_mul (pv 2) (pv 0)))))
  (pss_one (ps_ret (pv 2))))), ?_⟩
  walk_at "set"
  refine q_forR (n := n) (by walk_at "val") ⟨by omega, by omega⟩ (fun i σ H' => ∃ v, σ = [some (.int m), some (.int n), some (.int ((m ^ i : Nat) : Int)), v] ∧ H' = H) ⟨none, rfl, rfl⟩ ?_ ?_
  · rintro i σ H' hi ⟨v, rfl, rfl⟩
    refine st_set (v := .int ((m ^ i : Nat) * (m : Int))) (val_I (val_var rfl) (val_var rfl) (.inr ⟨by omega, by omega⟩)) ?_
    exact ⟨_, by rw [Nat.pow_succ, Int.natCast_mul]; rfl, rfl⟩
  · rintro σ H' ⟨v, rfl, rfl⟩
    walk_at "ret"
    exact k
theorem ok_law_lists_hold {P : Program} {w : World} {K : PySem.W.Frag} {mg : Str → Option Value} {base : Heap} {f : Addr} {fd : FuncData} (D0 : Tx.F_law_lists_hold K f fd) (hm0 : mg "_law_lists_hold" = some (.ref f))
    (C_law_next : Cal P w K mg base CX0 1 "_law_next" ["state", "many"] sp_law_next) (C_law_power : Cal P w K mg base CX0 1 "_law_power" ["many", "size"] sp_law_power) (C_law_strings : Cal P w K mg base CX0 1 "_law_strings" ["actual", "due"] sp_law_strings) (C_words_to : Cal P w K mg base CX0 2 "words_to" ["letters", "most"] sp_words_to) (C_law_all_words : Cal P w K mg base CX0 1 "_law_all_words" ["letters", "most"] sp_law_all_words) (m_len : mg "len" = none) (m_range : mg "range" = none) : Cal P w K mg base CX0 3 "_law_lists_hold" ["state", "letters"] sp_law_lists_hold := by
  refine ⟨f, fd, hm0, ?_, D0.kp, FunD.bindsN D0 fun _ _ _ _ _ _ us hl => match us, hl with | [_, _], _ => rfl⟩
  refine FunD.ok (k := 2) D0 Tx.sc_law_lists_hold (fun vs H Q E h => len_sp_law_lists_hold h) (fun cdv A outer s0 H vs Q E hr h => ?_)
  have hsz : sizeLine = 16777216 := rfl
  obtain ⟨G, L, s, lt, rfl, hA, hg, k⟩ := h
  have g1 := hg.pos
  have g2 := hg.few
  have hg2 := hg.take2
  have hb : ∀ (l : List Nat) i, l.length ≤ 4 → i ≤ 6 → 0 < (upTo l i).length ∧ (upTo l i).length ≤ 5461 := fun l i h1 hi => by
    rw [upTo_len]
    exact ⟨sums_pos _ _, Nat.le_trans (sums_base h1 i) (Nat.le_trans (sums_mono hi) (by decide))⟩
  refine ⟨_, PSs.nox (pss_cons (ps_set (i := 2) Tx.sc_law_lists_hold.nd rfl (Or.inl rfl) (pe_ix ix_list (pe_lst (pa_cons pe_int (pa_cons pe_int (pa_cons pe_int (pa_cons pe_int (pa_cons pe_int (pa_cons pe_int (pa_cons pe_int (pa_cons pe_int pa_nil))))))))) (pe_cal C_law_next hr pass0 (pa_cons (pv 0) (pa_cons pe_int pa_nil))) (fun _ _ => rfl)))
  (pss_cons (ps_set (i := 3) Tx.sc_law_lists_hold.nd rfl (Or.inl rfl) (pe_cmpR op_eq (pe_cal C_law_next hr pass0 (pa_cons (pv 0) (pa_cons pe_int pa_nil))) pe_int (nomark _)))
  (pss_cons (ps_set (i := 4) Tx.sc_law_lists_hold.nd rfl (Or.inl rfl) (pe_op op_add pe_int (pe_cal C_law_next hr pass0 (pa_cons (pv 0) (pa_cons pe_int pa_nil)))))
  (pss_cons (ps_for PassesOwn.never rfl (pi_range1 (by rfl) m_range (pa_cons pe_int pa_nil)) (pg_name (i := 5) Tx.sc_law_lists_hold.nd rfl (Or.inl rfl))
  (pss_one (ps_if (PW.pt (pw_and (pt_not (pt_val (pv 3))) (pw_and1 (pt_cmpR op_gt (pe_cal C_law_power hr pass0 (pa_cons (pe_callB call_len_str (by rfl) m_len PySem.boot_len (pa_cons (pv 1) pa_nil)) (pa_cons (pv 2) pa_nil))) pe_int (nomark _)))))
  (pss_one (ps_set (i := 2) Tx.sc_law_lists_hold.nd rfl (Or.inl rfl) (pe_op op_sub (pv 2) pe_int)))
  pss_nil)))
  (pss_cons (ps_if (pt_not (pt_val (pe_cal C_law_strings hr pass0 (pa_cons (pe_cal C_words_to hr pass0 (pa_cons (pv 1) (pa_cons (pv 2) pa_nil))) (pa_cons (pe_cal C_law_all_words hr pass0 (pa_cons (pv 1) (pa_cons (pv 2) pa_nil))) pa_nil)))))
  (pss_one (ps_ret pe_bl))
  pss_nil)
  (pss_cons (ps_set (i := 6) Tx.sc_law_lists_hold.nd rfl (Or.inl rfl) (pe_cal C_law_all_words hr pass0 (pa_cons (pe_slice sl_str (pv 1) po_none (po_some pe_int)) (pa_cons (pv 4) pa_nil))))
  (pss_cons (ps_set (i := 7) Tx.sc_law_lists_hold.nd rfl (Or.inl rfl) (pe_cal C_words_to hr pass0 (pa_cons (pe_slice sl_str (pv 1) po_none (po_some pe_int)) (pa_cons (pv 4) pa_nil))))
  (pss_cons (ps_if (pt_not (pt_val (pe_cal C_law_strings hr pass0 (pa_cons (pv 7) (pa_cons (pv 6) pa_nil)))))
  (pss_one (ps_ret pe_bl))
  pss_nil)
  (pss_cons (ps_asg pe_str (pg_sub (pv 7) (pe_cal C_law_next hr pass0 (pa_cons (pv 0) (pa_cons (pe_callB call_len_seq (by rfl) m_len PySem.boot_len (pa_cons (pv 6) pa_nil)) pa_nil))) set_list))
  (pss_cons (ps_expr (pe_bm PySem.F.plainAttrs_list PySem.F.slot_list_append PySem.F.type_list_append mt_append (pv 7) (pa_cons pe_str pa_nil)))
  (pss_one (ps_ret (pe_cal C_law_strings hr pass0 (pa_cons (pe_cal C_words_to hr pass0 (pa_cons (pe_slice sl_str (pv 1) po_none (po_some pe_int)) (pa_cons (pv 4) pa_nil))) (pa_cons (pv 6) pa_nil))))))))))))))), ?_⟩
  refine q_as (op_ (lst_ (acons_ (c_ (acons_ (c_ (acons_ (c_ (acons_ (c_ (acons_ (c_ (acons_ (c_ (acons_ (c_ (acons_ (c_ (anil_ ⟨by show 8 ≤ sizeLine; decide, fun p hp => ?_⟩)))))))))))))))))))
  refine nextN_ (by walk_at "val") (hA.ownL (o := .lst [.int 6, .int 6, .int 5, .int 4, .int 3, .int 2, .int 1, .int 0]) hp).swap (by omega) (by omega) fun H1 j hA hj => ?_
  obtain ⟨z, hz, hz1⟩ : ∃ z : Nat, ([.int 6, .int 6, .int 5, .int 4, .int 3, .int 2, .int 1, .int 0] : List V)[j]? = some (.int (z : Int)) ∧ z ≤ 6 := by
    rcases (by omega : j = 0 ∨ j = 1 ∨ j = 2 ∨ j = 3 ∨ j = 4 ∨ j = 5 ∨ j = 6 ∨ j = 7) with rfl | rfl | rfl | rfl | rfl | rfl | rfl | rfl
    · exact ⟨6, rfl, by omega⟩
    · exact ⟨6, rfl, by omega⟩
    · exact ⟨5, rfl, by omega⟩
    · exact ⟨4, rfl, by omega⟩
    · exact ⟨3, rfl, by omega⟩
    · exact ⟨2, rfl, by omega⟩
    · exact ⟨1, rfl, by omega⟩
    · exact ⟨0, rfl, by omega⟩
  refine ⟨p, _, _, _, rfl, rfl, SqL.of hA.is2, atI_nat hz, ?_⟩
  have hA := hA.drop2
  refine q_as (op_ (next_ (by walk_at "val") hA (by omega) (by omega) fun H2 d hA d0 d1 => c_ ⟨rfl, ?_⟩))
  refine q_as (op_l val_c (nextN_ (by walk_at "val") hA (by omega) (by omega) fun H3 f hA hf => ⟨_, _, rfl, rfl, ?_⟩))
  obtain ⟨wh, hwh⟩ : ∃ wh : Bool, (decide (V.int d = V.int 0)) = wh := ⟨_, rfl⟩
  rw [hwh]
  refine q_forR (n := 6) (by walk_at "val") ⟨by omega, by omega⟩ (fun i σ H => ∃ (m : Nat) (v5 : Option V), σ = [some (.ref s), some (sV lt), some (.int (m : Int)), some (.bl wh), some (.int (5 + (f : Int))), v5, none, none] ∧ H = H3 ∧ m ≤ 6) ⟨z, none, rfl, rfl, hz1⟩ ?_ ?_
  · rintro i σ H hi ⟨m, v5, rfl, rfl, hm⟩
    refine st_when (b := !wh && decide ((lt.length ^ m : Nat) > (500 : Int))) (ans_an0 (ans_nt (ans_T (val_var rfl))) (ans_T (val_I0 (val_call (v := .int ((lt.length ^ m : Nat) : Int)) (by walk_at "val") fun Q q => ⟨lt.length, m, rfl, by omega, by omega, q⟩) val_c))) (fun hb => ?_) (fun hb => ?_)
    · have h2 : ((lt.length ^ m : Nat) : Int) > 500 := by
        rw [Bool.and_eq_true] at hb
        exact of_decide_eq_true hb.2
      have h3 : m ≠ 0 := fun e => by rw [e, Nat.pow_zero] at h2; omega
      walk_at "set"
      exact ⟨m - 1, _, by rw [show ((m - 1 : Nat) : Int) = (m : Int) - 1 by omega]; rfl, rfl, by omega⟩
    · exact ⟨m, _, rfl, rfl, hm⟩
  rintro σ H ⟨m, v5, rfl, rfl, hm⟩
  refine q_whenx (nt_ (tst_ (callx_ (acons_ (callx_ (aval_ (vs := [sV lt, .int (m : Int)]) (by walk_at "val") ⟨G, _, lt, m, rfl, hA, hg, hm, fun H4 pa hB => ?_⟩))))))
  refine acons_ (callx_ (aval_ (vs := [sV lt, .int (m : Int)]) (by walk_at "val") ⟨G, _, lt, m, rfl, hB, hg, hm, fun H5 pb hC => anil_ ⟨pa, pb, upTo lt m, rfl, hC.is2, hC.is, ?_, true, rfl, iteF ?_⟩⟩))
  · have := (hb lt m g2 hm).2
    omega
  have hD := hC.tail.tail
  refine q_call (vs := [sV (lt.take 2), .int ((5 + f : Nat) : Int)]) (aval_cons (val_slTake (j := 2) (val_var rfl) val_c (by omega)) (by walk_at "val")) ⟨G, _, lt.take 2, 5 + f, rfl, hD, hg2, by omega, fun H6 pd hE => ?_⟩
  refine q_call (vs := [sV (lt.take 2), .int ((5 + f : Nat) : Int)]) (aval_cons (val_slTake (j := 2) (val_var rfl) val_c (by omega)) (by walk_at "val")) ⟨G, _, lt.take 2, 5 + f, rfl, hE, hg2, by omega, fun H7 pt hF => ?_⟩
  obtain ⟨hl0, hl1⟩ := hb (lt.take 2) (5 + f) hg2.few (by omega)
  have hll : ((upTo (lt.take 2) (5 + f)).map sV).length = (upTo (lt.take 2) (5 + f)).length := List.length_map ..
  refine q_whenx (nt_ (tst_ (callx_ (aval_ (vs := [.ref pt, .ref pd]) (by walk_at "val") ⟨pt, pd, _, rfl, hF.is, hF.is2, by omega, true, rfl, iteF ?_⟩))))
  refine q_subx (c_ (var_ rfl (nextN_ (n := (((upTo (lt.take 2) (5 + f)).map sV).length : Nat)) (by walk_at "val") hF.up3 (by omega) (by omega) fun H8 q hI hq => ?_)))
  have hJ := hI.swap
  refine ⟨pt, _, _, q, rfl, rfl, hJ.is, ?_, ?_⟩
  · unfold ixN
    rw [if_pos (by omega), if_pos (by omega)]
    rfl
  have hK := hJ.set (P' := oIs (.lst (((upTo (lt.take 2) (5 + f)).map sV).set q (.str (Str.ofString "?"))))) rfl
  refine q_app (val_var rfl) val_c hK.is (by rw [List.length_set]; omega) ?_
  have hM := (hK.set (P' := oIs (.lst ((((upTo (lt.take 2) (5 + f)).map sV).set q (.str (Str.ofString "?"))) ++ [.str (Str.ofString "")]))) rfl).tail
  refine ret_ (callx_ (acons_ (callx_ (aval_ (vs := [sV (lt.take 2), .int ((5 + f : Nat) : Int)]) (aval_cons (val_slTake (j := 2) (val_var rfl) val_c (by omega)) (by walk_at "val")) ⟨G, _, lt.take 2, 5 + f, rfl, hM, hg2, by omega, fun H9 pz hN => ?_⟩))))
  refine aval_ (vs := [.ref pd]) (by walk_at "val") ⟨pz, pd, _, rfl, hN.is, hN.is3, by omega, k _ hN.tail.drop2⟩
theorem ok_order_key {P : Program} {w : World} {K : PySem.W.Frag} {mg : Str → Option Value} {base : Heap} {f : Addr} {fd : FuncData} (D0 : Tx.F_order_key K f fd) (hm0 : mg "order_key" = some (.ref f)) (m_len : mg "len" = none) : KeyD P w K mg base 1 "order_key" wkey := by
  refine KeyD.of D0 Tx.sc_order_key (FunD.bindsN D0 fun _ _ _ _ _ _ us hl => match us, hl with | [_], _ => rfl) hm0 (fun cdv A outer s s1 H l E hl hI => ?_)
  have I := hI E0
  exact key_body (X := (cxOf CX0 P w K mg base Tx.N_order_key _ _ f cdv A outer s H E0)) I rfl (Or.inl rfl) rfl rfl m_len hl rfl rfl
theorem ok_in_order {P : Program} {w : World} {K : PySem.W.Frag} {mg : Str → Option Value} {base : Heap} {f : Addr} {fd : FuncData} (D0 : Tx.F_in_order K f fd) (hm0 : mg "in_order" = some (.ref f))
    (m_list : mg "list" = none) (m_sorted : mg "sorted" = none) (C_order_key : KeyD P w K mg base 1 "order_key" wkey) : Cal P w K mg base CX0 4 "in_order" ["words"] sp_in_order := by
  refine ⟨f, fd, hm0, ?_, D0.kp, FunD.bindsN D0 fun _ _ _ _ _ _ us hl => match us, hl with | [_], _ => rfl⟩
  refine FunD.ok (k := 3) D0 Tx.sc_in_order (fun vs H Q E h => len_sp_in_order h) (fun cdv A outer s0 H vs Q E hr h => ?_)
  have hu := hu_of hr
  have hsz : sizeLine = 16777216 := rfl
  obtain ⟨G, L, a, ws, rfl, hA, hz, hw, k⟩ := h
  refine ⟨_, PSs.nox (pss_cons (ps_set (i := 1) Tx.sc_in_order.nd rfl (Or.inl rfl) pe_dnewK)
  (pss_cons (ps_for PassesOwn.never rfl (pi_list (pv 0)) (pg_name (i := 2) Tx.sc_in_order.nd rfl (Or.inl rfl))
  (pss_one (ps_dput hu (pv 1) (pv 2) pe_bl rfl)))
  (pss_one (ps_ret (pe_sortedKey C_order_key hr m_sorted (pa_cons (pe_callTy (call_listD rfl) (by rfl) m_list (by decide +kernel) (pa_cons (pv 1) pa_nil)) pa_nil)))))), ?_⟩
  refine q_as (fun d hd => ?_)
  have hA1 := hA.ownL (p := d) (o := .dK []) hd
  refine q_forL (K := K) (xs := ws.map sV) (by walk_at "val") (SqL.of hA1.is2) (fun i σ H => ∃ v2, σ = [some (.ref a), some (.ref d), v2] ∧ At G H ((d, oIs (.dK (dW (addAll (ws.take i))))) :: (a, oIs (.lst (ws.map sV))) :: L)) ⟨none, rfl, hA1⟩ (fun i σ H ⟨_, _, h⟩ => SqL.of h.is2) ?_ ?_
  · rintro i x σ H hx ⟨v2, rfl, hA⟩
    obtain ⟨w, hwi, rfl⟩ := map_get hx
    obtain ⟨h1, h2, h3⟩ := addAll_ok _ (ws.take i) rfl
    have htl : (ws.take i).length ≤ ws.length := List.length_take_le' ..
    refine st_dputW (w := w) (ws := addAll (ws.take i)) (d := d) (by walk_at "val") (by walk_at "val") (by walk_at "val") hA (by omega) fun H' hA' => ?_
    refine ⟨_, rfl, ?_⟩
    rw [take_snoc hwi, addAll_snoc]
    exact hA'
  · rintro σ H ⟨v2, rfl, hA⟩
    obtain ⟨h1, h2, h3⟩ := addAll_ok _ ws rfl
    rw [List.length_map, List.take_length] at hA
    refine ret_ (sortk_ (acons_ (cb_ (acons_ (var_ rfl (anil_ ⟨d, _, rfl, .inl hA.is, fun p hp => ?_⟩))))))
    rw [dW_keys]
    have hA2 := hA.ownL (p := p) (o := .lst ((addAll ws).map sV)) hp
    refine anil_ ⟨p, addAll ws, rfl, hA2.is, fun w hm => Nat.le_trans (hw w ((h3 w).mp hm)) (by omega), fun ys q hp1 hp2 hq => ?_⟩
    have hA3 := hA2.ownL (p := q) (o := .lst (ys.map sV)) hq
    exact k _ _ ys hA3.drop2.drop2 (Told.perm hp1 hp2 h1 h3)
theorem ok_check_word {P : Program} {w : World} {K : PySem.W.Frag} {mg : Str → Option Value} {base : Heap} {f : Addr} {fd : FuncData} (D0 : Tx.F_check_word K f fd) (hm0 : mg "check_word" = some (.ref f))
    (m_enumerate : mg "enumerate" = none) : Cal P w K mg base CX0 1 "check_word" ["letters", "word"] sp_check_word := by
  refine ⟨f, fd, hm0, ?_, D0.kp, FunD.bindsN D0 fun _ _ _ _ _ _ us hl => match us, hl with | [_, _], _ => rfl⟩
  refine FunD.ok (k := 0) D0 Tx.sc_check_word (fun vs H Q E h => len_sp_check_word h) (fun cdv A outer s0 H vs Q E hr h => ?_)
  have hsz : sizeLine = 16777216 := rfl
  obtain ⟨lt, w, rfl, ho, hl, k⟩ := h
  refine ⟨_, PSs.nox (pss_one (ps_for PassesOwn.never rfl (pi_enumS (by rfl) m_enumerate (pa_cons (pv 1) pa_nil)) (pg_tup rfl (pgs_cons (pg_name (i := 2) Tx.sc_check_word.nd rfl (Or.inl rfl)) (pgs_cons (pg_name (i := 3) Tx.sc_check_word.nd rfl (Or.inl rfl)) pgs_nil)))
  (pss_one (ps_if (pt_cmpR op_notIn_sign (pv 3) (pv 0) (by rfl))
  (pss_one ps_never)
  pss_nil)))), ?_⟩
  refine st_forES (K := K) (l := w) (by walk_at "val") (fun i σ H' => ∃ v1 v2, σ = [some (sV lt), some (sV w), v1, v2] ∧ Same H H') ⟨none, none, rfl, Same.refl H⟩ ?_ ?_
  · rintro i c σ H1 H2 hc s2 ⟨v1, v2, rfl, s1⟩
    walk_at "if"
    · rename_i h
      exfalso
      have := ho c (List.mem_of_getElem? hc)
      simp [this] at h
    · exact ⟨_, _, rfl, s1.trans s2⟩
  · rintro σ H' ⟨v1, v2, rfl, s1⟩
    exact k H' s1
theorem ok_rank {P : Program} {w : World} {K : PySem.W.Frag} {mg : Str → Option Value} {base : Heap} {f : Addr} {fd : FuncData} (D0 : Tx.F_rank K f fd) (hm0 : mg "rank" = some (.ref f))
    (C_check_letters : Cal P w K mg base CX0 1 "check_letters" ["letters"] sp_check_letters) (C_check_word : Cal P w K mg base CX0 1 "check_word" ["letters", "word"] sp_check_word) (m_len : mg "len" = none) : Cal P w K mg base CX0 2 "rank" ["letters", "word"] sp_rank := by
  refine ⟨f, fd, hm0, ?_, D0.kp, FunD.bindsN D0 fun _ _ _ _ _ _ us hl => match us, hl with | [_, _], _ => rfl⟩
  refine FunD.ok (k := 1) D0 Tx.sc_rank (fun vs H Q E h => len_sp_rank h) (fun cdv A outer s0 H vs Q E hr h => ?_)
  have hsz : sizeLine = 16777216 := rfl
  obtain ⟨lt, w, rfl, hg, ho, hl, k⟩ := h
  have g2 := hg.few
  refine ⟨_, PSs.nox (pss_cons (ps_expr (pe_cal C_check_letters hr pass0 (pa_cons (pv 0) pa_nil)))
  (pss_cons (ps_expr (pe_cal C_check_word hr pass0 (pa_cons (pv 0) (pa_cons (pv 1) pa_nil))))
  (pss_cons (ps_set (i := 2) Tx.sc_rank.nd rfl (Or.inl rfl) pe_int)
  (pss_cons (ps_for PassesOwn.never rfl (pi_str (pv 1)) (pg_name (i := 3) Tx.sc_rank.nd rfl (Or.inl rfl))
  (pss_one (ps_set (i := 2) Tx.sc_rank.nd rfl (Or.inl rfl) (pe_op op_add (pe_op op_add (pe_op op_mul (pv 2) (pe_callB call_len_str (by rfl) m_len PySem.boot_len (pa_cons (pv 0) pa_nil))) (pe_bm PySem.F.plainAttrs_str PySem.F.slot_str_index PySem.F.type_str_index mt_sindex (pv 0) (pa_cons (pv 3) pa_nil))) pe_int))))
  (pss_one (ps_ret (pv 2))))))), ?_⟩
  refine q_dropCall (by walk_at "val") ⟨lt, rfl, hg, ?_⟩
  refine q_dropCall (by walk_at "val") ⟨lt, w, rfl, ho, by omega, fun H1 s1 => ?_⟩
  walk_at "set"
  refine q_forS (l := w) (by walk_at "val") (fun i σ H' => ∃ v, σ = [some (sV lt), some (sV w), some (.int (rankF lt (w.take i))), v] ∧ H' = H1) ⟨none, rfl, rfl⟩ ?_ ?_
  · rintro i c σ H' hc ⟨v, rfl, rfl⟩
    have hcl := ho c (List.mem_of_getElem? hc)
    refine st_set (v := .int (rankF lt (w.take i) * (lt.length : Int) + (lt.idxOf c : Int) + 1)) ?_ ?_
    · refine val_I0 (val_I0 (val_I (val_var rfl) (val_lenS (val_var rfl) (by omega)) (.inr ⟨by omega, by omega⟩)) (val_index (val_var rfl) (val_var rfl) hcl)) val_c
    · refine ⟨some (sV [c]), ?_, rfl⟩
      rw [rankF_succ hc]
      rfl
  · rintro σ H' ⟨v, rfl, rfl⟩
    rw [List.take_length]
    walk_at "ret"
    exact k _ s1
theorem ok_word_at {P : Program} {w : World} {K : PySem.W.Frag} {mg : Str → Option Value} {base : Heap} {f : Addr} {fd : FuncData} (D0 : Tx.F_word_at K f fd) (hm0 : mg "word_at" = some (.ref f))
    (C_check_letters : Cal P w K mg base CX0 1 "check_letters" ["letters"] sp_check_letters) (m_divmod : mg "divmod" = none) (m_len : mg "len" = none) : Cal P w K mg base CX0 2 "word_at" ["letters", "number"] sp_word_at := by
  refine ⟨f, fd, hm0, ?_, D0.kp, FunD.bindsN D0 fun _ _ _ _ _ _ us hl => match us, hl with | [_, _], _ => rfl⟩
  refine FunD.ok (k := 1) D0 Tx.sc_word_at (fun vs H Q E h => len_sp_word_at h) (fun cdv A outer s0 H vs Q E hr h => ?_)
  have hsz : sizeLine = 16777216 := rfl
  obtain ⟨lt, w, rfl, hg, ho, hl, k⟩ := h
  have g1 := hg.pos
  have g2 := hg.few
  refine ⟨_, PSs.nox (pss_cons (ps_expr (pe_cal C_check_letters hr pass0 (pa_cons (pv 0) pa_nil)))
  (pss_cons (ps_set (i := 2) Tx.sc_word_at.nd rfl (Or.inl rfl) pe_str)
  (pss_cons (ps_while PassesOwn.never (pt_cmpR op_gt (pv 1) pe_int (nomark _))
  (pss_cons (ps_asg (pe_callB call_divmod (by rfl) m_divmod (by decide +kernel) (pa_cons (pe_op op_sub (pv 1) pe_int) (pa_cons (pe_callB call_len_str (by rfl) m_len PySem.boot_len (pa_cons (pv 0) pa_nil)) pa_nil))) (pg_tup rfl (pgs_cons (pg_name (i := 1) Tx.sc_word_at.nd rfl (Or.inl rfl)) (pgs_cons (pg_name (i := 3) Tx.sc_word_at.nd rfl (Or.inl rfl)) pgs_nil))))
  (pss_one (ps_set (i := 2) Tx.sc_word_at.nd rfl (Or.inl rfl) (pe_op op_add_str (pe_ix ix_str (pv 0) (pv 3) (fun _ _ => rfl)) (pv 2))))))
  (pss_one (ps_ret (pv 2)))))), ?_⟩
  refine q_dropCall (by walk_at "val") ⟨lt, rfl, hg, ?_⟩
  walk_at "set"
  refine q_while (fun m σ H' => ∃ v3, σ = [some (sV lt), some (.int (rankF lt (w.take m))), some (sV (w.drop m)), v3] ∧ Same H H' ∧ m ≤ w.length) w.length ⟨none, by rw [List.take_length, List.drop_length]; rfl, Same.refl H, Nat.le_refl _⟩ ?_
  rintro m σ H1 ⟨v3, rfl, hs, hm⟩
  cases m with
  | zero =>
    refine .inl ⟨?_, ?_⟩
    · exact ans_to (by walk_at "val") (by rw [List.take_zero]; rfl)
    · walk_at "ret"
      rw [List.drop_zero]
      exact k _ hs
  | succ m =>
    obtain ⟨c, hc⟩ : ∃ c, w[m]? = some c := ⟨_, List.getElem?_eq_getElem (by omega)⟩
    have hcl := ho c (List.mem_of_getElem? hc)
    have hix : lt.idxOf c < lt.length := List.idxOf_lt_length_iff.mpr hcl
    have hr := rankF_succ (lt := lt) hc
    have hnn : 0 ≤ rankF lt (w.take m) := rankF_nn _ _
    have hmul : 0 ≤ rankF lt (w.take m) * (lt.length : Int) := Int.mul_nonneg hnn (by omega)
    have ed : (rankF lt (w.take (m + 1)) - 1) / (lt.length : Int) = rankF lt (w.take m) := by
      rw [hr]
      rw [show rankF lt (w.take m) * (lt.length : Int) + (lt.idxOf c : Int) + 1 - 1 = (lt.idxOf c : Int) + rankF lt (w.take m) * (lt.length : Int) by omega, Int.add_mul_ediv_right _ _ (by omega), Int.ediv_eq_zero_of_lt (by omega) (by omega)]
      omega
    have em : (rankF lt (w.take (m + 1)) - 1) % (lt.length : Int) = (lt.idxOf c : Int) := by
      rw [hr]
      rw [show rankF lt (w.take m) * (lt.length : Int) + (lt.idxOf c : Int) + 1 - 1 = (lt.idxOf c : Int) + rankF lt (w.take m) * (lt.length : Int) by omega, Int.add_mul_emod_self_right, Int.emod_eq_of_lt (by omega) (by omega)]
    refine .inr ⟨m, Nat.lt_succ_self m, ?_, ?_⟩
    · exact ans_to (by walk_at "val") (decide_eq_true (by omega))
    refine q_divmod (by walk_at "val") ⟨by omega, by omega⟩ fun p hp => ?_
    rw [ed, em]
    have e2 : w.drop m = c :: w.drop (m + 1) := by
      obtain ⟨h1, h2⟩ := List.getElem?_eq_some_iff.mp hc
      rw [List.drop_eq_getElem_cons h1, h2]
    refine st_set (v := sV ([c] ++ w.drop (m + 1))) (val_addS (val_ixS (val_var rfl) (val_var rfl) (by omega) (atI_nat (idx_get hcl))) (val_var rfl) (by simp only [List.length_drop, List.length_singleton]; omega)) ?_
    exact ⟨some (.int (lt.idxOf c : Int)), by rw [e2]; rfl, hs.trans (Same.litter hp), by omega⟩
theorem ok_law_pick {P : Program} {w : World} {K : PySem.W.Frag} {mg : Str → Option Value} {base : Heap} {f : Addr} {fd : FuncData} (D0 : Tx.F_law_pick K f fd) (hm0 : mg "_law_pick" = some (.ref f))
    (C_law_next : Cal P w K mg base CX0 1 "_law_next" ["state", "many"] sp_law_next) (m_len : mg "len" = none) : Cal P w K mg base CX0 2 "_law_pick" ["state", "row"] sp_law_pick := by
  refine ⟨f, fd, hm0, ?_, D0.kp, FunD.bindsN D0 fun _ _ _ _ _ _ us hl => match us, hl with | [_, _], _ => rfl⟩
  refine FunD.ok (k := 1) D0 Tx.sc_law_pick (fun vs H Q E h => len_sp_law_pick h) (fun cdv A outer s0 H vs Q E hr h => ?_)
  have hsz : sizeLine = 16777216 := rfl
  obtain ⟨G, L, s, a, xs, rfl, hA, ha, h0, h1, k⟩ := h
  have ha0 := ha H hA
  refine ⟨_, PSs.nox (pss_one (ps_ret (pe_ix ix_list (pv 1) (pe_cal C_law_next hr pass0 (pa_cons (pv 0) (pa_cons (pe_callB call_len_seq (by rfl) m_len PySem.boot_len (pa_cons (pv 1) pa_nil)) pa_nil))) (fun _ _ => rfl)))), ?_⟩
  refine op_l (val_var rfl) (next_ (n := (xs.length : Int)) (by walk_at "val") hA (by omega) (by omega) fun H' j hA' j0 j1 => ?_)
  obtain ⟨x, hx⟩ : ∃ x, xs[j.toNat]? = some x := ⟨_, List.getElem?_eq_getElem (by omega)⟩
  exact ⟨a, xs, j, x, rfl, rfl, SqL.of (ha H' hA'), at_of (j := j.toNat) (by omega) hx, k _ _ hA' (List.mem_of_getElem? hx)⟩
theorem ok_law_integer {P : Program} {w : World} {K : PySem.W.Frag} {mg : Str → Option Value} {base : Heap} {f : Addr} {fd : FuncData} (D0 : Tx.F_law_integer K f fd) (hm0 : mg "_law_integer" = some (.ref f))
    (m_bool : mg "bool" = none) (m_int : mg "int" = none) (m_isinstance : mg "isinstance" = none) : Cal P w K mg base CX0 1 "_law_integer" ["actual"] sp_law_integer := by
  refine ⟨f, fd, hm0, ?_, D0.kp, FunD.bindsN D0 fun _ _ _ _ _ _ us hl => match us, hl with | [_], _ => rfl⟩
  refine FunD.ok (k := 0) D0 Tx.sc_law_integer (fun vs H Q E h => len_sp_law_integer h) (fun cdv A outer s0 H vs Q E hr h => ?_)
  have hsz : sizeLine = 16777216 := rfl
  obtain ⟨i, rfl, k⟩ := h
  refine ⟨_, PSs.nox (pss_one (ps_ret (pe_and (pe_callB call_isi (by rfl) m_isinstance (by decide +kernel) (pa_cons (pv 0) (pa_cons (pe_bltn (v := .ty "int") (by rfl) m_int (by decide +kernel) rfl) pa_nil))) (pe_one (pe_not (pe_callB call_isi (by rfl) m_isinstance (by decide +kernel) (pa_cons (pv 0) (pa_cons (pe_bltn (v := .ty "bool") (by rfl) m_bool (by decide +kernel) rfl) pa_nil)))))))), ?_⟩
  walk_at "ret"
  exact k
theorem ok_law_same_text {P : Program} {w : World} {K : PySem.W.Frag} {mg : Str → Option Value} {base : Heap} {f : Addr} {fd : FuncData} (D0 : Tx.F_law_same_text K f fd) (hm0 : mg "_law_same_text" = some (.ref f))
    (m_isinstance : mg "isinstance" = none) (m_str : mg "str" = none) : Cal P w K mg base CX0 1 "_law_same_text" ["actual", "due"] sp_law_same_text := by
  refine ⟨f, fd, hm0, ?_, D0.kp, FunD.bindsN D0 fun _ _ _ _ _ _ us hl => match us, hl with | [_, _], _ => rfl⟩
  refine FunD.ok (k := 0) D0 Tx.sc_law_same_text (fun vs H Q E h => len_sp_law_same_text h) (fun cdv A outer s0 H vs Q E hr h => ?_)
  have hsz : sizeLine = 16777216 := rfl
  obtain ⟨w, rfl, k⟩ := h
  refine ⟨_, PSs.nox (pss_cons (ps_if (pt_cmpR op_isN (pv 1) pe_non (nomark _))
  (pss_one (ps_ret (pe_cmpR op_isN (pv 0) pe_non (nomark _))))
  pss_nil)
  (pss_one (ps_ret (pe_and (pe_callB call_isi (by rfl) m_isinstance (by decide +kernel) (pa_cons (pv 0) (pa_cons (pe_bltn (v := .ty "str") (by rfl) m_str (by decide +kernel) rfl) pa_nil))) (pe_one (pe_cmpR op_eq (pv 0) (pv 1) (nomark _))))))), ?_⟩
  walk_at "if"
  · rename_i h
    exfalso
    simp at h
  · walk_at "ret"
    simpa using k
theorem ok_law_in_order {P : Program} {w : World} {K : PySem.W.Frag} {mg : Str → Option Value} {base : Heap} {f : Addr} {fd : FuncData} (D0 : Tx.F_law_in_order K f fd) (hm0 : mg "_law_in_order" = some (.ref f))
    (m_len : mg "len" = none) (m_sorted : mg "sorted" = none) : Cal P w K mg base CX0 1 "_law_in_order" ["words"] sp_law_in_order := by
  refine ⟨f, fd, hm0, ?_, D0.kp, FunD.bindsN D0 fun _ _ _ _ _ _ us hl => match us, hl with | [_], _ => rfl⟩
  refine FunD.ok (k := 0) D0 Tx.sc_law_in_order (fun vs H Q E h => len_sp_law_in_order h) (fun cdv A outer s0 H vs Q E hr h => ?_)
  have hsz : sizeLine = 16777216 := rfl
  obtain ⟨G, L, a, ws, rfl, hA, hz, hw, k⟩ := h
  refine ⟨_, PSs.nox (pss_cons (ps_set (i := 1) Tx.sc_law_in_order.nd rfl (Or.inl rfl) (pe_lst pa_nil))
  (pss_cons (ps_for PassesOwn.never rfl (pi_list (pe_callB (cr_sortedData (hr.mono (Nat.zero_le _))) (by rfl) m_sorted (by decide +kernel) (pa_cons (pe_lc (own := [("word", 3)]) rfl Tx.sc_law_in_order.nd (pi_list (pv 0)) (blkOk_by (own := [("word", 3)]) (N := Tx.N_law_in_order) (sc := defScope Tx.s_law_in_order) (by decide +kernel)) (fun _ _ _ _ _ => (pg_name (i := 3) Tx.sc_law_in_order.nd rfl (Or.inl rfl))) (fun _ _ _ _ _ => pts_nil) (fun _ _ _ _ _ => (pe_tup (pa_cons (pe_callB call_len_str (by rfl) m_len PySem.boot_len (pa_cons (pv 3) pa_nil)) (pa_cons (pv 3) pa_nil))))) pa_nil))) (pg_name (i := 2) Tx.sc_law_in_order.nd rfl (Or.inl rfl))
  (pss_one (ps_if (PW.pt (pw_or (pt_cmpR op_eq (pe_callB call_len_seq (by rfl) m_len PySem.boot_len (pa_cons (pv 1) pa_nil)) pe_int (nomark _)) (pw_or1 (pt_cmpR op_ne (pe_ix ix_list (pv 1) (pe_un un_neg pe_int) (fun _ _ => rfl)) (pe_ix ix_tup (pv 2) pe_int (fun _ _ => rfl)) (nomark _)))))
  (pss_one (ps_expr (pe_bm PySem.F.plainAttrs_list PySem.F.slot_list_append PySem.F.type_list_append mt_append (pv 1) (pa_cons (pe_ix ix_tup (pv 2) pe_int (fun _ _ => rfl)) pa_nil))))
  pss_nil)))
  (pss_one (ps_ret (pv 1))))), ?_⟩
  refine q_as (new_lst (by walk_at "val") (by decide) fun p hp => ?_)
  have hA1 := hA.ownL (p := p) (o := .lst []) hp
  refine q_forLx (cb_ (acons_ ?_))
  refine lcLn (K := K) (xs := ws.map sV) (by walk_at "val") (SqL.of hA1.is2) (fun D i H => ∃ zs : List (Addr × List Nat), zs.map Prod.snd = ws.take i ∧ At G H ((D, oIs (.lst (zs.map fun z : Addr × List Nat => V.ref z.1))) :: (p, oIs (.lst [])) :: (a, oIs (.lst (ws.map sV))) :: L) ∧ ∀ z ∈ zs, H z.1 = some (.tup [.int (z.2.length : Nat), sV z.2])) ?_ ?_ ?_ ?_
  · intro D hD
    exact ⟨[], rfl, hA1.ownL hD, fun z hz => by cases hz⟩
  · rintro D i H ⟨zs, _, h, _⟩
    exact SqL.of h.is3
  · rintro D i x H hx ⟨zs, hzs, hA, ht⟩
    obtain ⟨w, hwi, rfl⟩ := map_get hx
    have hwl := hw w (List.mem_of_getElem? hwi)
    have hzl : zs.length ≤ ws.length := by rw [← List.length_map (f := Prod.snd), hzs]; exact List.length_take_le' ..
    refine ⟨rfl, new_tup (by walk_at "val") (by show 2 ≤ sizeLine; decide) fun T hT => ?_⟩
    have hA2 := hA.litter (o := .tup [.int (w.length : Nat), sV w]) hT
    refine ⟨_, hA2.is, by rw [List.length_map]; omega, zs ++ [(T, w)], ?_, ?_, fun z hz => ?_⟩
    · rw [List.map_append, hzs, take_snoc hwi]; rfl
    · rw [List.map_append]; exact hA2.set rfl
    · rcases List.mem_append.mp hz with hz | hz
      · exact tup_keep (tup_keep0 (ht z hz) hT) hA2.is fun _ e => by cases e
      · rw [List.mem_singleton.mp hz]
        exact tup_keep upd_same hA2.is fun _ e => by cases e
  rintro D H1 ⟨zs, hzs, hA, ht⟩
  rw [List.length_map, List.take_length] at hzs
  refine anil_ ⟨D, zs, rfl, SqL.of hA.is, fun z hz => SqT.of (ht z hz), fun ys q hp1 hp2 hq => ?_⟩
  have hA2 := hA.ownL (p := q) (o := .lst (ys.map fun z : Addr × List Nat => V.ref z.1)) hq
  have hA3 := hA2.drop2
  have ht2 : ∀ z ∈ ys, upd H1 q (.lst (ys.map fun z : Addr × List Nat => V.ref z.1)) z.1 = some (.tup [.int (z.2.length : Nat), sV z.2]) := fun z hz => tup_keep0 (ht z (hp1.mem_iff.mp hz)) hq
  have hys : (ys.map Prod.snd).Pairwise wle := List.pairwise_map.mpr hp2
  have hyl : ys.length = ws.length := by rw [hp1.length_eq, ← List.length_map (f := Prod.snd), hzs]
  refine ⟨q, rfl, ⟨_, SqL.of hA3.is⟩, forK_L (xs := ys.map fun z : Addr × List Nat => V.ref z.1) (fun j σ H => ∃ v2, σ = [some (.ref a), some (.ref p), v2, none] ∧ At G H ((q, oIs (.lst (ys.map fun z : Addr × List Nat => V.ref z.1))) :: (p, oIs (.lst ((dd ((ys.take j).map Prod.snd)).map sV))) :: (a, oIs (.lst (ws.map sV))) :: L) ∧ ∀ z ∈ ys, H z.1 = some (.tup [.int (z.2.length : Nat), sV z.2]))
    ⟨_, rfl, hA3, ht2⟩ (fun j σ H ⟨_, _, h, _⟩ => SqL.of h.is) ?_ ?_⟩
  · rintro j x σ H hx ⟨v2, rfl, hA, ht⟩
    obtain ⟨z, hz, rfl⟩ := map_get hx
    have hzt := ht z (List.mem_of_getElem? hz)
    have hpre : ((ys.take j).map Prod.snd).Pairwise wle := hys.sublist ((List.take_sublist j ys).map _)
    have hdl := dd_len _ hpre
    rw [List.length_map] at hdl
    have htl : (ys.take j).length ≤ ys.length := List.length_take_le' ..
    have e2 : (ys.take (j + 1)).map Prod.snd = (ys.take j).map Prod.snd ++ [z.2] := by rw [take_snoc hz, List.map_append]; rfl
    have hk1 : Val (tOp (rIxT K) (tVar 2) (tC (.int 1))) [some (.ref a), some (.ref p), some (.ref z.1), none] H (sV z.2) := val_ixT (val_var rfl) val_c (SqT.of hzt) rfl
    refine st_when (b := !decide ((dd ((ys.take j).map Prod.snd)).getLast? = some z.2)) ?_ (fun h => ?_) (fun h => ?_)
    · refine ans_to (ans_orr (c := !decide ((dd ((ys.take j).map Prod.snd)).getLast? = some z.2)) (ans_B (val_eq (val_lenL (val_var rfl) (SqL.of hA.is2)) val_c rfl)) fun hb => ?_) ?_
      · obtain ⟨u, hu⟩ : ∃ u, (dd ((ys.take j).map Prod.snd)).getLast? = some u := by
          cases e : (dd ((ys.take j).map Prod.snd)).getLast? with
          | some u => exact ⟨u, rfl⟩
          | none =>
            rw [List.getLast?_eq_none_iff.mp e] at hb
            simp at hb
        refine ans_B (val_to (val_ne (val_ixL (v := sV u) (val_var rfl) (by walk_at "val") (SqL.of hA.is2) (atI_last (by rw [List.getLast?_map, hu]; rfl))) hk1 rfl) ?_)
        rw [hu]
        congr 2
        rw [decide_eq_decide]
        constructor
        · intro e; injection e with e; rw [S_inj.mp e]
        · intro e; injection e with e; rw [e]
      · cases e : (dd ((ys.take j).map Prod.snd)) with
        | nil => rfl
        | cons u r => 
          simp
          intro h0
          exfalso
          omega
    · have h2 : ¬ (dd ((ys.take j).map Prod.snd)).getLast? = some z.2 := by simpa using h
      refine st_app (val_var rfl) hk1 hA.is2 (by rw [List.length_map]; omega) ?_
      refine ⟨_, rfl, ?_, fun y hy => tup_keep (ht y hy) hA.is2 fun _ e => by cases e⟩
      rw [e2, dd_snoc]
      unfold dd1
      rw [if_neg h2, List.map_append]
      exact (hA.swap.set rfl).swap
    · have h2 : (dd ((ys.take j).map Prod.snd)).getLast? = some z.2 := by simpa using h
      refine ⟨_, rfl, ?_, ht⟩
      rw [e2, dd_snoc]
      unfold dd1
      rw [if_pos h2]
      exact hA
  · rintro σ H ⟨v2, rfl, hA, ht⟩
    rw [List.length_map, List.take_length] at hA
    walk_at "ret"
    obtain ⟨h1, h2, h3, _⟩ := dd_ok _ _ rfl hys
    refine k _ _ _ hA.tail ⟨h1, h2, fun w => (h3 w).trans ?_⟩
    rw [((hp1.map Prod.snd).mem_iff), hzs]
theorem ok_law_rank_due {P : Program} {w : World} {K : PySem.W.Frag} {mg : Str → Option Value} {base : Heap} {f : Addr} {fd : FuncData} (D0 : Tx.F_law_rank_due K f fd) (hm0 : mg "_law_rank_due" = some (.ref f))
    (m_len : mg "len" = none) : Cal P w K mg base CX0 1 "_law_rank_due" ["letters", "word"] sp_law_rank_due := by
  refine ⟨f, fd, hm0, ?_, D0.kp, FunD.bindsN D0 fun _ _ _ _ _ _ us hl => match us, hl with | [_, _], _ => rfl⟩
  refine FunD.ok (k := 0) D0 Tx.sc_law_rank_due (fun vs H Q E h => len_sp_law_rank_due h) (fun cdv A outer s0 H vs Q E hr h => ?_)
  have hsz : sizeLine = 16777216 := rfl
  obtain ⟨lt, w, rfl, hg, ho, hl, k⟩ := h
  have g2 := hg.few
  refine ⟨_, PSs.nox (pss_cons (ps_set (i := 2) Tx.sc_law_rank_due.nd rfl (Or.inl rfl) pe_int)
  (pss_cons (ps_set (i := 3) Tx.sc_law_rank_due.nd rfl (Or.inl rfl) pe_int)
  (pss_cons (ps_set (i := 4) Tx.sc_law_rank_due.nd rfl (Or.inl rfl) pe_int)
  (pss_cons (ps_for PassesOwn.never rfl (pi_str (pv 1)) (pg_name (i := 5) Tx.sc_law_rank_due.nd rfl (Or.inl rfl))
  (pss_cons (ps_set (i := 2) Tx.sc_law_rank_due.nd rfl (Or.inl rfl) (pe_op op_add (pv 2) (pv 3)))
  (pss_cons (ps_set (i := 3) Tx.sc_law_rank_due.nd rfl (Or.inl rfl) (pe_op op_mul (pv 3) (pe_callB call_len_str (by rfl) m_len PySem.boot_len (pa_cons (pv 0) pa_nil))))
  (pss_one (ps_set (i := 4) Tx.sc_law_rank_due.nd rfl (Or.inl rfl) (pe_op op_add (pe_op op_mul (pv 4) (pe_callB call_len_str (by rfl) m_len PySem.boot_len (pa_cons (pv 0) pa_nil))) (pe_bm PySem.F.plainAttrs_str PySem.F.slot_str_index PySem.F.type_str_index mt_sindex (pv 0) (pa_cons (pv 5) pa_nil))))))))
  (pss_one (ps_ret (pe_op op_add (pv 2) (pv 4)))))))), ?_⟩
  walk_at "set"
  walk_at "set"
  walk_at "set"
  refine q_forS (l := w) (by walk_at "val") (fun i σ H' => ∃ v, σ = [some (sV lt), some (sV w), some (.int (rankB lt i)), some (.int (rankP lt i)), some (.int (rankN lt (w.take i))), v] ∧ H' = H) ⟨none, rfl, rfl⟩ ?_ ?_
  · rintro i c σ H' hc ⟨v, rfl, rfl⟩
    have hcl := ho c (List.mem_of_getElem? hc)
    walk_at "set"
    walk_at "set"
    refine st_set (v := .int (rankN lt (w.take i) * (lt.length : Int) + (lt.idxOf c : Int))) ?_ ?_
    · refine val_I0 (val_I (val_var rfl) (val_lenS (val_var rfl) (by omega)) (.inr ⟨by omega, by omega⟩)) (val_index (val_var rfl) (val_var rfl) hcl)
    · refine ⟨some (sV [c]), ?_, rfl⟩
      rw [rankN_succ hc, rankB_succ, rankP_succ]
      rfl
  · rintro σ H' ⟨v, rfl, rfl⟩
    refine st_ret1 (v := .int (rankB lt w.length + rankN lt (w.take w.length))) (by walk_at "val") ?_
    rw [List.take_length, rank_split]
    exact k
theorem ok_law_word_due {P : Program} {w : World} {K : PySem.W.Frag} {mg : Str → Option Value} {base : Heap} {f : Addr} {fd : FuncData} (D0 : Tx.F_law_word_due K f fd) (hm0 : mg "_law_word_due" = some (.ref f))
    (m_int : mg "int" = none) (m_len : mg "len" = none) (m_range : mg "range" = none) : Cal P w K mg base CX0 1 "_law_word_due" ["letters", "number"] sp_law_word_due := by
  refine ⟨f, fd, hm0, ?_, D0.kp, FunD.bindsN D0 fun _ _ _ _ _ _ us hl => match us, hl with | [_, _], _ => rfl⟩
  refine FunD.ok (k := 0) D0 Tx.sc_law_word_due (fun vs H Q E h => len_sp_law_word_due h) (fun cdv A outer s0 H vs Q E hr h => ?_)
  have hsz : sizeLine = 16777216 := rfl
  obtain ⟨lt, w, rfl, hg, ho, hl, k⟩ := h
  have g1 := hg.pos
  have g2 := hg.few
  have hsp := rank_split (lt := lt) w
  have hN := rankN_lt g1 ho w.length (Nat.le_refl _)
  rw [List.take_length] at hN
  refine ⟨_, PSs.nox (pss_cons (ps_set (i := 2) Tx.sc_law_word_due.nd rfl (Or.inl rfl) (pe_callB call_len_str (by rfl) m_len PySem.boot_len (pa_cons (pv 0) pa_nil)))
  (pss_cons (ps_set (i := 3) Tx.sc_law_word_due.nd rfl (Or.inl rfl) pe_int)
  (pss_cons (ps_set (i := 4) Tx.sc_law_word_due.nd rfl (Or.inl rfl) pe_int)
  (pss_cons (ps_for PassesOwn.never rfl (pi_range1 (by rfl) m_range (pa_cons pe_int pa_nil)) (pg_name (i := 5) Tx.sc_law_word_due.nd rfl (Or.inl rfl))
  (pss_cons (ps_if (pt_cmpR op_lt (pv 1) (pv 3) (nomark _))
  (pss_one ps_break)
  pss_nil)
  (pss_cons (ps_set (i := 1) Tx.sc_law_word_due.nd rfl (Or.inl rfl) (pe_op op_sub (pv 1) (pv 3)))
  (pss_cons (ps_set (i := 3) Tx.sc_law_word_due.nd rfl (Or.inl rfl) (pe_op op_mul (pv 3) (pv 2)))
  (pss_one (ps_set (i := 4) Tx.sc_law_word_due.nd rfl (Or.inl rfl) (pe_op op_add (pv 4) pe_int)))))))
  (pss_cons (ps_set (i := 6) Tx.sc_law_word_due.nd rfl (Or.inl rfl) pe_str)
  (pss_cons (ps_for PassesOwn.never rfl (pi_range1 (by rfl) m_range (pa_cons (pv 4) pa_nil)) (pg_name (i := 5) Tx.sc_law_word_due.nd rfl (Or.inl rfl))
  (pss_cons (ps_set (i := 6) Tx.sc_law_word_due.nd rfl (Or.inl rfl) (pe_op op_add_str (pe_ix ix_str (pv 0) (pe_op op_mod (pe_callTy call_int1 (by rfl) m_int (by decide +kernel) (pa_cons (pv 1) pa_nil)) (pv 2)) (fun _ _ => rfl)) (pv 6)))
  (pss_one (ps_set (i := 1) Tx.sc_law_word_due.nd rfl (Or.inl rfl) (pe_op op_fdiv (pv 1) (pv 2))))))
  (pss_one (ps_ret (pv 6))))))))), ?_⟩
  refine q_set (v := .int (lt.length : Nat)) (by walk_at "val") ?_
  walk_at "set"
  walk_at "set"
  refine q_forR (n := 201) (by walk_at "val") ⟨by omega, by omega⟩ (fun i σ H' => ∃ v5, σ = [some (sV lt), some (.int (rankB lt w.length - rankB lt i + rankN lt w)), some (.int (lt.length : Nat)), some (.int (rankP lt i)), some (.int (i : Nat)), v5, none] ∧ H' = H ∧ i ≤ w.length)
    ⟨none, by rw [← hsp, show rankB lt 0 = 0 from rfl, Int.sub_zero]; rfl, rfl, Nat.zero_le _⟩ ?_ ?_
  · rintro i σ H' hi ⟨v5, rfl, rfl, him⟩
    walk_at "if"
    · rename_i h
      have hge : w.length = i := by
        apply Decidable.byContradiction
        intro hne
        have h1 := rankB_le g1 (i := i + 1) (j := w.length) (by omega)
        rw [rankB_succ] at h1
        simp at h
        omega
      subst hge
      refine brk_ ?_
      dsimp only
      walk_at "set"
      refine q_forR (n := w.length) (by walk_at "val") ⟨by omega, by omega⟩ (fun i σ H2 => ∃ v5, σ = [some (sV lt), some (.int (rankN lt (w.take (w.length - i)))), some (.int (lt.length : Nat)), some (.int (rankP lt w.length)), some (.int (w.length : Nat)), v5, some (sV (w.drop (w.length - i)))] ∧ H2 = H')
        ⟨some (.int (w.length : Nat)), by rw [Nat.sub_zero, List.take_length, List.drop_length, Int.sub_self, Int.zero_add]; rfl, rfl⟩ ?_ ?_
      · rintro i σ H' hi ⟨v5, rfl, rfl⟩
        obtain ⟨m, hm⟩ : ∃ m, w.length - i = m + 1 := ⟨w.length - i - 1, by omega⟩
        have hm2 : w.length - (i + 1) = m := by omega
        rw [hm]
        obtain ⟨c, hc⟩ : ∃ c, w[m]? = some c := ⟨_, List.getElem?_eq_getElem (by omega)⟩
        have hcl := ho c (List.mem_of_getElem? hc)
        have hix : lt.idxOf c < lt.length := List.idxOf_lt_length_iff.mpr hcl
        have hr := rankN_succ (lt := lt) hc
        have hnn := (rankN_lt g1 ho m (by omega)).1
        have hmul : 0 ≤ rankN lt (w.take m) * (lt.length : Int) := Int.mul_nonneg hnn (by omega)
        have ed : rankN lt (w.take (m + 1)) / (lt.length : Int) = rankN lt (w.take m) := by
          rw [hr, Int.add_comm, Int.add_mul_ediv_right _ _ (by omega), Int.ediv_eq_zero_of_lt (by omega) (by omega), Int.zero_add]
        have em : rankN lt (w.take (m + 1)) % (lt.length : Int) = (lt.idxOf c : Int) := by
          rw [hr, Int.add_comm, Int.add_mul_emod_self_right, Int.emod_eq_of_lt (by omega) (by omega)]
        have e2 : w.drop m = c :: w.drop (m + 1) := by
          obtain ⟨h1, h2⟩ := List.getElem?_eq_some_iff.mp hc
          rw [List.drop_eq_getElem_cons h1, h2]
        refine q_set (v := sV ([c] ++ w.drop (m + 1))) (val_addS (val_ixS (i := rankN lt (w.take (m + 1)) % (lt.length : Int)) (val_var rfl) (by walk_at "val") (by omega) (by rw [em]; exact atI_nat (idx_get hcl))) (val_var rfl) (by simp only [List.length_drop, List.length_singleton]; omega)) ?_
        refine st_set (v := .int (rankN lt (w.take (m + 1)) / (lt.length : Int))) (by walk_at "val") ?_
        exact ⟨_, by rw [ed, hm2, e2]; rfl, rfl⟩
      · rintro σ H' ⟨v5, rfl, rfl⟩
        rw [show w.length - ((w.length : Int)).toNat = 0 by omega, List.drop_zero]
        walk_at "ret"
        exact k _ (Same.refl _)
    · rename_i h
      have hlt : i < w.length := by
        apply Decidable.byContradiction
        intro hne
        have he : i = w.length := by omega
        subst he
        simp at h
        omega
      walk_at "set"
      walk_at "set"
      walk_at "set"
      refine ⟨some (.int (i : Nat)), ?_, rfl, hlt⟩
      rw [rankB_succ, rankP_succ, show rankB lt w.length - (rankB lt i + rankP lt i) + rankN lt w = rankB lt w.length - rankB lt i + rankN lt w - rankP lt i by omega]
      rfl
  · rintro σ H' ⟨v5, rfl, rfl, him⟩
    exfalso
    omega
theorem ok_law_numbers_of {P : Program} {w : World} {K : PySem.W.Frag} {mg : Str → Option Value} {base : Heap} {f : Addr} {fd : FuncData} (D0 : Tx.F_law_numbers_of K f fd) (hm0 : mg "_law_numbers_of" = some (.ref f))
    (C_law_next : Cal P w K mg base CX0 1 "_law_next" ["state", "many"] sp_law_next) (C_law_rank_due : Cal P w K mg base CX0 1 "_law_rank_due" ["letters", "word"] sp_law_rank_due) (m_int : mg "int" = none) (m_len : mg "len" = none) (m_max : mg "max" = none) (m_min : mg "min" = none) (m_range : mg "range" = none) : Cal P w K mg base CX0 2 "_law_numbers_of" ["state", "letters", "words"] sp_law_numbers_of := by
  refine ⟨f, fd, hm0, ?_, D0.kp, FunD.bindsN D0 fun _ _ _ _ _ _ us hl => match us, hl with | [_, _, _], _ => rfl⟩
  refine FunD.ok (k := 1) D0 Tx.sc_law_numbers_of (fun vs H Q E h => len_sp_law_numbers_of h) (fun cdv A outer s0 H vs Q E hr h => ?_)
  have hsz : sizeLine = 16777216 := rfl
  obtain ⟨G, L, s, a, lt, rfl, hA, hg, k⟩ := h
  have g1 := hg.pos
  have g2 := hg.few
  obtain ⟨o, ⟨u, v, rfl, hu, hv, hul, hvl⟩, hA⟩ := hA.swap.open1
  have hA := hA.swap
  have B0 : 0 < rankB lt 201 := by
    have := rankB_le g1 (i := 1) (j := 201) (by omega)
    have h1 : rankB lt 1 = 1 := by show (0 : Int) + 1 = 1; omega
    omega
  have fin : ∀ w, Over lt w → w.length ≤ 200 → 0 ≤ rankF lt w ∧ rankF lt w < rankB lt 201 := fun w h1 h2 => ⟨rankF_nn _ _, rankF_lt g1 h1 h2⟩
  have md : ∀ x : Int, 0 ≤ x % rankB lt 201 ∧ x % rankB lt 201 < rankB lt 201 := fun x => ⟨Int.emod_nonneg x (by omega), Int.emod_lt_of_pos x B0⟩
  refine ⟨_, PSs.nox (pss_cons (ps_set (i := 3) Tx.sc_law_numbers_of.nd rfl (Or.inl rfl) pe_int)
  (pss_cons (ps_set (i := 4) Tx.sc_law_numbers_of.nd rfl (Or.inl rfl) pe_int)
  (pss_cons (ps_for PassesOwn.never rfl (pi_range1 (by rfl) m_range (pa_cons pe_int pa_nil)) (pg_name (i := 5) Tx.sc_law_numbers_of.nd rfl (Or.inl rfl))
  (pss_cons (ps_set (i := 3) Tx.sc_law_numbers_of.nd rfl (Or.inl rfl) (pe_op op_add (pv 3) (pv 4)))
  (pss_one (ps_set (i := 4) Tx.sc_law_numbers_of.nd rfl (Or.inl rfl) (pe_op op_mul (pv 4) (pe_callB call_len_str (by rfl) m_len PySem.boot_len (pa_cons (pv 1) pa_nil)))))))
  (pss_cons (ps_set (i := 6) Tx.sc_law_numbers_of.nd rfl (Or.inl rfl) pe_int)
  (pss_cons (ps_for PassesOwn.never rfl (pi_range1 (by rfl) m_range (pa_cons pe_int pa_nil)) (pg_name (i := 7) Tx.sc_law_numbers_of.nd rfl (Or.inl rfl))
  (pss_one (ps_set (i := 6) Tx.sc_law_numbers_of.nd rfl (Or.inl rfl) (pe_op op_add (pe_op op_mul (pv 6) pe_int) (pe_cal C_law_next hr pass0 (pa_cons (pv 0) (pa_cons pe_int pa_nil)))))))
  (pss_cons (ps_set (i := 8) Tx.sc_law_numbers_of.nd rfl (Or.inl rfl) (pe_lst (pa_cons (pe_op op_mod (pe_callTy call_int1 (by rfl) m_int (by decide +kernel) (pa_cons (pv 6) pa_nil)) (pv 3)) (pa_cons (pe_op op_mod (pe_callTy call_int1 (by rfl) m_int (by decide +kernel) (pa_cons (pe_cal C_law_next hr pass0 (pa_cons (pv 0) (pa_cons pe_int pa_nil))) pa_nil)) (pv 3)) pa_nil))))
  (pss_cons (ps_for PassesOwn.never rfl (pi_list (pv 2)) (pg_name (i := 9) Tx.sc_law_numbers_of.nd rfl (Or.inl rfl))
  (pss_cons (ps_set (i := 10) Tx.sc_law_numbers_of.nd rfl (Or.inl rfl) (pe_cal C_law_rank_due hr pass0 (pa_cons (pv 1) (pa_cons (pv 9) pa_nil))))
  (pss_one (ps_set (i := 8) Tx.sc_law_numbers_of.nd rfl (Or.inl rfl) (pe_op op_cat (pv 8) (pe_lst (pa_cons (pe_callB (call_max2 rfl) (by rfl) m_max (by decide +kernel) (pa_cons pe_int (pa_cons (pe_op op_sub (pv 10) pe_int) pa_nil))) (pa_cons (pv 10) (pa_cons (pe_callB (call_min2 rfl) (by rfl) m_min (by decide +kernel) (pa_cons (pe_op op_add (pv 10) pe_int) (pa_cons (pe_op op_sub (pv 3) pe_int) pa_nil))) pa_nil)))))))))
  (pss_one (ps_ret (pv 8)))))))))), ?_⟩
  walk_at "set"
  walk_at "set"
  refine q_forR (n := 201) (by walk_at "val") ⟨by omega, by omega⟩ (fun i σ H' => ∃ v5, σ = [some (.ref s), some (sV lt), some (.ref a), some (.int (rankB lt i)), some (.int (rankP lt i)), v5, none, none, none, none, none] ∧ H' = H) ⟨none, rfl, rfl⟩ ?_ ?_
  · rintro i σ H' hi ⟨v5, rfl, rfl⟩
    walk_at "set"
    walk_at "set"
    exact ⟨_, by rw [rankB_succ, rankP_succ]; rfl, rfl⟩
  rintro σ H' ⟨v5, hσ, rfl⟩
  rw [show ((201 : Int)).toNat = 201 from rfl] at hσ
  obtain ⟨B, hB⟩ : ∃ B, rankB lt 201 = B := ⟨_, rfl⟩
  obtain ⟨Pw, hP⟩ : ∃ Pw, rankP lt 201 = Pw := ⟨_, rfl⟩
  rw [hB, hP] at hσ
  rw [hB] at B0 fin md k
  subst hσ
  walk_at "set"
  refine q_forR (n := 14) (by walk_at "val") ⟨by omega, by omega⟩ (fun i σ H => ∃ (z : Int) (v7 : Option V), σ = [some (.ref s), some (sV lt), some (.ref a), some (.int (B)), some (.int (Pw)), v5, some (.int z), v7, none, none, none] ∧ At G H ((s, oSt) :: (a, oIs (.lst [sV u, sV v])) :: L)) ⟨0, none, rfl, hA⟩ ?_ ?_
  · rintro i σ H hi ⟨z, v7, rfl, hA⟩
    refine st_as (op_l (val_I (val_var rfl) val_c (.inr ⟨by omega, by omega⟩)) (next_ (by walk_at "val") hA (by omega) (by omega) fun H1 j hA1 j0 j1 => ?_))
    exact ⟨_, _, rfl, rfl, _, _, rfl, hA1⟩
  rintro σ H ⟨z, v7, rfl, hA⟩
  refine q_as (lst_ (acons_ (go (v := .int (z % B)) (by walk_at "val") ?_)))
  refine acons_ (op_ (cb_ (acons_ (next_ (by walk_at "val") hA (by omega) (by omega) fun H1 j hA1 j0 j1 => anil_ (.inl ⟨j, rfl, ?_⟩)))))
  refine var_ rfl ⟨_, _, rfl, rfl, B0, anil_ ⟨by show 2 ≤ sizeLine; decide, fun p hp => ?_⟩⟩
  have hA2 := hA1.ownL (p := p) (o := .lst [.int (z % B), .int (j % B)]) hp
  refine q_forL (K := K) (xs := [sV u, sV v]) (by walk_at "val") (SqL.of hA2.is3) (fun i σ H => ∃ (p : Addr) (ns : List Int) (v9 : Option V) (v10 : Option V), σ = [some (.ref s), some (sV lt), some (.ref a), some (.int (B)), some (.int (Pw)), v5, some (.int z), v7, some (.ref p), v9, v10] ∧ At G H ((p, oIs (.lst (ns.map V.int))) :: (s, oSt) :: (a, oIs (.lst [sV u, sV v])) :: L) ∧ (∀ n ∈ ns, 0 ≤ n ∧ n < B) ∧ ns.length ≤ 2 + 3 * i)
    ⟨p, [z % B, j % B], none, none, rfl, hA2, ?_, by simp⟩ (fun i σ H ⟨_, _, _, _, _, h, _⟩ => SqL.of h.is3) ?_ ?_
  · intro n hn
    rcases List.mem_cons.mp hn with rfl | hn
    · exact md _
    · rw [List.mem_singleton.mp hn]; exact md _
  · rintro i x σ H hx ⟨p, ns, v9, v10, rfl, hA, hns, hnl⟩
    have hi : i < 2 := (List.getElem?_eq_some_iff.mp hx).1
    obtain ⟨w, rfl, hw, hwl⟩ : ∃ w, x = sV w ∧ Over lt w ∧ w.length ≤ 200 := by
      rcases (by omega : i = 0 ∨ i = 1) with rfl | rfl
      · exact ⟨u, (Option.some.inj hx).symm, hu, hul⟩
      · exact ⟨v, (Option.some.inj hx).symm, hv, hvl⟩
    obtain ⟨f1, f2⟩ := fin w hw hwl
    refine q_call (by walk_at "val") ⟨lt, w, rfl, hg, hw, by omega, ?_⟩
    refine st_as (op_ (var_ rfl (new_lst (vs := [.int (if rankF lt w - 1 > 0 then rankF lt w - 1 else 0), .int (rankF lt w), .int (if B - 1 < rankF lt w + 1 then B - 1 else rankF lt w + 1)]) (by walk_at "val") (by show 3 ≤ sizeLine; decide) fun q hq => ?_)))
    have hA3 := hA.ownL (p := q) (o := .lst [.int (if rankF lt w - 1 > 0 then rankF lt w - 1 else 0), .int (rankF lt w), .int (if B - 1 < rankF lt w + 1 then B - 1 else rankF lt w + 1)]) hq
    refine ⟨p, q, _, _, rfl, rfl, hA3.is2, hA3.is, by rw [List.length_map]; show ns.length + 3 ≤ sizeLine; omega, fun y hy => ?_⟩
    have hA4 := (hA3.ownL (p := y) (o := .lst (ns.map V.int ++ [.int (if rankF lt w - 1 > 0 then rankF lt w - 1 else 0), .int (rankF lt w), .int (if B - 1 < rankF lt w + 1 then B - 1 else rankF lt w + 1)])) hy).drop2.drop2
    refine ⟨y, ns ++ [(if rankF lt w - 1 > 0 then rankF lt w - 1 else 0), rankF lt w, (if B - 1 < rankF lt w + 1 then B - 1 else rankF lt w + 1)], _, _, rfl, by rw [List.map_append]; exact hA4, fun n hn => ?_, by rw [List.length_append]; show ns.length + 3 ≤ _; omega⟩
    rcases List.mem_append.mp hn with hn | hn
    · exact hns n hn
    · rcases List.mem_cons.mp hn with rfl | hn
      · split <;> omega
      rcases List.mem_cons.mp hn with rfl | hn
      · exact ⟨f1, f2⟩
      · rw [List.mem_singleton.mp hn]
        split <;> omega
  · rintro σ H ⟨p, ns, v9, v10, rfl, hA, hns, hnl⟩
    walk_at "ret"
    refine k _ p ns ?_ hns
    exact (At.close hA.up3 (P := oWs lt) ⟨u, v, rfl, hu, hv, hul, hvl⟩).down3
theorem ok_law_order_holds {P : Program} {w : World} {K : PySem.W.Frag} {mg : Str → Option Value} {base : Heap} {f : Addr} {fd : FuncData} (D0 : Tx.F_law_order_holds K f fd) (hm0 : mg "_law_order_holds" = some (.ref f))
    (C_rank : Cal P w K mg base CX0 2 "rank" ["letters", "word"] sp_rank) (C_law_rank_due : Cal P w K mg base CX0 1 "_law_rank_due" ["letters", "word"] sp_law_rank_due) (C_law_integer : Cal P w K mg base CX0 1 "_law_integer" ["actual"] sp_law_integer) (C_law_numbers_of : Cal P w K mg base CX0 2 "_law_numbers_of" ["state", "letters", "words"] sp_law_numbers_of) (C_law_same_text : Cal P w K mg base CX0 1 "_law_same_text" ["actual", "due"] sp_law_same_text) (C_word_at : Cal P w K mg base CX0 2 "word_at" ["letters", "number"] sp_word_at) (C_law_word_due : Cal P w K mg base CX0 1 "_law_word_due" ["letters", "number"] sp_law_word_due) (C_law_word : Cal P w K mg base CX0 2 "_law_word" ["state", "letters", "size"] sp_law_word) (C_law_next : Cal P w K mg base CX0 1 "_law_next" ["state", "many"] sp_law_next) (C_law_pick : Cal P w K mg base CX0 2 "_law_pick" ["state", "row"] sp_law_pick) (C_law_in_order : Cal P w K mg base CX0 1 "_law_in_order" ["words"] sp_law_in_order) (C_law_strings : Cal P w K mg base CX0 1 "_law_strings" ["actual", "due"] sp_law_strings) (C_in_order : Cal P w K mg base CX0 4 "in_order" ["words"] sp_in_order) (m_list : mg "list" = none) (m_range : mg "range" = none) : Cal P w K mg base CX0 5 "_law_order_holds" ["state", "letters", "words"] sp_law_order_holds := by
  refine ⟨f, fd, hm0, ?_, D0.kp, FunD.bindsN D0 fun _ _ _ _ _ _ us hl => match us, hl with | [_, _, _], _ => rfl⟩
  refine FunD.ok (k := 4) D0 Tx.sc_law_order_holds (fun vs H Q E h => len_sp_law_order_holds h) (fun cdv A outer s0 H vs Q E hr h => ?_)
  have hsz : sizeLine = 16777216 := rfl
  obtain ⟨G, L, s, a, lt, rfl, hA, hg, k⟩ := h
  have g1 := hg.pos
  have g2 := hg.few
  have hnd : lt.Nodup := hg.asc.imp fun h => Nat.ne_of_lt h
  obtain ⟨o, ⟨u, v, rfl, hu, hv, hul, hvl⟩, hA⟩ := hA.swap.open1
  have hA := hA.swap
  refine ⟨_, PSs.nox (pss_cons (ps_for PassesOwn.never rfl (pi_list (pv 2)) (pg_name (i := 3) Tx.sc_law_order_holds.nd rfl (Or.inl rfl))
  (pss_cons (ps_set (i := 4) Tx.sc_law_order_holds.nd rfl (Or.inl rfl) (pe_cal C_rank hr pass0 (pa_cons (pv 1) (pa_cons (pv 3) pa_nil))))
  (pss_one (ps_if (PW.pt (pw_or (pt_not (pt_val (pe_cal C_law_integer hr pass0 (pa_cons (pv 4) pa_nil)))) (pw_or1 (pt_cmpR op_ne (pv 4) (pe_cal C_law_rank_due hr pass0 (pa_cons (pv 1) (pa_cons (pv 3) pa_nil))) (nomark _)))))
  (pss_one (ps_ret pe_bl))
  pss_nil))))
  (pss_cons (ps_for PassesOwn.never rfl (pi_list (pe_cal C_law_numbers_of hr pass0 (pa_cons (pv 0) (pa_cons (pv 1) (pa_cons (pv 2) pa_nil))))) (pg_name (i := 5) Tx.sc_law_order_holds.nd rfl (Or.inl rfl))
  (pss_one (ps_if (pt_not (pt_val (pe_cal C_law_same_text hr pass0 (pa_cons (pe_cal C_word_at hr pass0 (pa_cons (pv 1) (pa_cons (pv 5) pa_nil))) (pa_cons (pe_cal C_law_word_due hr pass0 (pa_cons (pv 1) (pa_cons (pv 5) pa_nil))) pa_nil)))))
  (pss_one (ps_ret pe_bl))
  pss_nil)))
  (pss_cons (ps_set (i := 6) Tx.sc_law_order_holds.nd rfl (Or.inr rfl) (pe_op op_cat (pe_op op_cat (pe_lc (own := [("k", 10)]) rfl Tx.sc_law_order_holds.nd (pi_range1 (by rfl) m_range (pa_cons pe_int pa_nil)) (blkOk_by (own := [("k", 10)]) (N := Tx.N_law_order_holds) (sc := defScope Tx.s_law_order_holds) (by decide +kernel)) (fun _ _ _ _ _ => (pg_name (i := 10) Tx.sc_law_order_holds.nd rfl (Or.inl rfl))) (fun _ _ _ _ _ => pts_nil) (fun _ _ _ _ _ => (pe_cal C_law_word hr pass0 (pa_cons (pv 0) (pa_cons (pv 1) (pa_cons (pe_cal C_law_next hr pass0 (pa_cons (pv 0) (pa_cons pe_int pa_nil))) pa_nil)))))) (pv 2)) (pe_lst (pa_cons (pe_slice sl_str (pe_ix ix_list (pv 2) pe_int (fun _ _ => rfl)) po_none (po_some (pe_un un_neg pe_int))) (pa_cons (pe_slice sl_str (pe_ix ix_list (pv 2) pe_int (fun _ _ => rfl)) (po_some pe_int) po_none) pa_nil)))))
  (pss_cons (ps_setLc (i := 7) (own := [("k", 10)]) rfl Tx.sc_law_order_holds.nd rfl rfl (sw_true rfl rfl rfl (by decide +kernel)) (pi_range1 (by rfl) m_range (pa_cons (pe_cal C_law_next hr pass0 (pa_cons (pv 0) (pa_cons pe_int pa_nil))) pa_nil)) (blkOk_by (own := [("k", 10)]) (N := Tx.N_law_order_holds) (sc := defScope Tx.s_law_order_holds) (by decide +kernel)) (fun _ _ _ _ _ => (pg_name (i := 10) Tx.sc_law_order_holds.nd rfl (Or.inl rfl))) (fun _ _ _ _ _ => pts_nil) (fun _ _ _ _ _ => (pe_cal C_law_pick hr pass0 (pa_cons (pv 0) (pa_cons (pv 6) pa_nil)))))
  (pss_cons (ps_set (i := 8) Tx.sc_law_order_holds.nd rfl (Or.inl rfl) (pe_callTy call_list_of (by rfl) m_list (by decide +kernel) (pa_cons (pv 7) pa_nil)))
  (pss_cons (ps_set (i := 9) Tx.sc_law_order_holds.nd rfl (Or.inl rfl) (pe_cal C_law_in_order hr pass0 (pa_cons (pv 7) pa_nil)))
  (pss_one (ps_ret (pe_and (pe_cal C_law_strings hr pass0 (pa_cons (pe_cal C_in_order hr pass0 (pa_cons (pv 8) pa_nil)) (pa_cons (pv 9) pa_nil))) (pe_one (pe_cmpR (op_eqD hr.units) (pv 8) (pv 7) (nomark _)))))))))))), ?_⟩
  refine q_forL (K := K) (xs := [sV u, sV v]) (by walk_at "val") (SqL.of hA.is2) (fun i σ H => ∃ (v3 v4 : Option V), σ = [some (.ref s), some (sV lt), some (.ref a), v3, v4, none, none, none, none, none, none] ∧ At G H ((s, oSt) :: (a, oIs (.lst [sV u, sV v])) :: L)) ⟨none, none, rfl, hA⟩ (fun i σ H ⟨_, _, _, h⟩ => SqL.of h.is2) ?_ ?_
  · rintro i x σ H hx ⟨v3, v4, rfl, hA⟩
    have hi : i < 2 := (List.getElem?_eq_some_iff.mp hx).1
    obtain ⟨w, rfl, hw, hwl⟩ : ∃ w, x = sV w ∧ Over lt w ∧ w.length ≤ 200 := by
      rcases (by omega : i = 0 ∨ i = 1) with rfl | rfl
      · exact ⟨u, (Option.some.inj hx).symm, hu, hul⟩
      · exact ⟨v, (Option.some.inj hx).symm, hv, hvl⟩
    refine q_call (by walk_at "val") ⟨lt, w, rfl, hg, hw, by omega, fun H1 s1 => ?_⟩
    refine st_when (b := false) (ans_to (ans_orr (c := !decide (V.int (rankF lt w) = V.int (rankF lt w))) (ans_nt (ans_T (val_call (v := .bl true) (by walk_at "val") fun Q q => ⟨_, rfl, q⟩))) fun _ => ans_T (val_ne (val_var rfl) (val_call (v := .int (rankF lt w)) (by walk_at "val") fun Q q => ⟨lt, w, rfl, hg, hw, by omega, q⟩) rfl)) (by simp)) (fun h => by cases h) (fun _ => ?_)
    exact ⟨_, _, rfl, hA.more s1⟩
  rintro σ H ⟨v3, v4, rfl, hA⟩
  have hB := (At.close hA.swap (P := oWs lt) ⟨u, v, rfl, hu, hv, hul, hvl⟩).swap
  refine q_forLx (callx_ (aval_ (vs := [.ref s, sV lt, .ref a]) (by walk_at "val") ⟨G, L, s, a, lt, rfl, hB, hg, fun H1 p ns hC hns => ?_⟩))
  refine ⟨p, rfl, ⟨_, SqL.of hC.is⟩, forK_L (xs := ns.map V.int) (fun i σ H => ∃ v5 : Option V, σ = [some (.ref s), some (sV lt), some (.ref a), v3, v4, v5, none, none, none, none, none] ∧ At G H ((p, oIs (.lst (ns.map V.int))) :: (s, oSt) :: (a, oWs lt) :: L)) ⟨none, rfl, hC⟩ (fun i σ H ⟨_, _, h⟩ => SqL.of h.is) ?_ ?_⟩
  · rintro i x σ H hx ⟨v5, rfl, hA⟩
    obtain ⟨n, hn, rfl⟩ := map_get hx
    obtain ⟨n0, n1⟩ := hns n (List.mem_of_getElem? hn)
    obtain ⟨m, rfl⟩ : ∃ m : Nat, n = (m : Int) := ⟨n.toNat, by omega⟩
    obtain ⟨w, hw, hwl, e⟩ := rank_all g1 hnd (k := 200) m n1
    rw [← e]
    refine st_whenx (nt_ (tst_ (callx_ (acons_ (callx_ (aval_ (vs := [sV lt, .int (rankF lt w)]) (by walk_at "val") ⟨lt, w, rfl, hg, hw, hwl, fun H2 s2 => ?_⟩))))))
    refine acons_ (callx_ (aval_ (vs := [sV lt, .int (rankF lt w)]) (by walk_at "val") ⟨lt, w, rfl, hg, hw, hwl, fun H3 s3 => anil_ ⟨w, rfl, true, rfl, iteF ?_⟩⟩))
    exact ⟨_, rfl, (hA.more s2).more s3⟩
  rintro σ H ⟨v5, rfl, hA⟩
  obtain ⟨o, ⟨u, v, rfl, hu, hv, hul, hvl⟩, hA⟩ := hA.tail.swap.open1
  have hA := hA.swap
  with_reducible refine q_as ?_
  refine op_ (op_ ?_)
  refine lcR (z := 9) (by walk_at "val") ⟨by omega, by omega⟩ (fun D i H => ∃ ws : List (List Nat), At G H ((D, oIs (.lst (ws.map sV))) :: (s, oSt) :: (a, oIs (.lst [sV u, sV v])) :: L) ∧ ws.length = i ∧ ∀ w ∈ ws, w.length ≤ 200 ∧ Over lt w) ?_ ?_ ?_
  · intro D hD
    exact ⟨[], hA.ownL hD, rfl, fun w hw => by cases hw⟩
  · rintro D i H hi ⟨ws, hA, hl, hw⟩
    refine ⟨rfl, callx_ (acons_ (var_ rfl (acons_ (var_ rfl (acons_ (nextN_ (by walk_at "val") hA.swap (by omega) (by omega) fun H1 j hA1 hj => anil_ ⟨G, _, s, lt, j, rfl, hA1, g1, by omega, by omega, by omega, fun H2 w hA2 hwo hwl => ?_⟩))))))⟩
    refine ⟨_, hA2.is2, by rw [List.length_map]; omega, ws ++ [w], by rw [List.map_append]; exact hA2.swap.set rfl, by rw [List.length_append, hl]; rfl, fun x hx => ?_⟩
    rcases List.mem_append.mp hx with hx | hx
    · exact hw x hx
    · rw [List.mem_singleton.mp hx]; exact ⟨by omega, hwo⟩
  rintro D1 H1 ⟨ws, hA, hl, hw⟩
  refine var_ rfl ⟨D1, a, _, _, rfl, rfl, hA.is, hA.is3, by rw [List.length_map]; show ws.length + 2 ≤ sizeLine; omega, fun D2 hD2 => ?_⟩
  have hA := (hA.ownL (p := D2) (o := .lst (ws.map sV ++ [sV u, sV v])) hD2).drop2
  refine new_lst (vs := [sV u.dropLast, sV (v.drop 1)]) (aval_cons (val_slLast (val_ixL (val_var rfl) val_c (SqL.of hA.is3) rfl) (by walk_at "val") (by omega)) (aval_cons (val_slDrop (i := 1) (val_ixL (val_var rfl) val_c (SqL.of hA.is3) rfl) val_c (by omega)) aval_nil)) (by show 2 ≤ sizeLine; omega) fun D3 hD3 => ?_
  have hA := hA.ownL (p := D3) (o := .lst [sV u.dropLast, sV (v.drop 1)]) hD3
  refine ⟨D2, D3, _, _, rfl, rfl, hA.is2, hA.is, by rw [List.length_append, List.length_map]; show ws.length + 2 + 2 ≤ sizeLine; omega, fun D4 hD4 => ?_⟩
  have hA := (hA.ownL (p := D4) (o := .lst (ws.map sV ++ [sV u, sV v] ++ [sV u.dropLast, sV (v.drop 1)])) hD4).drop2.drop2
  obtain ⟨ps, hps, hpl, hpw⟩ : ∃ ps : List (List Nat), ws.map sV ++ [sV u, sV v] ++ [sV u.dropLast, sV (v.drop 1)] = ps.map sV ∧ ps.length = 13 ∧ ∀ w ∈ ps, w.length ≤ 200 ∧ Over lt w := by
    refine ⟨ws ++ [u, v] ++ [u.dropLast, v.drop 1], by rw [List.map_append, List.map_append]; rfl, by rw [List.length_append, List.length_append, hl]; rfl, fun w hm => ?_⟩
    rcases List.mem_append.mp hm with hm | hm
    · rcases List.mem_append.mp hm with hm | hm
      · exact hw w hm
      · rcases List.mem_cons.mp hm with rfl | hm
        · exact ⟨hul, hu⟩
        · rw [List.mem_singleton.mp hm]; exact ⟨hvl, hv⟩
    · rcases List.mem_cons.mp hm with rfl | hm
      · exact ⟨by rw [List.length_dropLast]; omega, fun c hc => hu c ((List.dropLast_sublist u).subset hc)⟩
      · rw [List.mem_singleton.mp hm]; exact ⟨by rw [List.length_drop]; omega, fun c hc => hv c (List.mem_of_mem_drop hc)⟩
  rw [hps] at hA ⊢
  have hpl2 : (ps.map sV).length = 13 := by rw [List.length_map, hpl]
  with_reducible refine q_as ?_
  refine lcRy_ (nextN_ (by walk_at "val") hA.swap (by omega) (by omega) fun H5 cnt hA5 hc => ⟨cnt, rfl, by omega, by omega, ?_⟩)
  have hA := hA5.swap
  refine lcK_R (n := ((cnt : Int)).toNat) (fun D i H => ∃ ls : List (List Nat), At G H ((D, oIs (.lst (ls.map sV))) :: (s, oSt) :: (D4, oIs (.lst (ps.map sV))) :: (a, oIs (.lst [sV u, sV v])) :: L) ∧ ls.length = i ∧ ∀ w ∈ ls, w.length ≤ 200 ∧ Over lt w) ?_ ?_ ?_
  · intro D hD
    exact ⟨[], hA5.ownL hD, rfl, fun w hw => by cases hw⟩
  · rintro D i H hi ⟨ls, hA, hl, hw⟩
    refine ⟨rfl, callx_ (aval_ (vs := [.ref s, .ref D4]) (by walk_at "val") ⟨G, _, s, D4, ps.map sV, rfl, hA.swap, fun H' h => h.is3, by omega, by omega, fun H' x h hx => ?_⟩)⟩
    obtain ⟨w, hwm, rfl⟩ := List.mem_map.mp hx
    refine ⟨_, h.is2, by rw [List.length_map]; omega, ls ++ [w], by rw [List.map_append]; exact h.swap.set rfl, by rw [List.length_append, hl]; rfl, fun x hx => ?_⟩
    rcases List.mem_append.mp hx with hx | hx
    · exact hw x hx
    · rw [List.mem_singleton.mp hx]; exact hpw w hwm
  rintro D6 H6 ⟨ls, hA, hl, hw⟩
  refine q_as (cb_ (acons_ (var_ rfl (anil_ ⟨D6, _, rfl, .inl (SqL.of hA.is), fun D7 hD7 => ?_⟩))))
  have hA := hA.ownL (p := D7) (o := .lst (ls.map sV)) hD7
  refine q_call (vs := [.ref D6]) (by walk_at "val") ⟨G, _, D6, ls, rfl, hA.swap, by omega, fun w hm => by have := (hw w hm).1; omega, fun H8 D8 ys hA8 ht => ?_⟩
  refine ret_ (andv_ (callx_ (acons_ (callx_ (aval_ (vs := [.ref D7]) (by walk_at "val") ⟨G, _, D7, ls, rfl, hA8.up3, by omega, fun w hm => by have := (hw w hm).1; omega, fun H9 D9 zs hA9 hz => ?_⟩)))))
  have ez : zs = ys := hz.uniq ht fun _ => Iff.rfl
  subst ez
  dsimp only
  refine aval_ (vs := [.ref D8]) (by walk_at "val") ⟨D9, D8, zs, rfl, hA9.is, hA9.is3, by have := ht.len; omega, true, rfl, ?_⟩
  rw [if_pos rfl]
  refine go (v := .bl true) (val_eqWords (ws := ls) (val_var rfl) (val_var rfl) (SqL.of hA9.is2) (SqL.of hA9.is4) fun w hm c hc => by have := (hg.small c ((hw w hm).2 c hc)).2; omega) ?_
  have hA := hA9.tail.tail.tail.tail
  refine k _ ?_
  exact (At.close hA.drop2.swap (P := oWs lt) ⟨u, v, rfl, hu, hv, hul, hvl⟩).swap
theorem ok_windows {P : Program} {w : World} {K : PySem.W.Frag} {mg : Str → Option Value} {base : Heap} {f : Addr} {fd : FuncData} (D0 : Tx.F_windows K f fd) (hm0 : mg "windows" = some (.ref f))
    (C_in_order : Cal P w K mg base CX0 4 "in_order" ["words"] sp_in_order) (m_len : mg "len" = none) (m_range : mg "range" = none) : Cal P w K mg base CX0 5 "windows" ["word", "size"] sp_windows := by
  refine ⟨f, fd, hm0, ?_, D0.kp, FunD.bindsN D0 fun _ _ _ _ _ _ us hl => match us, hl with | [_, _], _ => rfl⟩
  refine FunD.ok (k := 4) D0 Tx.sc_windows (fun vs H Q E h => len_sp_windows h) (fun cdv A outer s0 H vs Q E hr h => ?_)
  have hsz : sizeLine = 16777216 := rfl
  obtain ⟨G, L, w, n, rfl, hA, hw, hn0, hn, k⟩ := h
  refine ⟨_, PSs.nox (pss_one (ps_ret (pe_cal C_in_order hr pass0 (pa_cons (pe_lc (own := [("at", 2)]) rfl Tx.sc_windows.nd (pi_range1 (by rfl) m_range (pa_cons (pe_op op_add (pe_op op_sub (pe_callB call_len_str (by rfl) m_len PySem.boot_len (pa_cons (pv 0) pa_nil)) (pv 1)) pe_int) pa_nil)) (blkOk_by (own := [("at", 2)]) (N := Tx.N_windows) (sc := defScope Tx.s_windows) (by decide +kernel)) (fun _ _ _ _ _ => (pg_name (i := 2) Tx.sc_windows.nd rfl (Or.inl rfl))) (fun _ _ _ _ _ => pts_nil) (fun _ _ _ _ _ => (pe_slice sl_str (pv 0) (po_some (pv 2)) (po_some (pe_op op_add (pv 2) (pv 1)))))) pa_nil)))), ?_⟩
  refine ret_ (callx_ (acons_ (lcR (z := (w.length : Int) - n + 1) (by walk_at "val") ⟨by omega, by omega⟩ (fun D i H => At G H ((D, oIs (.lst (((List.range i).map fun i => (w.drop i).take n).map sV))) :: L)) ?_ ?_ ?_)))
  · intro D hD
    exact hA.ownL hD
  · intro D i H hi hA
    refine ⟨rfl, ?_⟩
    refine go (v := sV ((w.drop i).take (i + n - i))) (val_slMid (i := i) (j := i + n) (val_var rfl) (val_var rfl) (val_to (val_I0 (val_var rfl) (val_var rfl)) (by rw [Int.natCast_add])) (by omega)) ?_
    rw [show i + n - i = n by omega]
    refine ⟨_, hA.is, by rw [List.length_map, List.length_map, List.length_range]; omega, ?_⟩
    rw [List.range_succ, List.map_append, List.map_append]
    exact hA.set rfl
  · intro D H hA
    have e : ((List.range ((w.length : Int) - n + 1).toNat).map fun i => (w.drop i).take n) = winds w n := by
      unfold winds
      rw [show ((w.length : Int) - n + 1).toNat = w.length + 1 - n by omega]
    rw [e] at hA
    have hl : (winds w n).length = w.length + 1 - n := by unfold winds; rw [List.length_map, List.length_range]
    refine anil_ ⟨G, L, D, winds w n, rfl, hA, by omega, fun v hv => ?_, fun H' p ys hA' ht => k _ _ ys hA'.drop2 ht⟩
    unfold winds at hv
    obtain ⟨i, _, rfl⟩ := List.mem_map.mp hv
    rw [List.length_take]
    omega
theorem ok_law_windows_hold {P : Program} {w : World} {K : PySem.W.Frag} {mg : Str → Option Value} {base : Heap} {f : Addr} {fd : FuncData} (D0 : Tx.F_law_windows_hold K f fd) (hm0 : mg "_law_windows_hold" = some (.ref f))
    (C_law_next : Cal P w K mg base CX0 1 "_law_next" ["state", "many"] sp_law_next) (C_law_in_order : Cal P w K mg base CX0 1 "_law_in_order" ["words"] sp_law_in_order) (C_law_strings : Cal P w K mg base CX0 1 "_law_strings" ["actual", "due"] sp_law_strings) (C_windows : Cal P w K mg base CX0 5 "windows" ["word", "size"] sp_windows) (m_len : mg "len" = none) (m_max : mg "max" = none) (m_range : mg "range" = none) : Cal P w K mg base CX0 6 "_law_windows_hold" ["state", "words"] sp_law_windows_hold := by
  refine ⟨f, fd, hm0, ?_, D0.kp, FunD.bindsN D0 fun _ _ _ _ _ _ us hl => match us, hl with | [_, _], _ => rfl⟩
  refine FunD.ok (k := 5) D0 Tx.sc_law_windows_hold (fun vs H Q E h => len_sp_law_windows_hold h) (fun cdv A outer s0 H vs Q E hr h => ?_)
  have hsz : sizeLine = 16777216 := rfl
  obtain ⟨G, L, s, a, lt, rfl, hA, k⟩ := h
  obtain ⟨o, ⟨u, v, rfl, hu, hv, hul, hvl⟩, hA⟩ := hA.swap.open1
  have hA := hA.swap
  refine ⟨_, PSs.nox (pss_cons (ps_for PassesOwn.never rfl (pi_list (pv 1)) (pg_name (i := 2) Tx.sc_law_windows_hold.nd rfl (Or.inr rfl))
  (pss_cons (ps_set (i := 3) Tx.sc_law_windows_hold.nd rfl (Or.inl rfl) (pe_lst (pa_cons (pe_op op_add pe_int (pe_cal C_law_next hr pass0 (pa_cons (pv 0) (pa_cons pe_int pa_nil)))) (pa_cons (pe_op op_add pe_int (pe_cal C_law_next hr pass0 (pa_cons (pv 0) (pa_cons pe_int pa_nil)))) pa_nil))))
  (pss_one (ps_for PassesOwn.never rfl (pi_list (pe_op op_cat (pv 3) (pe_lst (pa_cons (pe_callB (call_max2 rfl) (by rfl) m_max (by decide +kernel) (pa_cons pe_int (pa_cons (pe_op op_sub (pe_callB call_len_str (by rfl) m_len PySem.boot_len (pa_cons (pv 2) pa_nil)) pe_int) pa_nil))) (pa_cons (pe_callB (call_max2 rfl) (by rfl) m_max (by decide +kernel) (pa_cons pe_int (pa_cons (pe_callB call_len_str (by rfl) m_len PySem.boot_len (pa_cons (pv 2) pa_nil)) pa_nil))) (pa_cons (pe_op op_add (pe_callB call_len_str (by rfl) m_len PySem.boot_len (pa_cons (pv 2) pa_nil)) pe_int) pa_nil)))))) (pg_name (i := 4) Tx.sc_law_windows_hold.nd rfl (Or.inr rfl))
  (pss_cons (ps_set (i := 5) Tx.sc_law_windows_hold.nd rfl (Or.inl rfl) (pe_cal C_law_in_order hr pass0 (pa_cons (pe_lc (own := [("at", 6)]) rfl Tx.sc_law_windows_hold.nd (pi_range1 (by rfl) m_range (pa_cons (pe_op op_add (pe_op op_sub (pe_callB call_len_str (by rfl) m_len PySem.boot_len (pa_cons (pv 2) pa_nil)) (pv 4)) pe_int) pa_nil)) (blkOk_by (own := [("at", 6)]) (N := Tx.N_law_windows_hold) (sc := defScope Tx.s_law_windows_hold) (by decide +kernel)) (fun _ _ _ _ _ => (pg_name (i := 6) Tx.sc_law_windows_hold.nd rfl (Or.inl rfl))) (fun _ _ _ _ _ => pts_nil) (fun _ _ _ _ _ => (pe_slice sl_str (pv 2) (po_some (pv 6)) (po_some (pe_op op_add (pv 6) (pv 4)))))) pa_nil)))
  (pss_one (ps_if (pt_not (pt_val (pe_cal C_law_strings hr pass0 (pa_cons (pe_cal C_windows hr pass0 (pa_cons (pv 2) (pa_cons (pv 4) pa_nil))) (pa_cons (pv 5) pa_nil)))))
  (pss_one (ps_ret pe_bl))
  pss_nil)))))))
  (pss_one (ps_ret pe_bl))), ?_⟩
  refine q_forL (K := K) (xs := [sV u, sV v]) (by walk_at "val") (SqL.of hA.is2) (fun i σ H => ∃ (v2 v3 v4 v5 : Option V), σ = [some (.ref s), some (.ref a), v2, v3, v4, v5, none] ∧ At G H ((s, oSt) :: (a, oIs (.lst [sV u, sV v])) :: L)) ⟨none, none, none, none, rfl, hA⟩ (fun i σ H ⟨_, _, _, _, _, h⟩ => SqL.of h.is2) ?_ ?_
  · rintro i x σ H hx ⟨v2, v3, v4, v5, rfl, hA⟩
    have hi : i < 2 := (List.getElem?_eq_some_iff.mp hx).1
    obtain ⟨w, rfl, hwl⟩ : ∃ w, x = sV w ∧ w.length ≤ 200 := by
      rcases (by omega : i = 0 ∨ i = 1) with rfl | rfl
      · exact ⟨u, (Option.some.inj hx).symm, hul⟩
      · exact ⟨v, (Option.some.inj hx).symm, hvl⟩
    refine gn_ ?_
    with_reducible refine q_as ?_
    refine lst_ (acons_ (op_l val_c (nextN_ (by walk_at "val") hA (by omega) (by omega) fun H1 n1 hA h1 => ⟨_, _, rfl, rfl, ?_⟩)))
    refine acons_ (op_l val_c (nextN_ (by walk_at "val") hA (by omega) (by omega) fun H2 n2 hA h2 => ⟨_, _, rfl, rfl, anil_ ⟨by show 2 ≤ sizeLine; decide, fun D1 hD1 => ?_⟩⟩))
    have hA := hA.ownL (p := D1) (o := .lst [.int (1 + (n1 : Int)), .int (5 + (n2 : Int))]) hD1
    refine st_forLx (op_ (var_ rfl (new_lst (vs := [.int ((max 1 (w.length - 1) : Nat) : Int), .int ((max 1 w.length : Nat) : Int), .int ((w.length + 1 : Nat) : Int)]) ?_ (by show 3 ≤ sizeLine; decide) fun D2 hD2 => ?_)))
    · refine aval_cons (val_to (v := .int (if (w.length : Int) - 1 > 1 then (w.length : Int) - 1 else 1)) (by walk_at "val") (congrArg V.int (by split <;> omega))) ?_
      refine aval_cons (val_to (v := .int (if (w.length : Int) > 1 then (w.length : Int) else 1)) (by walk_at "val") (congrArg V.int (by split <;> omega))) ?_
      exact aval_cons (val_to (v := .int ((w.length : Int) + 1)) (by walk_at "val") (congrArg V.int (by omega))) aval_nil
    have hA := hA.ownL (p := D2) (o := .lst [.int ((max 1 (w.length - 1) : Nat) : Int), .int ((max 1 w.length : Nat) : Int), .int ((w.length + 1 : Nat) : Int)]) hD2
    refine ⟨D1, D2, _, _, rfl, rfl, hA.is2, hA.is, by show 2 + 3 ≤ sizeLine; decide, fun D3 hD3 => ?_⟩
    obtain ⟨ns, hns, hn1⟩ : ∃ ns : List Nat, [V.int (1 + (n1 : Int)), .int (5 + (n2 : Int))] ++ [.int ((max 1 (w.length - 1) : Nat) : Int), .int ((max 1 w.length : Nat) : Int), .int ((w.length + 1 : Nat) : Int)] = ns.map (fun n : Nat => V.int (n : Int)) ∧ ∀ n ∈ ns, 0 < n ∧ n ≤ 1000 := by
      refine ⟨[1 + n1, 5 + n2, max 1 (w.length - 1), max 1 w.length, w.length + 1], by simp only [List.map_cons, List.map_nil, Int.natCast_add]; rfl, fun n hn => ?_⟩
      simp only [List.mem_cons, List.not_mem_nil, or_false] at hn
      omega
    rw [hns]
    have hA := (hA.ownL (p := D3) (o := .lst (ns.map (fun n : Nat => V.int (n : Int)))) hD3).drop2.drop2
    refine ⟨D3, rfl, ⟨_, SqL.of hA.is⟩, forK_L (xs := ns.map (fun n : Nat => V.int (n : Int))) (fun i σ H => ∃ (v4 v5 : Option V), σ = [some (.ref s), some (.ref a), some (sV w), some (.ref D1), v4, v5, none] ∧ At G H ((D3, oIs (.lst (ns.map (fun n : Nat => V.int (n : Int))))) :: (s, oSt) :: (a, oIs (.lst [sV u, sV v])) :: L)) ⟨_, _, rfl, hA⟩ (fun i σ H ⟨_, _, _, h⟩ => SqL.of h.is) ?_ ?_⟩
    · rintro i x σ H hx ⟨v4, v5, rfl, hA⟩
      obtain ⟨n, hn, rfl⟩ := map_get hx
      obtain ⟨n0, nM⟩ := hn1 n (List.mem_of_getElem? hn)
      refine gn_ ?_
      with_reducible refine q_as ?_
      refine callx_ (acons_ (lcR (z := (w.length : Int) - n + 1) (by walk_at "val") ⟨by omega, by omega⟩ (fun D i H => At G H ((D, oIs (.lst (((List.range i).map fun i => (w.drop i).take n).map sV))) :: (D3, oIs (.lst (ns.map (fun n : Nat => V.int (n : Int))))) :: (s, oSt) :: (a, oIs (.lst [sV u, sV v])) :: L)) ?_ ?_ ?_))
      · intro D hD
        exact hA.ownL hD
      · intro D i H hi hA
        refine ⟨rfl, ?_⟩
        refine go (v := sV ((w.drop i).take (i + n - i))) (val_slMid (i := i) (j := i + n) (val_var rfl) (val_var rfl) (val_to (val_I0 (val_var rfl) (val_var rfl)) (by rw [Int.natCast_add])) (by omega)) ?_
        rw [show i + n - i = n by omega]
        refine ⟨_, hA.is, by rw [List.length_map, List.length_map, List.length_range]; omega, ?_⟩
        rw [List.range_succ, List.map_append, List.map_append]
        exact hA.set rfl
      · intro D H hA
        have e : ((List.range ((w.length : Int) - n + 1).toNat).map fun i => (w.drop i).take n) = winds w n := by
          unfold winds
          rw [show ((w.length : Int) - n + 1).toNat = w.length + 1 - n by omega]
        rw [e] at hA
        have hl : (winds w n).length = w.length + 1 - n := by unfold winds; rw [List.length_map, List.length_range]
        refine anil_ ⟨G, _, D, winds w n, rfl, hA, by omega, fun v hv => ?_, fun H' p ys hA ht => ?_⟩
        · unfold winds at hv
          obtain ⟨i, _, rfl⟩ := List.mem_map.mp hv
          rw [List.length_take]
          omega
        have hyl := ht.len
        have hA := hA.drop2
        refine st_whenx (nt_ (tst_ (callx_ (acons_ (callx_ (aval_ (vs := [sV w, .int (n : Int)]) (by walk_at "val") ⟨G, _, w, n, rfl, hA, by omega, by omega, by omega, fun H5 q zs hA5 hz => ?_⟩))))))
        have ez : zs = ys := hz.uniq ht fun _ => Iff.rfl
        subst ez
        dsimp only
        refine aval_ (vs := [.ref p]) (by walk_at "val") ⟨q, p, zs, rfl, hA5.is, hA5.is2, by omega, true, rfl, ?_⟩
        rw [not_t, if_neg Bool.false_ne_true]
        exact ⟨_, _, rfl, hA5.tail.tail⟩
    · rintro σ H ⟨v4, v5, rfl, hA⟩
      exact ⟨_, _, _, _, rfl, hA.tail⟩
  · rintro σ H ⟨v2, v3, v4, v5, rfl, hA⟩
    walk_at "ret"
    exact k _ (At.close hA.swap (P := oWs lt) ⟨u, v, rfl, hu, hv, hul, hvl⟩).swap
theorem ok_scattered_words {P : Program} {w : World} {K : PySem.W.Frag} {mg : Str → Option Value} {base : Heap} {f : Addr} {fd : FuncData} (D0 : Tx.F_scattered_words K f fd) (hm0 : mg "scattered_words" = some (.ref f))
    (m_len : mg "len" = none) (m_list : mg "list" = none) (m_sorted : mg "sorted" = none) (C_order_key : KeyD P w K mg base 1 "order_key" wkey) : Cal P w K mg base CX0 4 "scattered_words" ["word", "most"] sp_scattered_words := by
  refine ⟨f, fd, hm0, ?_, D0.kp, FunD.bindsN D0 fun _ _ _ _ _ _ us hl => match us, hl with | [_, _], _ => rfl⟩
  refine FunD.ok (k := 3) D0 Tx.sc_scattered_words (fun vs H Q E h => len_sp_scattered_words h) (fun cdv A outer s0 H vs Q E hr h => ?_)
  have hu := hu_of hr
  have hsz : sizeLine = 16777216 := rfl
  obtain ⟨G, L, lt, w, m, n, rfl, hA, ho, hn, hs, hw, k⟩ := h
  have lot : ∀ i, i ≤ w.length → Lot lt i m (scat m (w.take i)) := lot_scat ho
  have few : ∀ i ps, i ≤ w.length → Lot lt i m ps → ps.length ≤ 1000000 := fun i ps hi h => Nat.le_trans (h.few (n := n) (by omega)) hs
  refine ⟨_, PSs.nox (pss_cons (ps_set (i := 2) Tx.sc_scattered_words.nd rfl (Or.inl rfl) (pe_disp (pps_cons pe_str pe_bl pps_nil) (by rfl) (by rfl) (fun z => by cases z) (by decide)))
  (pss_cons (ps_for PassesOwn.never rfl (pi_str (pv 0)) (pg_name (i := 3) Tx.sc_scattered_words.nd rfl (Or.inl rfl))
  (pss_one (ps_for PassesOwn.never rfl (pi_list (pe_callTy (call_listD rfl) (by rfl) m_list (by decide +kernel) (pa_cons (pv 2) pa_nil))) (pg_name (i := 4) Tx.sc_scattered_words.nd rfl (Or.inl rfl))
  (pss_one (ps_if (pt_cmpR op_lt (pe_callB call_len_str (by rfl) m_len PySem.boot_len (pa_cons (pv 4) pa_nil)) (pv 1) (nomark _))
  (pss_one (ps_dput hu (pv 2) (pe_op op_add_str (pv 4) (pv 3)) pe_bl rfl))
  pss_nil)))))
  (pss_one (ps_ret (pe_sortedKey C_order_key hr m_sorted (pa_cons (pe_callTy (call_listD rfl) (by rfl) m_list (by decide +kernel) (pa_cons (pv 2) pa_nil)) pa_nil)))))), ?_⟩
  refine q_as (new_dW1 fun d hd => ?_)
  have hA1 : At G (upd (upd H d (.dK [])) d (.dK (dW [[]]))) ((d, oIs (.dK (dW [[]]))) :: L) := (hA.ownL hd).set rfl
  refine q_forS (l := w) (by walk_at "val") (fun i σ H => ∃ v3 v4, σ = [some (sV w), some (.int m), some (.ref d), v3, v4] ∧ At G H ((d, oIs (.dK (dW (scat m (w.take i))))) :: L)) ⟨none, none, rfl, hA1⟩ ?_ ?_
  · rintro i c σ H hc ⟨v3, v4, rfl, hA⟩
    have hiw : i < w.length := (List.getElem?_eq_some_iff.mp hc).1
    have hcl := ho c (List.mem_of_getElem? hc)
    have lot0 := lot i (by omega)
    refine st_forLx (cb_ (acons_ (var_ rfl (anil_ ⟨d, _, rfl, .inl hA.is, fun p hp => ?_⟩))))
    rw [dW_keys]
    have hA2 := hA.ownL (p := p) (o := .lst ((scat m (w.take i)).map sV)) hp
    refine ⟨p, rfl, ⟨_, SqL.of hA2.is⟩, forK_L (xs := (scat m (w.take i)).map sV) (fun j σ H => ∃ v4, σ = [some (sV w), some (.int m), some (.ref d), some (sV [c]), v4] ∧ At G H ((p, oIs (.lst ((scat m (w.take i)).map sV))) :: (d, oIs (.dK (dW (scat1 m c ((scat m (w.take i)).take j) (scat m (w.take i)))))) :: L))
      ⟨_, rfl, hA2⟩ (fun j σ H ⟨_, _, h⟩ => SqL.of h.is) ?_ ?_⟩
    · rintro j x σ H hx ⟨v4, rfl, hA⟩
      obtain ⟨v, hv, rfl⟩ := map_get hx
      have hvl := (lot0.ln v (List.mem_of_getElem? hv)).1
      have lot1 := Lot.scat1 hcl (lot0.take j) lot0.more
      have hfew := few (i + 1) _ (by omega) lot1
      refine st_when (b := decide ((v.length : Int) < m)) (by walk_at "val") (fun h => ?_) (fun h => ?_)
      · refine st_dputW2 (w := v ++ [c]) (d := d) (ws := scat1 m c ((scat m (w.take i)).take j) (scat m (w.take i))) (by walk_at "val") (by walk_at "val") (by walk_at "val") hA (by omega) fun H' hA' => ?_
        refine ⟨_, rfl, ?_⟩
        rw [take_snoc hv, scat1_snoc, if_pos (of_decide_eq_true h)]
        exact hA'
      · refine ⟨_, rfl, ?_⟩
        rw [take_snoc hv, scat1_snoc, if_neg (of_decide_eq_false h)]
        exact hA
    · rintro σ H ⟨v4, rfl, hA⟩
      refine ⟨_, _, rfl, ?_⟩
      rw [List.length_map, List.take_length] at hA
      rw [take_snoc hc, scat_snoc]
      exact hA.tail
  · rintro σ H ⟨v3, v4, rfl, hA⟩
    rw [List.take_length] at hA
    have lot1 := lot w.length (Nat.le_refl _)
    rw [List.take_length] at lot1
    have hf := few _ _ (Nat.le_refl _) lot1
    refine ret_ (sortk_ (acons_ (cb_ (acons_ (var_ rfl (anil_ ⟨d, _, rfl, .inl hA.is, fun p hp => ?_⟩))))))
    rw [dW_keys]
    have hA2 := hA.ownL (p := p) (o := .lst ((scat m w).map sV)) hp
    refine anil_ ⟨p, scat m w, rfl, hA2.is, fun v hm => ?_, fun ys q hp1 hp2 hq => ?_⟩
    · have := (lot1.ln v hm).1
      omega
    have hA3 := hA2.ownL (p := q) (o := .lst (ys.map sV)) hq
    exact k _ _ ys hA3.drop2.drop2 (Told.perm hp1 hp2 lot1.nd fun _ => Iff.rfl)
theorem ok_law_scattered_due {P : Program} {w : World} {K : PySem.W.Frag} {mg : Str → Option Value} {base : Heap} {f : Addr} {fd : FuncData} (D0 : Tx.F_law_scattered_due K f fd) (hm0 : mg "_law_scattered_due" = some (.ref f))
    (C_law_in_order : Cal P w K mg base CX0 1 "_law_in_order" ["words"] sp_law_in_order) (m_len : mg "len" = none) (m_list : mg "list" = none) : Cal P w K mg base CX0 2 "_law_scattered_due" ["word", "most"] sp_law_scattered_due := by
  refine ⟨f, fd, hm0, ?_, D0.kp, FunD.bindsN D0 fun _ _ _ _ _ _ us hl => match us, hl with | [_, _], _ => rfl⟩
  refine FunD.ok (k := 1) D0 Tx.sc_law_scattered_due (fun vs H Q E h => len_sp_law_scattered_due h) (fun cdv A outer s0 H vs Q E hr h => ?_)
  have hu := hu_of hr
  have hsz : sizeLine = 16777216 := rfl
  obtain ⟨G, L, lt, w, m, n, rfl, hA, ho, hn, hs, hw, k⟩ := h
  have lot : ∀ i, i ≤ w.length → Lot lt i m (scat m (w.take i)) := lot_scat ho
  have few : ∀ i ps, i ≤ w.length → Lot lt i m ps → ps.length ≤ 1000000 := fun i ps hi h => Nat.le_trans (h.few (n := n) (by omega)) hs
  refine ⟨_, PSs.nox (pss_cons (ps_set (i := 2) Tx.sc_law_scattered_due.nd rfl (Or.inl rfl) (pe_disp (pps_cons pe_str pe_bl pps_nil) (by rfl) (by rfl) (fun z => by cases z) (by decide)))
  (pss_cons (ps_for PassesOwn.never rfl (pi_str (pv 0)) (pg_name (i := 3) Tx.sc_law_scattered_due.nd rfl (Or.inl rfl))
  (pss_one (ps_for PassesOwn.never rfl (pi_list (pe_callTy (call_listD rfl) (by rfl) m_list (by decide +kernel) (pa_cons (pv 2) pa_nil))) (pg_name (i := 4) Tx.sc_law_scattered_due.nd rfl (Or.inl rfl))
  (pss_one (ps_if (pt_cmpR op_lt (pe_callB call_len_str (by rfl) m_len PySem.boot_len (pa_cons (pv 4) pa_nil)) (pv 1) (nomark _))
  (pss_one (ps_dput hu (pv 2) (pe_op op_add_str (pv 4) (pv 3)) pe_bl rfl))
  pss_nil)))))
  (pss_one (ps_ret (pe_cal C_law_in_order hr pass0 (pa_cons (pe_callTy (call_listD rfl) (by rfl) m_list (by decide +kernel) (pa_cons (pv 2) pa_nil)) pa_nil)))))), ?_⟩
  refine q_as (new_dW1 fun d hd => ?_)
  have hA1 : At G (upd (upd H d (.dK [])) d (.dK (dW [[]]))) ((d, oIs (.dK (dW [[]]))) :: L) := (hA.ownL hd).set rfl
  refine q_forS (l := w) (by walk_at "val") (fun i σ H => ∃ v3 v4, σ = [some (sV w), some (.int m), some (.ref d), v3, v4] ∧ At G H ((d, oIs (.dK (dW (scat m (w.take i))))) :: L)) ⟨none, none, rfl, hA1⟩ ?_ ?_
  · rintro i c σ H hc ⟨v3, v4, rfl, hA⟩
    have hiw : i < w.length := (List.getElem?_eq_some_iff.mp hc).1
    have hcl := ho c (List.mem_of_getElem? hc)
    have lot0 := lot i (by omega)
    refine st_forLx (cb_ (acons_ (var_ rfl (anil_ ⟨d, _, rfl, .inl hA.is, fun p hp => ?_⟩))))
    rw [dW_keys]
    have hA2 := hA.ownL (p := p) (o := .lst ((scat m (w.take i)).map sV)) hp
    refine ⟨p, rfl, ⟨_, SqL.of hA2.is⟩, forK_L (xs := (scat m (w.take i)).map sV) (fun j σ H => ∃ v4, σ = [some (sV w), some (.int m), some (.ref d), some (sV [c]), v4] ∧ At G H ((p, oIs (.lst ((scat m (w.take i)).map sV))) :: (d, oIs (.dK (dW (scat1 m c ((scat m (w.take i)).take j) (scat m (w.take i)))))) :: L))
      ⟨_, rfl, hA2⟩ (fun j σ H ⟨_, _, h⟩ => SqL.of h.is) ?_ ?_⟩
    · rintro j x σ H hx ⟨v4, rfl, hA⟩
      obtain ⟨v, hv, rfl⟩ := map_get hx
      have hvl := (lot0.ln v (List.mem_of_getElem? hv)).1
      have lot1 := Lot.scat1 hcl (lot0.take j) lot0.more
      have hfew := few (i + 1) _ (by omega) lot1
      refine st_when (b := decide ((v.length : Int) < m)) (by walk_at "val") (fun h => ?_) (fun h => ?_)
      · refine st_dputW2 (w := v ++ [c]) (d := d) (ws := scat1 m c ((scat m (w.take i)).take j) (scat m (w.take i))) (by walk_at "val") (by walk_at "val") (by walk_at "val") hA (by omega) fun H' hA' => ?_
        refine ⟨_, rfl, ?_⟩
        rw [take_snoc hv, scat1_snoc, if_pos (of_decide_eq_true h)]
        exact hA'
      · refine ⟨_, rfl, ?_⟩
        rw [take_snoc hv, scat1_snoc, if_neg (of_decide_eq_false h)]
        exact hA
    · rintro σ H ⟨v4, rfl, hA⟩
      refine ⟨_, _, rfl, ?_⟩
      rw [List.length_map, List.take_length] at hA
      rw [take_snoc hc, scat_snoc]
      exact hA.tail
  · rintro σ H ⟨v3, v4, rfl, hA⟩
    rw [List.take_length] at hA
    have lot1 := lot w.length (Nat.le_refl _)
    rw [List.take_length] at lot1
    have hf := few _ _ (Nat.le_refl _) lot1
    refine ret_ (callx_ (acons_ (cb_ (acons_ (var_ rfl (anil_ ⟨d, _, rfl, .inl hA.is, fun p hp => ?_⟩))))))
    rw [dW_keys]
    have hA2 := hA.ownL (p := p) (o := .lst ((scat m w).map sV)) hp
    refine anil_ ⟨G, _, p, scat m w, rfl, hA2, hf, fun v hm => ?_, fun H' q ys hA3 ht => ?_⟩
    · have := (lot1.ln v hm).1
      omega
    exact k _ _ ys hA3.drop2.drop2 ht
theorem ok_law_scattered_hold {P : Program} {w : World} {K : PySem.W.Frag} {mg : Str → Option Value} {base : Heap} {f : Addr} {fd : FuncData} (D0 : Tx.F_law_scattered_hold K f fd) (hm0 : mg "_law_scattered_hold" = some (.ref f))
    (C_law_word : Cal P w K mg base CX0 2 "_law_word" ["state", "letters", "size"] sp_law_word) (C_law_next : Cal P w K mg base CX0 1 "_law_next" ["state", "many"] sp_law_next) (C_law_strings : Cal P w K mg base CX0 1 "_law_strings" ["actual", "due"] sp_law_strings) (C_scattered_words : Cal P w K mg base CX0 4 "scattered_words" ["word", "most"] sp_scattered_words) (C_law_scattered_due : Cal P w K mg base CX0 2 "_law_scattered_due" ["word", "most"] sp_law_scattered_due) : Cal P w K mg base CX0 5 "_law_scattered_hold" ["state", "letters"] sp_law_scattered_hold := by
  refine ⟨f, fd, hm0, ?_, D0.kp, FunD.bindsN D0 fun _ _ _ _ _ _ us hl => match us, hl with | [_, _], _ => rfl⟩
  refine FunD.ok (k := 4) D0 Tx.sc_law_scattered_hold (fun vs H Q E h => len_sp_law_scattered_hold h) (fun cdv A outer s0 H vs Q E hr h => ?_)
  have hsz : sizeLine = 16777216 := rfl
  obtain ⟨G, L, s, lt, rfl, hA, hg, k⟩ := h
  have g1 := hg.pos
  have g2 := hg.few
  have t1 := hg.take2.pos
  have t2 : (lt.take 2).length ≤ 2 := by rw [List.length_take]; omega
  obtain ⟨c, hc⟩ : ∃ c, lt.getLast? = some c := ⟨_, List.getLast?_eq_some_getLast (List.length_pos_iff.mp g1)⟩
  refine ⟨_, PSs.nox (pss_cons (ps_set (i := 2) Tx.sc_law_scattered_hold.nd rfl (Or.inl rfl) (pe_lst (pa_cons (pe_tup (pa_cons (pe_cal C_law_word hr pass0 (pa_cons (pv 0) (pa_cons (pe_slice sl_str (pv 1) po_none (po_some pe_int)) (pa_cons (pe_cal C_law_next hr pass0 (pa_cons (pv 0) (pa_cons pe_int pa_nil))) pa_nil)))) (pa_cons (pe_cal C_law_next hr pass0 (pa_cons (pv 0) (pa_cons pe_int pa_nil))) pa_nil))) pa_nil)))
  (pss_cons (ps_expr (pe_bm PySem.F.plainAttrs_list PySem.F.slot_list_append PySem.F.type_list_append mt_append (pv 2) (pa_cons (pe_tup (pa_cons (pe_cal C_law_word hr pass0 (pa_cons (pv 0) (pa_cons (pv 1) (pa_cons (pe_cal C_law_next hr pass0 (pa_cons (pv 0) (pa_cons pe_int pa_nil))) pa_nil)))) (pa_cons (pe_cal C_law_next hr pass0 (pa_cons (pv 0) (pa_cons pe_int pa_nil))) pa_nil))) pa_nil)))
  (pss_cons (ps_expr (pe_bm PySem.F.plainAttrs_list PySem.F.slot_list_append PySem.F.type_list_append mt_append (pv 2) (pa_cons (pe_tup (pa_cons (pe_op op_mulSt (pe_ix ix_str (pv 1) (pe_un un_neg pe_int) (fun _ _ => rfl)) (pe_cal C_law_next hr pass0 (pa_cons (pv 0) (pa_cons pe_int pa_nil)))) (pa_cons (pe_cal C_law_next hr pass0 (pa_cons (pv 0) (pa_cons pe_int pa_nil))) pa_nil))) pa_nil)))
  (pss_cons (ps_for PassesOwn.never rfl (pi_list (pv 2)) (pg_name (i := 3) Tx.sc_law_scattered_hold.nd rfl (Or.inl rfl))
  (pss_one (ps_if (pt_not (pt_val (pe_cal C_law_strings hr pass0 (pa_cons (pe_cal C_scattered_words hr pass0 (pa_cons (pe_ix ix_tup (pv 3) pe_int (fun _ _ => rfl)) (pa_cons (pe_ix ix_tup (pv 3) pe_int (fun _ _ => rfl)) pa_nil))) (pa_cons (pe_cal C_law_scattered_due hr pass0 (pa_cons (pe_ix ix_tup (pv 3) pe_int (fun _ _ => rfl)) (pa_cons (pe_ix ix_tup (pv 3) pe_int (fun _ _ => rfl)) pa_nil))) pa_nil)))))
  (pss_one (ps_ret pe_bl))
  pss_nil)))
  (pss_one (ps_ret pe_bl)))))), ?_⟩
  refine q_as (lst_ (acons_ (tup_ (acons_ (callx_ (acons_ (var_ rfl (acons_ (go (v := sV (lt.take 2)) (val_slTake (j := 2) (val_var rfl) val_c (by omega)) (acons_ (nextN_ (by walk_at "val") hA (by omega) (by omega) fun H1 j1 hA hj1 => anil_ ⟨G, _, s, lt.take 2, j1, rfl, hA, t1, by omega, by omega, by omega, fun H2 w1 hA hw1 hl1 => ?_⟩)))))))))))
  refine acons_ (next_ (by walk_at "val") hA (by omega) (by omega) fun H3 m1 hA m10 m11 => anil_ ⟨by show 2 ≤ sizeLine; decide, fun T1 hT1 => ?_⟩)
  have hA := hA.ownL (p := T1) (o := .tup [sV w1, .int m1]) hT1
  refine anil_ ⟨by show 1 ≤ sizeLine; decide, fun P1 hP1 => ?_⟩
  have hA := hA.ownL (p := P1) (o := .lst [.ref T1]) hP1
  refine q_appx (val_var rfl) hA.is (tup_ (acons_ (callx_ (acons_ (var_ rfl (acons_ (var_ rfl (acons_ (nextN_ (by walk_at "val") hA.up3 (by omega) (by omega) fun H4 j2 hA hj2 => anil_ ⟨G, _, s, lt, j2, rfl, hA, g1, by omega, by omega, by omega, fun H5 w2 hA hw2 hl2 => ?_⟩)))))))))
  refine acons_ (next_ (by walk_at "val") hA (by omega) (by omega) fun H6 m2 hA m20 m21 => anil_ ⟨by show 2 ≤ sizeLine; decide, fun T2 hT2 => ?_⟩)
  have hA := hA.ownL (p := T2) (o := .tup [sV w2, .int m2]) hT2
  refine ⟨P1, _, _, rfl, rfl, hA.is3, by show 1 < sizeLine; decide, ?_⟩
  have hA := hA.up3.set (P' := oIs (.lst ([.ref T1] ++ [.ref T2]))) rfl
  refine q_appx (val_var rfl) hA.is (tup_ (acons_ (op_l (val_ixS (c := c) (i := -1) (val_var rfl) (by walk_at "val") (by omega) (atI_last hc)) (nextN_ (by walk_at "val") hA.up3 (by omega) (by omega) fun H7 j3 hA hj3 => ⟨_, _, rfl, rfl, mulOk_one c j3 (by omega), ?_⟩))))
  rw [mul_one_sign]
  dsimp only
  refine acons_ (next_ (by walk_at "val") hA (by omega) (by omega) fun H8 m3 hA m30 m31 => anil_ ⟨by show 2 ≤ sizeLine; decide, fun T3 hT3 => ?_⟩)
  have hA := hA.ownL (p := T3) (o := .tup [sV (List.replicate j3 c), .int m3]) hT3
  refine ⟨P1, _, _, rfl, rfl, hA.is3, by show 2 < sizeLine; decide, ?_⟩
  have hA := hA.up3.set (P' := oIs (.lst ([.ref T1] ++ [.ref T2] ++ [.ref T3]))) rfl
  obtain ⟨L', hL, hT, hP⟩ : ∃ L', (∀ H, At G H L' → At G H ((s, oSt) :: L)) ∧ (∀ (i : Nat) (x : V), ([.ref T1, .ref T2, .ref T3] : List V)[i]? = some x → ∃ T w m lt0 n, x = .ref T ∧ (∀ H, At G H L' → H T = some (.tup [sV w, .int m])) ∧ Over lt0 w ∧ (w.length ≤ n ∨ max m 0 ≤ n) ∧ sums lt0.length n ≤ 1000000 ∧ w.length ≤ 1000) ∧
      At G (upd (upd H8 T3 (.tup [sV (List.replicate j3 c), .int m3])) P1 (.lst ([.ref T1] ++ [.ref T2] ++ [.ref T3]))) ((P1, oIs (.lst [.ref T1, .ref T2, .ref T3])) :: L') := by
    refine ⟨_, fun H h => h.tail.drop2.drop2, fun i x hx => ?_, hA⟩
    have hi : i < 3 := (List.getElem?_eq_some_iff.mp hx).1
    rcases (by omega : i = 0 ∨ i = 1 ∨ i = 2) with rfl | rfl | rfl
    · refine ⟨T1, w1, m1, lt.take 2, 4, (Option.some.inj hx).symm, fun H h => h.is4, hw1, .inr (by omega), Nat.le_trans (sums_base t2 4) (by decide), by omega⟩
    · refine ⟨T2, w2, m2, lt, 9, (Option.some.inj hx).symm, fun H h => h.is3, hw2, .inl (by omega), Nat.le_trans (sums_base g2 9) (by decide), by omega⟩
    · refine ⟨T3, List.replicate j3 c, m3, [c], 60, (Option.some.inj hx).symm, fun H h => h.is, fun d hd => by rw [(List.mem_replicate.mp hd).2]; exact List.mem_singleton.mpr rfl, .inl (by rw [List.length_replicate]; omega), ?_, by rw [List.length_replicate]; omega⟩
      show sums 1 60 ≤ 1000000
      decide +kernel
  refine q_forL (K := K) (xs := [.ref T1, .ref T2, .ref T3]) (by walk_at "val") (SqL.of hP.is) (fun i σ H => ∃ v3 : Option V, σ = [some (.ref s), some (sV lt), some (.ref P1), v3] ∧ At G H ((P1, oIs (.lst [.ref T1, .ref T2, .ref T3])) :: L')) ⟨_, rfl, hP⟩ (fun i σ H ⟨_, _, h⟩ => SqL.of h.is) ?_ ?_
  · rintro i x σ H hx ⟨v3, rfl, hA⟩
    obtain ⟨T, w, m, lt0, n, rfl, hH, h1, h2, h3, h4⟩ := hT i x hx
    refine gn_ ?_
    refine st_whenx (nt_ (tst_ (callx_ (acons_ (callx_ (aval_ (vs := [sV w, .int m]) (aval_cons (val_ixT (val_var rfl) val_c (SqT.of (hH _ hA.tail)) rfl) (aval_cons (val_ixT (val_var rfl) val_c (SqT.of (hH _ hA.tail)) rfl) aval_nil)) ⟨G, _, lt0, w, m, n, rfl, hA, h1, h2, h3, h4, fun H1 p ys hB hy => ?_⟩))))))
    refine acons_ (callx_ (aval_ (vs := [sV w, .int m]) (aval_cons (val_ixT (val_var rfl) val_c (SqT.of (hH _ hB.tail.tail)) rfl) (aval_cons (val_ixT (val_var rfl) val_c (SqT.of (hH _ hB.tail.tail)) rfl) aval_nil)) ⟨G, _, lt0, w, m, n, rfl, hB, h1, h2, h3, h4, fun H2 q zs hC hz => ?_⟩))
    have ez : zs = ys := hz.uniq hy fun _ => Iff.rfl
    subst ez
    have hlen := hy.len
    have hsc : (scat m w).length ≤ 1000000 := by
      have := (lot_scat (m := m) h1 w.length (Nat.le_refl _))
      rw [List.take_length] at this
      exact Nat.le_trans (this.few (n := n) h2) h3
    dsimp only
    refine anil_ ⟨p, q, zs, rfl, hC.is2, hC.is, by omega, true, rfl, ?_⟩
    rw [not_t, if_neg Bool.false_ne_true]
    exact ⟨_, rfl, hC.tail.tail⟩
  · rintro σ H ⟨v3, rfl, hA⟩
    walk_at "ret"
    exact k _ (hL _ hA.tail)
theorem ok_class_of {P : Program} {w : World} {K : PySem.W.Frag} {mg : Str → Option Value} {base : Heap} {f : Addr} {fd : FuncData} (D0 : Tx.F_class_of K f fd) (hm0 : mg "class_of" = some (.ref f))
    (m_tuple : mg "tuple" = none) : Cal P w K mg base CX0 1 "class_of" ["letters", "word", "exact", "period"] sp_class_of := by
  refine ⟨f, fd, hm0, ?_, D0.kp, FunD.bindsN D0 fun _ _ _ _ _ _ us hl => match us, hl with | [_, _, _, _], _ => rfl⟩
  refine FunD.ok (k := 0) D0 Tx.sc_class_of (fun vs H Q E h => len_sp_class_of h) (fun cdv A outer s0 H vs Q E hr h => ?_)
  have hsz : sizeLine = 16777216 := rfl
  obtain ⟨G, L, lt, w, e, p, rfl, hA, hlt, hw, hp0, hp1, k⟩ := h
  refine ⟨_, PSs.nox (pss_cons (ps_set (i := 4) Tx.sc_class_of.nd rfl (Or.inl rfl) (pe_lst pa_nil))
  (pss_cons (ps_for PassesOwn.never rfl (pi_str (pv 0)) (pg_name (i := 5) Tx.sc_class_of.nd rfl (Or.inl rfl))
  (pss_cons (ps_set (i := 6) Tx.sc_class_of.nd rfl (Or.inl rfl) (pe_m1 PySem.F.slot_str_count PySem.F.type_str_count mt_count (pv 1) (pv 5)))
  (pss_cons (ps_if (pt_cmpR op_ge (pv 6) (pv 2) (nomark _))
  (pss_one (ps_set (i := 6) Tx.sc_class_of.nd rfl (Or.inl rfl) (pe_op op_add (pv 2) (pe_op op_mod (pe_op op_sub (pv 6) (pv 2)) (pv 3)))))
  pss_nil)
  (pss_one (ps_expr (pe_bm PySem.F.plainAttrs_list PySem.F.slot_list_append PySem.F.type_list_append mt_append (pv 4) (pa_cons (pv 6) pa_nil)))))))
  (pss_one (ps_ret (pe_callTy call_tuple_of (by rfl) m_tuple (by decide +kernel) (pa_cons (pv 4) pa_nil)))))), ?_⟩
  refine q_as (new_lst (by walk_at "val") (by decide) fun pl hpl => ?_)
  have hA1 := hA.ownL (p := pl) (o := .lst []) hpl
  refine q_forS (l := lt) (by walk_at "val") (fun i σ H => ∃ v5 v6, σ = [some (sV lt), some (sV w), some (.int e), some (.int p), some (.ref pl), v5, v6] ∧ At G H ((pl, oIs (.lst ((classF (lt.take i) w e p).map V.int))) :: L))
    ⟨none, none, rfl, hA1⟩ ?_ ?_
  · rintro i c σ H hc ⟨v5, v6, rfl, hA⟩
    have hil : i < lt.length := (List.getElem?_eq_some_iff.mp hc).1
    have hlen : (classF (lt.take i) w e p).length = (lt.take i).length := List.length_map ..
    have htl : (lt.take i).length ≤ lt.length := List.length_take_le' ..
    have hfin : ∀ H x, At G H ((pl, oIs (.lst ((classF (lt.take i) w e p).map V.int ++ [.int x]))) :: L) → x = (if e ≤ (w.count c : Int) then e + ((w.count c : Int) - e) % p else (w.count c : Int)) → At G H ((pl, oIs (.lst ((classF (lt.take (i + 1)) w e p).map V.int))) :: L) := fun H x h hx => by
      have e1 : (classF (lt.take (i + 1)) w e p).map V.int = (classF (lt.take i) w e p).map V.int ++ [.int x] := by
        unfold classF
        rw [take_snoc hc, List.map_append, List.map_append, hx]
        rfl
      rw [e1]
      exact h
    refine q_set (v := .int (w.count c : Nat)) (val_count (val_var rfl) (val_var rfl)) ?_
    walk_at "if"
    · rename_i h
      walk_at "set"
      walk_at "app"
      rename_i H3 hA3
      refine ⟨_, _, rfl, hfin _ _ hA3 ?_⟩
      have h2 : e ≤ (w.count c : Int) := by simpa using h
      rw [if_pos h2]
    · rename_i h
      walk_at "app"
      rename_i H3 hA3
      refine ⟨_, _, rfl, hfin _ _ hA3 ?_⟩
      have h2 : ¬ e ≤ (w.count c : Int) := by simpa using h
      rw [if_neg h2]
  · rintro σ H ⟨v5, v6, rfl, hA⟩
    rw [List.take_length] at hA
    refine ret_ (cb_ (acons_ (var_ rfl (anil_ ⟨pl, _, rfl, .inl ⟨SqL.of hA.is, fun q hq => ?_⟩⟩))))
    exact k _ _ ((hA.ownL (p := q) (o := .tup ((classF lt w e p).map V.int)) hq).drop2)
theorem ok_law_class_holds {P : Program} {w : World} {K : PySem.W.Frag} {mg : Str → Option Value} {base : Heap} {f : Addr} {fd : FuncData} (D0 : Tx.F_law_class_holds K f fd) (hm0 : mg "_law_class_holds" = some (.ref f))
    (C_law_next : Cal P w K mg base CX0 1 "_law_next" ["state", "many"] sp_law_next) (C_class_of : Cal P w K mg base CX0 1 "class_of" ["letters", "word", "exact", "period"] sp_class_of) (C_law_integer : Cal P w K mg base CX0 1 "_law_integer" ["actual"] sp_law_integer) (m_all : mg "all" = none) (m_int : mg "int" = none) (m_isinstance : mg "isinstance" = none) (m_len : mg "len" = none) (m_list : mg "list" = none) (m_tuple : mg "tuple" = none) : Cal P w K mg base CX0 2 "_law_class_holds" ["state", "letters", "words"] sp_law_class_holds := by
  refine ⟨f, fd, hm0, ?_, D0.kp, FunD.bindsN D0 fun _ _ _ _ _ _ us hl => match us, hl with | [_, _, _], _ => rfl⟩
  refine FunD.ok (k := 1) D0 Tx.sc_law_class_holds (fun vs H Q E h => len_sp_law_class_holds h) (fun cdv A outer s0 H vs Q E hr h => ?_)
  have hsz : sizeLine = 16777216 := rfl
  obtain ⟨G, L, s, a, lt, rfl, hA, hg, k⟩ := h
  have g2 := hg.few
  obtain ⟨o, ⟨u, v, rfl, hu, hv, hul, hvl⟩, hA⟩ := hA.swap.open1
  have hA := hA.swap
  have two : ∀ (x y : Int) (j : Nat) (B : Int), 0 ≤ x → x < B → 0 ≤ y → y < B → (j : Int) < 2 → ∃ z, ([V.int x, V.int y] : List V)[j]? = some (V.int z) ∧ 0 ≤ z ∧ z < B := fun x y j B h1 h2 h3 h4 h5 => by
    rcases (by omega : j = 0 ∨ j = 1) with rfl | rfl
    · exact ⟨x, rfl, h1, h2⟩
    · exact ⟨y, rfl, h3, h4⟩
  refine ⟨_, PSs.nox (pss_cons (ps_for PassesOwn.never rfl (pi_list (pv 2)) (pg_name (i := 3) Tx.sc_law_class_holds.nd rfl (Or.inl rfl))
  (pss_cons (ps_set (i := 4) Tx.sc_law_class_holds.nd rfl (Or.inl rfl) (pe_ix ix_list (pe_lst (pa_cons (pe_cal C_law_next hr pass0 (pa_cons (pv 0) (pa_cons pe_int pa_nil))) (pa_cons (pe_cal C_law_next hr pass0 (pa_cons (pv 0) (pa_cons pe_int pa_nil))) pa_nil))) (pe_cal C_law_next hr pass0 (pa_cons (pv 0) (pa_cons pe_int pa_nil))) (fun _ _ => rfl)))
  (pss_cons (ps_set (i := 5) Tx.sc_law_class_holds.nd rfl (Or.inl rfl) (pe_op op_add pe_int (pe_ix ix_list (pe_lst (pa_cons (pe_cal C_law_next hr pass0 (pa_cons (pv 0) (pa_cons pe_int pa_nil))) (pa_cons (pe_cal C_law_next hr pass0 (pa_cons (pv 0) (pa_cons pe_int pa_nil))) pa_nil))) (pe_cal C_law_next hr pass0 (pa_cons (pv 0) (pa_cons pe_int pa_nil))) (fun _ _ => rfl))))
  (pss_cons (ps_set (i := 6) Tx.sc_law_class_holds.nd rfl (Or.inl rfl) (pe_lst pa_nil))
  (pss_cons (ps_for PassesOwn.never rfl (pi_str (pv 1)) (pg_name (i := 7) Tx.sc_law_class_holds.nd rfl (Or.inr rfl))
  (pss_cons (ps_set (i := 8) Tx.sc_law_class_holds.nd rfl (Or.inl rfl) (pe_callB call_len_seq (by rfl) m_len PySem.boot_len (pa_cons (pe_lc (own := [("sign", 10)]) rfl Tx.sc_law_class_holds.nd (pi_str (pv 3)) (blkOk_by (own := [("sign", 10)]) (N := Tx.N_law_class_holds) (sc := defScope Tx.s_law_class_holds) (by decide +kernel)) (fun _ _ _ _ _ => (pg_name (i := 10) Tx.sc_law_class_holds.nd rfl (Or.inl rfl))) (fun _ _ _ _ _ => (pts_one (pt_cmpR op_eq (pv 10) (pv 7) (nomark _)))) (fun _ _ _ _ _ => (pv 10))) pa_nil)))
  (pss_cons (ps_if (pt_cmpR op_ge (pv 8) (pv 4) (nomark _))
  (pss_one (ps_set (i := 8) Tx.sc_law_class_holds.nd rfl (Or.inl rfl) (pe_op op_add (pv 4) (pe_op op_mod (pe_callTy call_int1 (by rfl) m_int (by decide +kernel) (pa_cons (pe_op op_sub (pv 8) (pv 4)) pa_nil)) (pv 5)))))
  pss_nil)
  (pss_one (ps_expr (pe_bm PySem.F.plainAttrs_list PySem.F.slot_list_append PySem.F.type_list_append mt_append (pv 6) (pa_cons (pv 8) pa_nil)))))))
  (pss_cons (ps_set (i := 9) Tx.sc_law_class_holds.nd rfl (Or.inl rfl) (pe_cal C_class_of hr pass0 (pa_cons (pv 1) (pa_cons (pv 3) (pa_cons (pv 4) (pa_cons (pv 5) pa_nil))))))
  (pss_one (ps_if (PW.pt (pw_or (pt_not (pt_val (pe_callB call_isi (by rfl) m_isinstance (by decide +kernel) (pa_cons (pv 9) (pa_cons (pe_bltn (v := .ty "tuple") (by rfl) m_tuple (by decide +kernel) rfl) pa_nil))))) (pw_or (pt_not (pt_val (pe_callB (cr_all rfl) (by rfl) m_all (by decide +kernel) (pa_cons (pe_lc (own := [("count", 8)]) rfl Tx.sc_law_class_holds.nd (pi_tup (pv 9)) (blkOk_by (own := [("count", 8)]) (N := Tx.N_law_class_holds) (sc := defScope Tx.s_law_class_holds) (by decide +kernel)) (fun _ _ _ _ _ => (pg_name (i := 8) Tx.sc_law_class_holds.nd rfl (Or.inl rfl))) (fun _ _ _ _ _ => pts_nil) (fun _ _ _ _ _ => (pe_cal C_law_integer hr pass0 (pa_cons (pv 8) pa_nil)))) pa_nil)))) (pw_or1 (pt_cmpR (op_neD hr.units) (pe_callTy call_list_of (by rfl) m_list (by decide +kernel) (pa_cons (pv 9) pa_nil)) (pv 6) (nomark _))))))
  (pss_one (ps_ret pe_bl))
  pss_nil))))))))
  (pss_one (ps_ret pe_bl))), ?_⟩
  refine q_forL (K := K) (xs := [sV u, sV v]) (by walk_at "val") (SqL.of hA.is2) (fun i σ H => ∃ (v3 v4 v5 v6 v7 v8 v9 : Option V), σ = [some (.ref s), some (sV lt), some (.ref a), v3, v4, v5, v6, v7, v8, v9, none] ∧ At G H ((s, oSt) :: (a, oIs (.lst [sV u, sV v])) :: L)) ⟨none, none, none, none, none, none, none, rfl, hA⟩ (fun i σ H ⟨_, _, _, _, _, _, _, _, h⟩ => SqL.of h.is2) ?_ ?_
  · rintro i x σ H hx ⟨v3, v4, v5, v6, v7, v8, v9, rfl, hA⟩
    have hi : i < 2 := (List.getElem?_eq_some_iff.mp hx).1
    obtain ⟨w, rfl, hwl⟩ : ∃ w, x = sV w ∧ w.length ≤ 200 := by
      rcases (by omega : i = 0 ∨ i = 1) with rfl | rfl
      · exact ⟨u, (Option.some.inj hx).symm, hul⟩
      · exact ⟨v, (Option.some.inj hx).symm, hvl⟩
    refine gn_ ?_
    with_reducible refine q_as ?_
    refine op_ (lst_ (acons_ (next_ (by walk_at "val") hA (by omega) (by omega) fun H1 x1 hA a1 b1 => ?_)))
    refine acons_ (next_ (by walk_at "val") hA (by omega) (by omega) fun H2 y1 hA a2 b2 => anil_ ⟨by show 2 ≤ sizeLine; decide, fun D1 hD1 => ?_⟩)
    refine nextN_ (by walk_at "val") (hA.ownL (p := D1) (o := .lst [.int x1, .int y1]) hD1).swap (by omega) (by omega) fun H3 j1 hA hj1 => ?_
    obtain ⟨ex, hex, ex0, ex1⟩ := two x1 y1 j1 251 (by omega) (by omega) (by omega) (by omega) hj1
    refine ⟨D1, _, _, _, rfl, rfl, SqL.of hA.is2, atI_nat hex, ?_⟩
    have hA := hA.drop2
    with_reducible refine q_as ?_
    refine op_l val_c (op_ (lst_ (acons_ (next_ (by walk_at "val") hA (by omega) (by omega) fun H4 x2 hA a3 b3 => ?_))))
    refine acons_ (next_ (by walk_at "val") hA (by omega) (by omega) fun H5 y2 hA a4 b4 => anil_ ⟨by show 2 ≤ sizeLine; decide, fun D2 hD2 => ?_⟩)
    refine nextN_ (by walk_at "val") (hA.ownL (p := D2) (o := .lst [.int x2, .int y2]) hD2).swap (by omega) (by omega) fun H6 j2 hA hj2 => ?_
    obtain ⟨pz, hpz, pz0, pz1⟩ := two x2 y2 j2 300 (by omega) (by omega) (by omega) (by omega) hj2
    refine ⟨D2, _, _, _, rfl, rfl, SqL.of hA.is2, atI_nat hpz, _, _, rfl, rfl, ?_⟩
    have hA := hA.drop2
    refine q_as (new_lst (by walk_at "val") (by decide) fun D3 hD3 => ?_)
    have hA := hA.ownL (p := D3) (o := .lst []) hD3
    refine q_forS (l := lt) (by walk_at "val") (fun i σ H => ∃ (v7 v8 : Option V), σ = [some (.ref s), some (sV lt), some (.ref a), some (sV w), some (.int ex), some (.int (1 + pz)), some (.ref D3), v7, v8, v9, none] ∧ At G H ((D3, oIs (.lst ((classF (lt.take i) w ex (1 + pz)).map V.int))) :: (s, oSt) :: (a, oIs (.lst [sV u, sV v])) :: L)) ⟨_, _, rfl, hA⟩ ?_ ?_
    · rintro i c σ H hc ⟨v7, v8, rfl, hA⟩
      have hil : i < lt.length := (List.getElem?_eq_some_iff.mp hc).1
      have hlen : (classF (lt.take i) w ex (1 + pz)).length = (lt.take i).length := List.length_map ..
      have htl : (lt.take i).length ≤ lt.length := List.length_take_le' ..
      have hfin : ∀ H x, At G H ((D3, oIs (.lst ((classF (lt.take i) w ex (1 + pz)).map V.int ++ [.int x]))) :: (s, oSt) :: (a, oIs (.lst [sV u, sV v])) :: L) → x = (if ex ≤ (w.count c : Int) then ex + ((w.count c : Int) - ex) % (1 + pz) else (w.count c : Int)) → At G H ((D3, oIs (.lst ((classF (lt.take (i + 1)) w ex (1 + pz)).map V.int))) :: (s, oSt) :: (a, oIs (.lst [sV u, sV v])) :: L) := fun H x h hx => by
        have e1 : (classF (lt.take (i + 1)) w ex (1 + pz)).map V.int = (classF (lt.take i) w ex (1 + pz)).map V.int ++ [.int x] := by
          unfold classF
          rw [take_snoc hc, List.map_append, List.map_append, hx]
          rfl
        rw [e1]
        exact h
      with_reducible refine q_as ?_
      refine cb_ (acons_ (lcSt (l := w) (by walk_at "val") (fun d => decide (V.str (S [d]) = V.str (S [c]))) (fun D j H => ∃ l : List V, At G H ((D, oIs (.lst l)) :: (D3, oIs (.lst ((classF (lt.take i) w ex (1 + pz)).map V.int))) :: (s, oSt) :: (a, oIs (.lst [sV u, sV v])) :: L) ∧ l.length = (w.take j).count c) ?_ ?_ ?_))
      · intro D hD
        exact ⟨[], hA.ownL hD, rfl⟩
      · rintro D j d H hd ⟨l, hA, hl⟩
        have hcl : (w.take j).count c ≤ (w.take j).length := List.count_le_length ..
        have htl : (w.take j).length ≤ w.length := List.length_take_le' ..
        refine ⟨rfl, by walk_at "val", fun h => ?_, fun h => ?_⟩
        · have e : d = c := by
            have h1 := of_decide_eq_true h
            injection h1 with h1
            simpa using S_inj.mp h1
          refine var_ rfl ⟨l, hA.is, by omega, l ++ [sV [d]], hA.set rfl, ?_⟩
          rw [List.length_append, hl, take_snoc hd, List.count_append, e, List.count_singleton_self]
          rfl
        · have e : d ≠ c := fun e => by rw [e] at h; simp at h
          refine ⟨l, hA, ?_⟩
          rw [hl, take_snoc hd, List.count_append, List.count_singleton, if_neg (by simpa using e)]
          rfl
      rintro D H ⟨l, hA, hl⟩
      rw [List.take_length] at hl
      refine anil_ ⟨D, l, rfl, .inl (SqL.of hA.is), ?_⟩
      have hA := hA.tail
      rw [hl]
      walk_at "if"
      · rename_i h
        walk_at "set"
        walk_at "app"
        rename_i H3 hA3
        refine ⟨_, _, rfl, hfin _ _ hA3 ?_⟩
        have h2 : ex ≤ (w.count c : Int) := by simpa using h
        rw [if_pos h2]
      · rename_i h
        walk_at "app"
        rename_i H3 hA3
        refine ⟨_, _, rfl, hfin _ _ hA3 ?_⟩
        have h2 : ¬ ex ≤ (w.count c : Int) := by simpa using h
        rw [if_neg h2]
    rintro σ H ⟨v7, v8, rfl, hA⟩
    rw [List.take_length] at hA
    refine q_call (vs := [sV lt, sV w, .int ex, .int (1 + pz)]) (by walk_at "val") ⟨G, _, lt, w, ex, 1 + pz, rfl, hA, g2, by omega, by omega, by omega, fun H7 q hA => ?_⟩
    obtain ⟨cs, hcs, hcl⟩ : ∃ cs, classF lt w ex (1 + pz) = cs ∧ cs.length ≤ 4 := ⟨_, rfl, by unfold classF; rw [List.length_map]; exact g2⟩
    rw [hcs] at hA
    have hcl2 : (cs.map V.int).length = cs.length := List.length_map ..
    refine st_whenx (or_ (goT (b := !true) (ans_nt (ans_T (val_isi (val_var rfl) (TyX.base (.tup hA.is)) ktt))) ?_))
    rw [not_t, if_neg Bool.false_ne_true]
    refine or_ (nt_ (tst_ (cb_ (acons_ (lcTn (K := K) (xs := cs.map V.int) (by walk_at "val") (SqT.of hA.is) (fun D i H => At G H ((D, oIs (.lst ((List.replicate i true).map V.bl))) :: (q, oIs (.tup (cs.map V.int))) :: (D3, oIs (.lst (cs.map V.int))) :: (s, oSt) :: (a, oIs (.lst [sV u, sV v])) :: L)) ?_ ?_ ?_ ?_)))))
    · intro D hD
      exact hA.ownL hD
    · intro D i H h
      exact SqT.of h.is2
    · intro D i x H hx h
      obtain ⟨n, hn, rfl⟩ := map_get hx
      have hil : i < cs.length := (List.getElem?_eq_some_iff.mp hn).1
      refine ⟨rfl, go (v := .bl true) (val_call (by walk_at "val") fun Q q => ⟨_, rfl, q⟩) ⟨_, h.is, by rw [List.length_map, List.length_replicate]; omega, ?_⟩⟩
      rw [List.replicate_succ', List.map_append]
      exact h.set rfl
    intro D H hA
    refine anil_ ⟨D, _, rfl, SqL.of hA.is, _, rfl, ?_⟩
    have e : ((List.replicate (cs.map V.int).length true).all id) = true := by
      rw [List.all_eq_true]
      intro x hx
      rw [(List.mem_replicate.mp hx).2]
      rfl
    rw [e, not_t, if_neg Bool.false_ne_true]
    have hA := hA.tail
    refine tst_ (op_ (cb_ (acons_ (var_ rfl (anil_ ⟨q, _, rfl, .inr (SqT.of hA.is), fun l hl => ?_⟩)))))
    have hA := hA.ownL (p := l) (o := .lst (cs.map V.int)) hl
    refine var_ rfl (ne_ints (ws := cs) (SqL.of hA.is) (SqL.of hA.is3) ⟨false, rfl, ?_⟩)
    rw [if_neg Bool.false_ne_true]
    exact ⟨_, _, _, _, _, _, _, rfl, hA.tail.tail.tail⟩
  · rintro σ H ⟨v3, v4, v5, v6, v7, v8, v9, rfl, hA⟩
    walk_at "ret"
    exact k _ (At.close hA.swap (P := oWs lt) ⟨u, v, rfl, hu, hv, hul, hvl⟩).swap
theorem ok_law {P : Program} {w : World} {K : PySem.W.Frag} {mg : Str → Option Value} {base : Heap} {f : Addr} {fd : FuncData} (D0 : Tx.F_law K f fd) (hm0 : mg "law" = some (.ref f))
    (C_law_start : Cal P w K mg base CX0 1 "_law_start" ["script"] (sp_law_start K)) (C_law_alphabet : Cal P w K mg base CX0 2 "_law_alphabet" ["state", "most"] sp_law_alphabet) (C_law_long_word : Cal P w K mg base CX0 3 "_law_long_word" ["state", "letters"] sp_law_long_word) (C_law_order_holds : Cal P w K mg base CX0 5 "_law_order_holds" ["state", "letters", "words"] sp_law_order_holds) (C_law_lists_hold : Cal P w K mg base CX0 3 "_law_lists_hold" ["state", "letters"] sp_law_lists_hold) (C_law_scattered_hold : Cal P w K mg base CX0 5 "_law_scattered_hold" ["state", "letters"] sp_law_scattered_hold) (C_law_windows_hold : Cal P w K mg base CX0 6 "_law_windows_hold" ["state", "words"] sp_law_windows_hold) (C_law_class_holds : Cal P w K mg base CX0 2 "_law_class_holds" ["state", "letters", "words"] sp_law_class_holds) : FnOk P w K mg base CX0 7 f fd ["script"] (sp_law K) := by
  refine FunD.ok (k := 6) D0 Tx.sc_law (fun vs H Q E h => len_sp_law h) (fun cdv A outer s0 H vs Q E hr h => ?_)
  have hsz : sizeLine = 16777216 := rfl
  obtain ⟨a, ns, rfl, hs, hn, k⟩ := h
  refine ⟨_, PSs.nox (pss_cons (ps_set (i := 1) Tx.sc_law.nd rfl (Or.inl rfl) (pe_cal C_law_start hr pass0 (pa_cons (pv 0) pa_nil)))
  (pss_cons (ps_set (i := 2) Tx.sc_law.nd rfl (Or.inl rfl) (pe_cal C_law_alphabet hr pass0 (pa_cons (pv 1) (pa_cons pe_int pa_nil))))
  (pss_cons (ps_set (i := 3) Tx.sc_law.nd rfl (Or.inl rfl) (pe_lst (pa_cons (pe_cal C_law_long_word hr pass0 (pa_cons (pv 1) (pa_cons (pv 2) pa_nil))) (pa_cons (pe_cal C_law_long_word hr pass0 (pa_cons (pv 1) (pa_cons (pv 2) pa_nil))) pa_nil))))
  (pss_cons (ps_if (PW.pt (pw_or (pt_not (pt_val (pe_cal C_law_lists_hold hr pass0 (pa_cons (pv 1) (pa_cons (pv 2) pa_nil))))) (pw_or1 (pt_not (pt_val (pe_cal C_law_order_holds hr pass0 (pa_cons (pv 1) (pa_cons (pv 2) (pa_cons (pv 3) pa_nil)))))))))
  (pss_one (ps_ret pe_bl))
  pss_nil)
  (pss_cons (ps_if (PW.pt (pw_or (pt_not (pt_val (pe_cal C_law_windows_hold hr pass0 (pa_cons (pv 1) (pa_cons (pv 3) pa_nil))))) (pw_or1 (pt_not (pt_val (pe_cal C_law_scattered_hold hr pass0 (pa_cons (pv 1) (pa_cons (pv 2) pa_nil))))))))
  (pss_one (ps_ret pe_bl))
  pss_nil)
  (pss_one (ps_ret (pe_cal C_law_class_holds hr pass0 (pa_cons (pv 1) (pa_cons (pv 2) (pa_cons (pv 3) pa_nil))))))))))), ?_⟩
  refine q_call (vs := [.ref a]) (by walk_at "val") ⟨H, [], a, ns, rfl, At.start H, hs, hn, fun G H1 s sG hA => ?_⟩
  refine q_call (vs := [.ref s, .int 4]) (by walk_at "val") ⟨G, [], s, 4, rfl, hA, by omega, by omega, fun H2 lt hA hg _ => ?_⟩
  refine q_as (lst_ (acons_ (callx_ (aval_ (vs := [.ref s, sV lt]) (by walk_at "val") ⟨G, [], s, lt, rfl, hA, hg, fun H3 u hA hu hul => ?_⟩))))
  refine acons_ (callx_ (aval_ (vs := [.ref s, sV lt]) (by walk_at "val") ⟨G, [], s, lt, rfl, hA, hg, fun H4 v hA hv hvl => anil_ ⟨by show 2 ≤ sizeLine; decide, fun p hp => ?_⟩⟩))
  have hA := (At.own (P := oWs lt) hA hp ⟨u, v, rfl, hu, hv, hul, hvl⟩).swap
  refine q_whenx (or_ (nt_ (tst_ (callx_ (aval_ (vs := [.ref s, sV lt]) (by walk_at "val") ⟨G, _, s, lt, rfl, hA, hg, fun H5 hA => ⟨true, rfl, ?_⟩⟩)))))
  rw [not_t, if_neg Bool.false_ne_true]
  refine nt_ (tst_ (callx_ (aval_ (vs := [.ref s, sV lt, .ref p]) (by walk_at "val") ⟨G, [], s, p, lt, rfl, hA, hg, fun H6 hA => ⟨true, rfl, ?_⟩⟩)))
  rw [not_t, if_neg Bool.false_ne_true]
  refine q_whenx (or_ (nt_ (tst_ (callx_ (aval_ (vs := [.ref s, .ref p]) (by walk_at "val") ⟨G, [], s, p, lt, rfl, hA, fun H7 hA => ⟨true, rfl, ?_⟩⟩)))))
  rw [not_t, if_neg Bool.false_ne_true]
  refine nt_ (tst_ (callx_ (aval_ (vs := [.ref s, sV lt]) (by walk_at "val") ⟨G, _, s, lt, rfl, hA, hg, fun H8 hA => ⟨true, rfl, ?_⟩⟩)))
  rw [not_t, if_neg Bool.false_ne_true]
  refine ret_ (callx_ (aval_ (vs := [.ref s, sV lt, .ref p]) (by walk_at "val") ⟨G, [], s, p, lt, rfl, hA, hg, fun H9 hA => k H9⟩))
end Ok
/-! ### the head -/
namespace Hd
open PySem PySem.Spec PyProof.Rows
open L2 Tx
def mkD (x : Str) (st : Stmt) : He.DefD := ⟨(x, none), x, x, defArgs st, defBody st, defScope st, [], []⟩
def fn0 : List He.DefD := [mkD "_law_start" s_law_start, mkD "_law_next" s_law_next, mkD "_law_alphabet" s_law_alphabet, mkD "_law_word" s_law_word, mkD "_law_long_word" s_law_long_word, mkD "check_letters" s_check_letters, mkD "words_to" s_words_to, mkD "_law_strings" s_law_strings, mkD "_law_all_words" s_law_all_words, mkD "_law_power" s_law_power, mkD "_law_lists_hold" s_law_lists_hold, mkD "order_key" s_order_key]
def fn1 : List He.DefD := [mkD "in_order" s_in_order, mkD "check_word" s_check_word, mkD "rank" s_rank, mkD "word_at" s_word_at, mkD "_law_pick" s_law_pick, mkD "_law_integer" s_law_integer, mkD "_law_same_text" s_law_same_text, mkD "_law_in_order" s_law_in_order, mkD "_law_rank_due" s_law_rank_due, mkD "_law_word_due" s_law_word_due, mkD "_law_numbers_of" s_law_numbers_of, mkD "_law_order_holds" s_law_order_holds]
def fn2 : List He.DefD := [mkD "windows" s_windows, mkD "_law_windows_hold" s_law_windows_hold, mkD "scattered_words" s_scattered_words, mkD "_law_scattered_due" s_law_scattered_due, mkD "_law_scattered_hold" s_law_scattered_hold, mkD "class_of" s_class_of, mkD "_law_class_holds" s_law_class_holds, mkD "law" s_law]
def fn : List He.DefD := fn0 ++ fn1 ++ fn2
def fa0 : List He.Fa := [.glo "_law_start", .glo "_law_next", .glo "_law_alphabet", .glo "_law_word", .glo "_law_long_word", .glo "check_letters", .glo "words_to", .glo "_law_strings", .glo "_law_all_words", .glo "_law_power", .glo "_law_lists_hold", .glo "order_key", .glo "in_order", .glo "check_word", .glo "rank", .glo "word_at", .glo "_law_pick", .glo "_law_integer", .glo "_law_same_text", .glo "_law_in_order"]
def fa1 : List He.Fa := [.glo "_law_rank_due", .glo "_law_word_due", .glo "_law_numbers_of", .glo "_law_order_holds", .glo "windows", .glo "_law_windows_hold", .glo "scattered_words", .glo "_law_scattered_due", .glo "_law_scattered_hold", .glo "class_of", .glo "_law_class_holds", .glo "law", .free "abs", .free "len", .free "int", .free "range", .free "sorted", .free "isinstance", .free "list", .free "str"]
def fa2 : List He.Fa := [.free "enumerate", .free "divmod", .free "bool", .free "max", .free "min", .free "tuple", .free "all", .int "MOST_KINDS_OF_LETTERS" 4, .str "SMALL" "abcdefghijklmnopqrstuvwxyz"]
def fa : List He.Fa := fa0 ++ fa1 ++ fa2
abbrev R : PySem.W.OpenRow := PySem.W.OpenLaw.row PySem.Challenge.rw_treesfromyes_k01_words_at_greatest_sizes
abbrev hk : PySem.W.Hook := He.hookD 4 fa fn
def ob (z : PySem.W.SharedT) : He.AlD := He.obsDG 4 fa fn (HandSHeadRun.getT z)
theorem ob_eq (z : PySem.W.SharedT) : ob z = hk.obs z.abs := He.obsDG_eq (HandSHeadRun.getT_eq z)
def loose0 : List Str := ["LanguageError", "BadLetters", "BadWord", "SMALL", "MOST_KINDS_OF_LETTERS", "check_letters", "check_word", "order_key", "in_order", "words_to", "rank", "word_at", "scattered_words", "windows", "class_of", "_law_start", "_law_next", "_law_pick", "_law_integer", "_law_strings"]
def loose1 : List Str := ["_law_same_text", "_law_in_order", "_law_alphabet", "_law_word", "_law_all_words", "_law_long_word", "_law_power", "_law_rank_due", "_law_word_due", "_law_numbers_of", "_law_scattered_due", "_law_lists_hold", "_law_order_holds", "_law_windows_hold", "_law_scattered_hold", "_law_class_holds"]
theorem run (w : World) : HandSHeadRun.RunEq R (PySem.W.view R.prog [39]) hk ob 4000 (loose0 ++ loose1) w := by
  intro os
  kernel_rfl
theorem facts {P : Program} {w : World} {K : PySem.W.Frag} {h : Heap} {mg : Str → Option Value} {f : Addr} (X : K.In h) (G : h.Ns mainGlobals mg) (hfa : mg "law" = some (.ref f)) (c : He.SaysD fa fn K) :
    ∃ fd : FuncData, (∀ (s : Shared) (v : Value), BindsTo s fd ⟨[v], []⟩ [("script", v)]) ∧ ∀ base : Heap, K.In base → base.Ns mainGlobals mg → FnOk P w K mg base CX0 7 f fd ["script"] (Co.sp_law K) := by
  obtain ⟨fd0, F0⟩ := c.def_ 0 (d := mkD "_law_start" s_law_start) rfl
  obtain ⟨fd1, F1⟩ := c.def_ 1 (d := mkD "_law_next" s_law_next) rfl
  obtain ⟨fd2, F2⟩ := c.def_ 2 (d := mkD "_law_alphabet" s_law_alphabet) rfl
  obtain ⟨fd3, F3⟩ := c.def_ 3 (d := mkD "_law_word" s_law_word) rfl
  obtain ⟨fd4, F4⟩ := c.def_ 4 (d := mkD "_law_long_word" s_law_long_word) rfl
  obtain ⟨fd5, F5⟩ := c.def_ 5 (d := mkD "check_letters" s_check_letters) rfl
  obtain ⟨fd6, F6⟩ := c.def_ 6 (d := mkD "words_to" s_words_to) rfl
  obtain ⟨fd7, F7⟩ := c.def_ 7 (d := mkD "_law_strings" s_law_strings) rfl
  obtain ⟨fd8, F8⟩ := c.def_ 8 (d := mkD "_law_all_words" s_law_all_words) rfl
  obtain ⟨fd9, F9⟩ := c.def_ 9 (d := mkD "_law_power" s_law_power) rfl
  obtain ⟨fd10, F10⟩ := c.def_ 10 (d := mkD "_law_lists_hold" s_law_lists_hold) rfl
  obtain ⟨fd11, F11⟩ := c.def_ 11 (d := mkD "order_key" s_order_key) rfl
  obtain ⟨fd12, F12⟩ := c.def_ 12 (d := mkD "in_order" s_in_order) rfl
  obtain ⟨fd13, F13⟩ := c.def_ 13 (d := mkD "check_word" s_check_word) rfl
  obtain ⟨fd14, F14⟩ := c.def_ 14 (d := mkD "rank" s_rank) rfl
  obtain ⟨fd15, F15⟩ := c.def_ 15 (d := mkD "word_at" s_word_at) rfl
  obtain ⟨fd16, F16⟩ := c.def_ 16 (d := mkD "_law_pick" s_law_pick) rfl
  obtain ⟨fd17, F17⟩ := c.def_ 17 (d := mkD "_law_integer" s_law_integer) rfl
  obtain ⟨fd18, F18⟩ := c.def_ 18 (d := mkD "_law_same_text" s_law_same_text) rfl
  obtain ⟨fd19, F19⟩ := c.def_ 19 (d := mkD "_law_in_order" s_law_in_order) rfl
  obtain ⟨fd20, F20⟩ := c.def_ 20 (d := mkD "_law_rank_due" s_law_rank_due) rfl
  obtain ⟨fd21, F21⟩ := c.def_ 21 (d := mkD "_law_word_due" s_law_word_due) rfl
  obtain ⟨fd22, F22⟩ := c.def_ 22 (d := mkD "_law_numbers_of" s_law_numbers_of) rfl
  obtain ⟨fd23, F23⟩ := c.def_ 23 (d := mkD "_law_order_holds" s_law_order_holds) rfl
  obtain ⟨fd24, F24⟩ := c.def_ 24 (d := mkD "windows" s_windows) rfl
  obtain ⟨fd25, F25⟩ := c.def_ 25 (d := mkD "_law_windows_hold" s_law_windows_hold) rfl
  obtain ⟨fd26, F26⟩ := c.def_ 26 (d := mkD "scattered_words" s_scattered_words) rfl
  obtain ⟨fd27, F27⟩ := c.def_ 27 (d := mkD "_law_scattered_due" s_law_scattered_due) rfl
  obtain ⟨fd28, F28⟩ := c.def_ 28 (d := mkD "_law_scattered_hold" s_law_scattered_hold) rfl
  obtain ⟨fd29, F29⟩ := c.def_ 29 (d := mkD "class_of" s_class_of) rfl
  obtain ⟨fd30, F30⟩ := c.def_ 30 (d := mkD "_law_class_holds" s_law_class_holds) rfl
  obtain ⟨fd31, F31⟩ := c.def_ 31 (d := mkD "law" s_law) rfl
  have e := hfa.symm.trans (He.glo_ok X G (c.fact 31 (f := .glo "law") rfl))
  cases e
  have b := FunD.bindsA (ps := ["script"]) F31 fun _ _ _ _ _ _ us hl => match us, hl with | [_], _ => rfl
  refine ⟨fd31, fun s v => b s [v] rfl, fun base _ _ => ?_⟩
  have C_law_start := Ok.ok_law_start (P := P) (w := w) (K := K) (mg := mg) (base := base) F0 (He.glo_ok X G (c.fact 0 (f := .glo "_law_start") rfl)) (He.free_ok X G (c.fact 32 (f := .free "abs") rfl)) (He.free_ok X G (c.fact 33 (f := .free "len") rfl))
  have C_law_next := Ok.ok_law_next (P := P) (w := w) (K := K) (mg := mg) (base := base) F1 (He.glo_ok X G (c.fact 1 (f := .glo "_law_next") rfl)) (He.free_ok X G (c.fact 34 (f := .free "int") rfl)) (He.free_ok X G (c.fact 33 (f := .free "len") rfl))
  have C_law_alphabet := Ok.ok_law_alphabet (P := P) (w := w) (K := K) (mg := mg) (base := base) F2 (He.glo_ok X G (c.fact 2 (f := .glo "_law_alphabet") rfl)) C_law_next (He.free_ok X G (c.fact 35 (f := .free "range") rfl)) (He.free_ok X G (c.fact 36 (f := .free "sorted") rfl))
  have C_law_word := Ok.ok_law_word (P := P) (w := w) (K := K) (mg := mg) (base := base) F3 (He.glo_ok X G (c.fact 3 (f := .glo "_law_word") rfl)) C_law_next (He.free_ok X G (c.fact 33 (f := .free "len") rfl)) (He.free_ok X G (c.fact 35 (f := .free "range") rfl))
  have C_law_long_word := Ok.ok_law_long_word (P := P) (w := w) (K := K) (mg := mg) (base := base) F4 (He.glo_ok X G (c.fact 4 (f := .glo "_law_long_word") rfl)) C_law_next C_law_word (He.free_ok X G (c.fact 34 (f := .free "int") rfl)) (He.free_ok X G (c.fact 35 (f := .free "range") rfl))
  have C_check_letters := Ok.ok_check_letters (P := P) (w := w) (K := K) (mg := mg) (base := base) F5 (He.glo_ok X G (c.fact 5 (f := .glo "check_letters") rfl)) (He.free_ok X G (c.fact 33 (f := .free "len") rfl)) (He.int_ok X G (c.fact 47 (f := .int "MOST_KINDS_OF_LETTERS" 4) rfl)) (He.str_ok X G (c.fact 48 (f := .str "SMALL" "abcdefghijklmnopqrstuvwxyz") rfl))
  have C_words_to := Ok.ok_words_to (P := P) (w := w) (K := K) (mg := mg) (base := base) F6 (He.glo_ok X G (c.fact 6 (f := .glo "words_to") rfl)) C_check_letters (He.free_ok X G (c.fact 35 (f := .free "range") rfl))
  have C_law_strings := Ok.ok_law_strings (P := P) (w := w) (K := K) (mg := mg) (base := base) F7 (He.glo_ok X G (c.fact 7 (f := .glo "_law_strings") rfl)) (He.free_ok X G (c.fact 37 (f := .free "isinstance") rfl)) (He.free_ok X G (c.fact 33 (f := .free "len") rfl)) (He.free_ok X G (c.fact 38 (f := .free "list") rfl)) (He.free_ok X G (c.fact 35 (f := .free "range") rfl)) (He.free_ok X G (c.fact 39 (f := .free "str") rfl))
  have C_law_all_words := Ok.ok_law_all_words (P := P) (w := w) (K := K) (mg := mg) (base := base) F8 (He.glo_ok X G (c.fact 8 (f := .glo "_law_all_words") rfl)) (He.free_ok X G (c.fact 38 (f := .free "list") rfl)) (He.free_ok X G (c.fact 35 (f := .free "range") rfl))
  have C_law_power := Ok.ok_law_power (P := P) (w := w) (K := K) (mg := mg) (base := base) F9 (He.glo_ok X G (c.fact 9 (f := .glo "_law_power") rfl)) (He.free_ok X G (c.fact 35 (f := .free "range") rfl))
  have C_law_lists_hold := Ok.ok_law_lists_hold (P := P) (w := w) (K := K) (mg := mg) (base := base) F10 (He.glo_ok X G (c.fact 10 (f := .glo "_law_lists_hold") rfl)) C_law_next C_law_power C_law_strings C_words_to C_law_all_words (He.free_ok X G (c.fact 33 (f := .free "len") rfl)) (He.free_ok X G (c.fact 35 (f := .free "range") rfl))
  have C_order_key := Ok.ok_order_key (P := P) (w := w) (K := K) (mg := mg) (base := base) F11 (He.glo_ok X G (c.fact 11 (f := .glo "order_key") rfl)) (He.free_ok X G (c.fact 33 (f := .free "len") rfl))
  have C_in_order := Ok.ok_in_order (P := P) (w := w) (K := K) (mg := mg) (base := base) F12 (He.glo_ok X G (c.fact 12 (f := .glo "in_order") rfl)) (He.free_ok X G (c.fact 38 (f := .free "list") rfl)) (He.free_ok X G (c.fact 36 (f := .free "sorted") rfl)) C_order_key
  have C_check_word := Ok.ok_check_word (P := P) (w := w) (K := K) (mg := mg) (base := base) F13 (He.glo_ok X G (c.fact 13 (f := .glo "check_word") rfl)) (He.free_ok X G (c.fact 40 (f := .free "enumerate") rfl))
  have C_rank := Ok.ok_rank (P := P) (w := w) (K := K) (mg := mg) (base := base) F14 (He.glo_ok X G (c.fact 14 (f := .glo "rank") rfl)) C_check_letters C_check_word (He.free_ok X G (c.fact 33 (f := .free "len") rfl))
  have C_word_at := Ok.ok_word_at (P := P) (w := w) (K := K) (mg := mg) (base := base) F15 (He.glo_ok X G (c.fact 15 (f := .glo "word_at") rfl)) C_check_letters (He.free_ok X G (c.fact 41 (f := .free "divmod") rfl)) (He.free_ok X G (c.fact 33 (f := .free "len") rfl))
  have C_law_pick := Ok.ok_law_pick (P := P) (w := w) (K := K) (mg := mg) (base := base) F16 (He.glo_ok X G (c.fact 16 (f := .glo "_law_pick") rfl)) C_law_next (He.free_ok X G (c.fact 33 (f := .free "len") rfl))
  have C_law_integer := Ok.ok_law_integer (P := P) (w := w) (K := K) (mg := mg) (base := base) F17 (He.glo_ok X G (c.fact 17 (f := .glo "_law_integer") rfl)) (He.free_ok X G (c.fact 42 (f := .free "bool") rfl)) (He.free_ok X G (c.fact 34 (f := .free "int") rfl)) (He.free_ok X G (c.fact 37 (f := .free "isinstance") rfl))
  have C_law_same_text := Ok.ok_law_same_text (P := P) (w := w) (K := K) (mg := mg) (base := base) F18 (He.glo_ok X G (c.fact 18 (f := .glo "_law_same_text") rfl)) (He.free_ok X G (c.fact 37 (f := .free "isinstance") rfl)) (He.free_ok X G (c.fact 39 (f := .free "str") rfl))
  have C_law_in_order := Ok.ok_law_in_order (P := P) (w := w) (K := K) (mg := mg) (base := base) F19 (He.glo_ok X G (c.fact 19 (f := .glo "_law_in_order") rfl)) (He.free_ok X G (c.fact 33 (f := .free "len") rfl)) (He.free_ok X G (c.fact 36 (f := .free "sorted") rfl))
  have C_law_rank_due := Ok.ok_law_rank_due (P := P) (w := w) (K := K) (mg := mg) (base := base) F20 (He.glo_ok X G (c.fact 20 (f := .glo "_law_rank_due") rfl)) (He.free_ok X G (c.fact 33 (f := .free "len") rfl))
  have C_law_word_due := Ok.ok_law_word_due (P := P) (w := w) (K := K) (mg := mg) (base := base) F21 (He.glo_ok X G (c.fact 21 (f := .glo "_law_word_due") rfl)) (He.free_ok X G (c.fact 34 (f := .free "int") rfl)) (He.free_ok X G (c.fact 33 (f := .free "len") rfl)) (He.free_ok X G (c.fact 35 (f := .free "range") rfl))
  have C_law_numbers_of := Ok.ok_law_numbers_of (P := P) (w := w) (K := K) (mg := mg) (base := base) F22 (He.glo_ok X G (c.fact 22 (f := .glo "_law_numbers_of") rfl)) C_law_next C_law_rank_due (He.free_ok X G (c.fact 34 (f := .free "int") rfl)) (He.free_ok X G (c.fact 33 (f := .free "len") rfl)) (He.free_ok X G (c.fact 43 (f := .free "max") rfl)) (He.free_ok X G (c.fact 44 (f := .free "min") rfl)) (He.free_ok X G (c.fact 35 (f := .free "range") rfl))
  have C_law_order_holds := Ok.ok_law_order_holds (P := P) (w := w) (K := K) (mg := mg) (base := base) F23 (He.glo_ok X G (c.fact 23 (f := .glo "_law_order_holds") rfl)) C_rank C_law_rank_due C_law_integer C_law_numbers_of C_law_same_text C_word_at C_law_word_due C_law_word C_law_next C_law_pick C_law_in_order C_law_strings C_in_order (He.free_ok X G (c.fact 38 (f := .free "list") rfl)) (He.free_ok X G (c.fact 35 (f := .free "range") rfl))
  have C_windows := Ok.ok_windows (P := P) (w := w) (K := K) (mg := mg) (base := base) F24 (He.glo_ok X G (c.fact 24 (f := .glo "windows") rfl)) C_in_order (He.free_ok X G (c.fact 33 (f := .free "len") rfl)) (He.free_ok X G (c.fact 35 (f := .free "range") rfl))
  have C_law_windows_hold := Ok.ok_law_windows_hold (P := P) (w := w) (K := K) (mg := mg) (base := base) F25 (He.glo_ok X G (c.fact 25 (f := .glo "_law_windows_hold") rfl)) C_law_next C_law_in_order C_law_strings C_windows (He.free_ok X G (c.fact 33 (f := .free "len") rfl)) (He.free_ok X G (c.fact 43 (f := .free "max") rfl)) (He.free_ok X G (c.fact 35 (f := .free "range") rfl))
  have C_scattered_words := Ok.ok_scattered_words (P := P) (w := w) (K := K) (mg := mg) (base := base) F26 (He.glo_ok X G (c.fact 26 (f := .glo "scattered_words") rfl)) (He.free_ok X G (c.fact 33 (f := .free "len") rfl)) (He.free_ok X G (c.fact 38 (f := .free "list") rfl)) (He.free_ok X G (c.fact 36 (f := .free "sorted") rfl)) C_order_key
  have C_law_scattered_due := Ok.ok_law_scattered_due (P := P) (w := w) (K := K) (mg := mg) (base := base) F27 (He.glo_ok X G (c.fact 27 (f := .glo "_law_scattered_due") rfl)) C_law_in_order (He.free_ok X G (c.fact 33 (f := .free "len") rfl)) (He.free_ok X G (c.fact 38 (f := .free "list") rfl))
  have C_law_scattered_hold := Ok.ok_law_scattered_hold (P := P) (w := w) (K := K) (mg := mg) (base := base) F28 (He.glo_ok X G (c.fact 28 (f := .glo "_law_scattered_hold") rfl)) C_law_word C_law_next C_law_strings C_scattered_words C_law_scattered_due
  have C_class_of := Ok.ok_class_of (P := P) (w := w) (K := K) (mg := mg) (base := base) F29 (He.glo_ok X G (c.fact 29 (f := .glo "class_of") rfl)) (He.free_ok X G (c.fact 45 (f := .free "tuple") rfl))
  have C_law_class_holds := Ok.ok_law_class_holds (P := P) (w := w) (K := K) (mg := mg) (base := base) F30 (He.glo_ok X G (c.fact 30 (f := .glo "_law_class_holds") rfl)) C_law_next C_class_of C_law_integer (He.free_ok X G (c.fact 46 (f := .free "all") rfl)) (He.free_ok X G (c.fact 34 (f := .free "int") rfl)) (He.free_ok X G (c.fact 37 (f := .free "isinstance") rfl)) (He.free_ok X G (c.fact 33 (f := .free "len") rfl)) (He.free_ok X G (c.fact 38 (f := .free "list") rfl)) (He.free_ok X G (c.fact 45 (f := .free "tuple") rfl))
  exact Ok.ok_law (P := P) (w := w) (K := K) (mg := mg) (base := base) F31 (He.glo_ok X G (c.fact 31 (f := .glo "law") rfl)) C_law_start C_law_alphabet C_law_long_word C_law_order_holds C_law_lists_hold C_law_scattered_hold C_law_windows_hold C_law_class_holds
end Hd
open PySem PySem.W PySem.Calls PyProof.Rows
theorem PySem.Challenge.cw_treesfromyes_k01_words_at_greatest_sizes_holds : PySem.Challenge.rw_treesfromyes_k01_words_at_greatest_sizes.Holds := by
  w_on; o_law
  refine HandSHeadRun.head_any (r := OpenLaw.row PySem.Challenge.rw_treesfromyes_k01_words_at_greatest_sizes) (q := view (OpenLaw.row PySem.Challenge.rw_treesfromyes_k01_words_at_greatest_sizes).prog [39]) (H := Hd.hk) (ob := Hd.ob) (M := 4000) (loose := Hd.loose0 ++ Hd.loose1) (d := HandSHeadRun.topDef (OpenLaw.row PySem.Challenge.rw_treesfromyes_k01_words_at_greatest_sizes).prog 39) (kwd := []) Hd.ob_eq
    (by kernel_rfl) (fun s => by kernel_rfl) Hd.run (by kernel_rfl) (by kernel_rfl) (by kernel_rfl) (by rfl) (by first | assumption | decide +kernel) (by decide +kernel) ⟨rfl, rfl, rfl, rfl, rfl, by decide +kernel⟩ ?hw ?hc
  case hw => w_witness2
  case hc =>
    refine L2.walk_ofE (l := PySem.Challenge.rw_treesfromyes_k01_words_at_greatest_sizes) (n := 63) (k := 7) (x := "script") (CX := L2.CX0) rfl (by decide) (by kernel_rfl) ⟨rfl, by decide, by decide⟩ ?F (fun _ _ _ _ z => z)
    intro w mg fa h Y G hmg0
    obtain ⟨K, KX, c⟩ := Y
    have hmg : mg ("law" : PySem.Str) = some (.ref fa) := by
      have e : (HandSHeadRun.topDef (OpenLaw.row PySem.Challenge.rw_treesfromyes_k01_words_at_greatest_sizes).prog 39).name = ("law" : PySem.Str) := by kernel_rfl
      rw [← e]
      exact hmg0
    obtain ⟨fd, hb, hF⟩ := Hd.facts (P := (PySem.Challenge.rw_treesfromyes_k01_words_at_greatest_sizes).prog) (w := w) KX G hmg c
    exact ⟨K, fd, Co.sp_law K, KX, hb, fun H a ns hl _ hS => ⟨a, ns, rfl, hS, hl, fun _ => rfl⟩, hF⟩
