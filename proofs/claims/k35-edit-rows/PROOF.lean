import PyProof.Rows.All
import Wide.All
import OpenK.AllK
import Wide.FinOn
import HandS.ForMost
import HandS.Wide
import HandS.Star
import HandS.Style
import HandS.OwnEq
import HandS.Defaults
import HandS.IsInst
import HandS.EndBits
import HandS.SlotsOwn
import PyProof.InstNe
import KE.KOpsOwn
import PySem.Challenge.RW_typingroom_k35_whole_edit_rows
set_option Elab.async false
set_option linter.all false
set_option maxRecDepth 100000
set_option maxHeartbeats 4000000
/-! What a look at an expression's head tells (proved once for all expressions, so that no text is unfolded where it is used) -/
namespace Gd
open PySem L2
def noStar : Expr → Bool
  | .Starred .. => false
  | _ => true
theorem starEach_plain {e : Expr} {es : List Expr} {env : Env} (h : noStar e = true) : starEach (e :: es) env = (false, eval e env) :: starEach es env := by
  cases e <;> first | rfl | cases h
theorem starEach_star {e : Expr} {p : Pos} {es : List Expr} {env : Env} : starEach (.Starred e p :: es) env = (true, eval e env) :: starEach es env := rfl
def noStars : List Expr → Bool
  | [] => true
  | e :: es => noStar e && noStars es
theorem backTo_plain {pos : Pos} {env : Env} : ∀ {es : List Expr}, noStars es = true → (backTo pos (starEach es env)).any (·.1) = false
  | [], _ => rfl
  | e :: es, h => by
    have h1 : noStar e = true ∧ noStars es = true := by simpa [noStars] using h
    rw [starEach_plain h1.1]
    show (false || (backTo pos (starEach es env)).any (·.1)) = false
    rw [backTo_plain h1.2]
    rfl
def noCall0 : Expr → Bool
  | .Call (.Name _ _) [] [] _ => false
  | _ => true
theorem attributeBase_plain {o : Expr} {f : Str} {env : Env} {whole : Sem Value} (h : noCall0 o = true) : attributeBase o f env whole = whole := by
  cases o with
  | Call g as ks p =>
    cases g with
    | Name id q =>
      cases as with
      | nil =>
        cases ks with
        | nil => cases h
        | cons _ _ => rfl
      | cons _ _ => rfl
    | _ => rfl
  | _ => rfl
def plainTest : Expr → Bool
  | .UnaryOp .Not .. => false
  | .BoolOp .. => false
  | .IfExp .. => false
  | .Compare .. => false
  | _ => true
theorem isTrue_val {e : Expr} {env : Env} (h : plainTest e = true) : ∀ whole, isTrue e env whole = (do let v ← whole; standAt e.pos; holding [v] (truthy v)) := by
  intro whole
  cases e with
  | UnaryOp op x p => cases op <;> first | rfl | cases h
  | _ => first | rfl | cases h
def noCompr : Expr → Bool
  | .ListComp .. => false
  | .SetComp .. => false
  | .DictComp .. => false
  | _ => true
theorem swaps_plain {e : Expr} {t : Option Expr} {l : Nat} {env : Env} (h : noCompr e = true) : swapsWith e t l env = pure false := by
  cases e <;> first | rfl | cases h
theorem sole_plain {e t : Expr} {l : Nat} {env : Env} (h : noCompr e = true) : swapsWithSole [t] e l env = pure false := swaps_plain (t := some t) h
def noSet : Expr → Bool
  | .Set .. => false
  | _ => true
theorem folded_plain {e : Expr} {env : Env} (h : noSet e = true) : ∀ x, foldedSetIterable e env x = pure x := by
  intro x
  cases e <;> first | rfl | cases h
theorem marks_plain {op : CmpOp} {e : Expr} (h : noSet e = true) : behindInMarks op e = false := by
  cases e <;> first | rfl | cases h
def noSlice : Expr → Bool
  | .Slice .. => false
  | _ => true
theorem plainIx_of {b : Expr} (h : noSlice b = true) : PlainIx b := by
  intro o i
  cases b <;> first | rfl | cases h
end Gd

/-! Gd: what a def does, told over plain data. A Slot is what is known of a value; a frozen heap G beneath the heap H; owned objects O, that the body may change. -/
namespace Gd
open PySem L2
abbrev SS := L2.St

abbrev Fg := PySem.W.Frag

/-- what is known of a value, kept when the frozen heap grows -/
structure Slot where
  ok : Fg → Hp → V → Prop
  mono : ∀ {K : Fg} {G G' : Hp} {v : V}, Same G G' → ok K G v → ok K G' v

def sVal (x : V) : Slot := ⟨fun _ _ v => v = x, fun _ h => h⟩
abbrev sInt (i : Int) : Slot := sVal (.int i)
abbrev sBl (b : Bool) : Slot := sVal (.bl b)
abbrev sStr (x : Str) : Slot := sVal (.str x)
abbrev sNon : Slot := sVal .non
abbrev sRef (a : Addr) : Slot := sVal (.ref a)

theorem sqT_mono {K : Fg} {G G' : Hp} {a : Addr} {xs : List V} (e : Same G G') (h : SqT K G a xs) : SqT K G' a xs := by
  rcases h with (h | ⟨o, h⟩) | h
  · exact .inl (.inl (e _ _ h))
  · exact .inl (.inr ⟨o, e _ _ h⟩)
  · exact .inr h

inductive All2 (K : Fg) (G : Hp) {α : Type} (R : α → Slot) : List V → List α → Prop
  | nil : All2 K G R [] []
  | cons {v : V} {a : α} {vs : List V} {as : List α} : (R a).ok K G v → All2 K G R vs as → All2 K G R (v :: vs) (a :: as)

section
variable {K : Fg} {G G' : Hp} {α β : Type} {R : α → Slot}
theorem All2.mono (e : Same G G') : ∀ {vs : List V} {as : List α}, All2 K G R vs as → All2 K G' R vs as
  | _, _, .nil => .nil
  | _, _, .cons h t => .cons ((R _).mono e h) (t.mono e)
theorem All2.length : ∀ {vs : List V} {as : List α}, All2 K G R vs as → vs.length = as.length
  | _, _, .nil => rfl
  | _, _, .cons _ t => by simp [t.length]
theorem All2.append : ∀ {vs ws : List V} {as bs : List α}, All2 K G R vs as → All2 K G R ws bs → All2 K G R (vs ++ ws) (as ++ bs)
  | _, _, _, _, .nil, h => h
  | _, _, _, _, .cons h t, q => .cons h (t.append q)
theorem All2.get : ∀ {vs : List V} {as : List α} {i : Nat} {a : α}, All2 K G R vs as → as[i]? = some a → ∃ v, vs[i]? = some v ∧ (R a).ok K G v
  | _, _, _, _, .nil, h => by simp at h
  | _, _, 0, _, .cons h t, e => by simp at e; subst e; exact ⟨_, rfl, h⟩
  | _, _, i + 1, a, .cons h t, e => by
    obtain ⟨v, h1, h2⟩ := t.get (i := i) (a := a) (by simpa using e)
    exact ⟨v, by simpa using h1, h2⟩
theorem All2.get' : ∀ {vs : List V} {as : List α} {i : Nat} {v : V}, All2 K G R vs as → vs[i]? = some v → ∃ a, as[i]? = some a ∧ (R a).ok K G v
  | _, _, _, _, .nil, h => by simp at h
  | _, _, 0, _, .cons h t, e => by simp at e; subst e; exact ⟨_, rfl, h⟩
  | _, _, i + 1, v, .cons h t, e => by
    obtain ⟨a, h1, h2⟩ := t.get' (i := i) (v := v) (by simpa using e)
    exact ⟨a, by simpa using h1, h2⟩
theorem All2.take : ∀ {vs : List V} {as : List α} (n : Nat), All2 K G R vs as → All2 K G R (vs.take n) (as.take n)
  | _, _, 0, _ => .nil
  | _, _, _ + 1, .nil => .nil
  | _, _, n + 1, .cons h t => .cons h (t.take n)
theorem All2.drop : ∀ {vs : List V} {as : List α} (n : Nat), All2 K G R vs as → All2 K G R (vs.drop n) (as.drop n)
  | _, _, 0, h => h
  | _, _, _ + 1, .nil => .nil
  | _, _, n + 1, .cons _ t => t.drop n
theorem All2.reverse {vs : List V} {as : List α} (h : All2 K G R vs as) : All2 K G R vs.reverse as.reverse := by
  induction h with
  | nil => exact .nil
  | cons h _ ih =>
    rw [List.reverse_cons, List.reverse_cons]
    exact ih.append (.cons h .nil)
theorem All2.set {x : V} {a : α} (r : (R a).ok K G x) : ∀ {vs : List V} {as : List α} (i : Nat), All2 K G R vs as → All2 K G R (vs.set i x) (as.set i a)
  | _, _, _, .nil => .nil
  | _, _, 0, .cons _ t => .cons r t
  | _, _, i + 1, .cons q t => .cons q (t.set r i)
theorem All2.dropLast : ∀ {vs : List V} {as : List α}, All2 K G R vs as → All2 K G R vs.dropLast as.dropLast
  | _, _, .nil => .nil
  | _, _, .cons _ .nil => .nil
  | _, _, .cons h (.cons h2 t) => .cons h (All2.dropLast (.cons h2 t))
/-- exact values -/
theorem All2.vals {f : α → V} : ∀ {vs : List V} {as : List α}, All2 K G (fun a => sVal (f a)) vs as → vs = as.map f
  | _, _, .nil => rfl
  | _, _, .cons h t => by
    have h : _ = _ := h
    rw [h, t.vals]
    rfl
theorem All2.ofVals {f : α → V} : ∀ as : List α, All2 K G (fun a => sVal (f a)) (as.map f) as
  | [] => .nil
  | a :: as => .cons rfl (All2.ofVals as)
theorem All2.imp {S : β → Slot} {f : α → β} (h : ∀ v a, (R a).ok K G v → (S (f a)).ok K G v) : ∀ {vs : List V} {as : List α}, All2 K G R vs as → All2 K G S vs (as.map f)
  | _, _, .nil => .nil
  | _, _, .cons q t => .cons (h _ _ q) (t.imp h)
end

/-- values by slots, one each -/
inductive AllS (K : Fg) (G : Hp) : List V → List Slot → Prop
  | nil : AllS K G [] []
  | cons {v : V} {s : Slot} {vs : List V} {ss : List Slot} : s.ok K G v → AllS K G vs ss → AllS K G (v :: vs) (s :: ss)
theorem AllS.mono {K : Fg} {G G' : Hp} (e : Same G G') : ∀ {vs : List V} {ss : List Slot}, AllS K G vs ss → AllS K G' vs ss
  | _, _, .nil => .nil
  | _, _, .cons h t => .cons (Slot.mono _ e h) (t.mono e)
theorem AllS.length {K : Fg} {G : Hp} : ∀ {vs : List V} {ss : List Slot}, AllS K G vs ss → vs.length = ss.length
  | _, _, .nil => rfl
  | _, _, .cons _ t => by simp [t.length]

/-- a list that nobody changes any more -/
def sLst {α : Type} (R : α → Slot) (as : List α) : Slot :=
  ⟨fun K G v => ∃ p vs, v = .ref p ∧ G p = some (.lst vs) ∧ All2 K G R vs as, fun e ⟨p, vs, h, q, r⟩ => ⟨p, vs, h, e _ _ q, r.mono e⟩⟩
/-- a list, also one that is known to the model alone (the script) -/
def sLstK {α : Type} (R : α → Slot) (as : List α) : Slot :=
  ⟨fun K G v => ∃ p vs, v = .ref p ∧ SqL K G p vs ∧ All2 K G R vs as, fun e ⟨p, vs, h, q, r⟩ => ⟨p, vs, h, e.seq q, r.mono e⟩⟩
/-- a tuple of things of one kind -/
def sTupl {α : Type} (R : α → Slot) (as : List α) : Slot :=
  ⟨fun K G v => ∃ p vs, v = .ref p ∧ SqT K G p vs ∧ All2 K G R vs as, fun e ⟨p, vs, h, q, r⟩ => ⟨p, vs, h, sqT_mono e q, r.mono e⟩⟩
/-- a tuple, place by place -/
def sTup (ss : List Slot) : Slot :=
  ⟨fun K G v => ∃ p vs, v = .ref p ∧ SqT K G p vs ∧ AllS K G vs ss, fun e ⟨p, vs, h, q, r⟩ => ⟨p, vs, h, sqT_mono e q, r.mono e⟩⟩
def sOpt {α : Type} (R : α → Slot) : Option α → Slot
  | none => sNon
  | some a => R a

/-! ### owned objects -/
structure Own where
  p : Addr
  φ : Fg → Hp → HO → Prop
  mono : ∀ {K : Fg} {G G' : Hp} {o : HO}, Same G G' → φ K G o → φ K G' o
def oLst {α : Type} (p : Addr) (R : α → Slot) (as : List α) : Own :=
  ⟨p, fun K G o => ∃ vs, o = .lst vs ∧ All2 K G R vs as, fun e ⟨vs, h, r⟩ => ⟨vs, h, r.mono e⟩⟩
/-- a list, place by place -/
def oLstS (p : Addr) (ss : List Slot) : Own :=
  ⟨p, fun K G o => ∃ vs, o = .lst vs ∧ AllS K G vs ss, fun e ⟨vs, h, r⟩ => ⟨vs, h, r.mono e⟩⟩

/-- where a body began: the objects it may change, the frozen heap and the heap at its entry -/
structure Bs where
  A : List Addr
  G : Hp
  H : Hp

/-- the heaps behind B -/
structure Stp (B : Bs) (G H : Hp) : Prop where
  gh : Same G H
  ex : Same B.G G
  fr : ∀ p o, B.H p = some o → p ∉ B.A → H p = some o
  th : ∀ p o, B.H p = some o → ∃ o', H p = some o'
  nf : ∀ p o, B.H p = some o → B.G p = none → G p = none

def EnvOk (K : Fg) (G : Hp) (σ : SS) (δ : List (Option Slot)) : Prop := ∀ (i : Nat) (s : Slot), δ[i]? = some (some s) → ∃ v, σ[i]? = some (some v) ∧ s.ok K G v

structure Sta (K : Fg) (B : Bs) (δ : List (Option Slot)) (O : List Own) (σ : SS) (G H : Hp) : Prop where
  stp : Stp B G H
  env : EnvOk K G σ δ
  len : σ.length = δ.length
  own : ∀ w ∈ O, ∃ o, H w.p = some o ∧ G w.p = none ∧ w.φ K G o
  new : ∀ w ∈ O, w.p ∈ B.A ∨ B.H w.p = none
  nd : (O.map (·.p)).Nodup

section
variable {K : Fg} {B : Bs} {δ : List (Option Slot)} {O O' O2 : List Own} {σ : SS} {G H G' H' : Hp}
theorem EnvOk.mono (e : Same G G') (h : EnvOk K G σ δ) : EnvOk K G' σ δ := fun i s q => let ⟨v, a, b⟩ := h i s q; ⟨v, a, s.mono e b⟩
theorem Stp.refl {A : List Addr} (h : Same G H) : Stp ⟨A, G, H⟩ G H := ⟨h, fun _ _ q => q, fun _ _ q _ => q, fun _ o q => ⟨o, q⟩, fun _ _ _ q => q⟩
/-- a step that lays one new object into both heaps -/
theorem Stp.new {p : Addr} {o : HO} (s : Stp B G H) (hp : H p = none) : Stp B (upd G p o) (upd H p o) := by
  have hne : ∀ q u, H q = some u → q ≠ p := fun q u e => ne_of_none e hp
  refine ⟨fun q u e => ?_, fun q u e => ?_, fun q u e ha => ?_, fun q u e => ?_, fun q u e ng => ?_⟩
  · by_cases hq : q = p
    · subst hq; rw [upd_same] at e ⊢; exact e
    · rw [upd_ne hq] at e ⊢; exact s.gh _ _ e
  · have e1 := s.ex _ _ e
    rw [upd_ne (hne _ _ (s.gh _ _ e1))]; exact e1
  · have e1 := s.fr _ _ e ha
    rw [upd_ne (hne _ _ e1)]; exact e1
  · obtain ⟨o', e1⟩ := s.th _ _ e
    exact ⟨o', by rw [upd_ne (hne _ _ e1)]; exact e1⟩
  · obtain ⟨o', e1⟩ := s.th _ _ e
    rw [upd_ne (hne _ _ e1)]; exact s.nf _ _ e ng
theorem gnone (s : Stp B G H) {p : Addr} (hp : H p = none) : G p = none := by
  cases e : G p with
  | none => rfl
  | some o => rw [s.gh _ _ e] at hp; cases hp
theorem same_new {p : Addr} {o : HO} (hp : G p = none) : Same G (upd G p o) := fun q u e => by rw [upd_ne (ne_of_none e hp)]; exact e

/-- a new frozen object -/
theorem Sta.freshG {p : Addr} {o : HO} (s : Sta K B δ O σ G H) (hp : H p = none) : Sta K B δ O σ (upd G p o) (upd H p o) := by
  have sg := same_new (o := o) (gnone s.stp hp)
  refine ⟨s.stp.new hp, s.env.mono sg, s.len, fun w hw => ?_, s.new, s.nd⟩
  obtain ⟨u, h1, h2, h3⟩ := s.own w hw
  have hn : w.p ≠ p := ne_of_none h1 hp
  exact ⟨u, by rw [upd_ne hn]; exact h1, by rw [upd_ne hn]; exact h2, w.mono sg h3⟩
/-- a new owned object -/
theorem Sta.freshO {p : Addr} {o : HO} {w : Own} (s : Sta K B δ O σ G H) (hp : H p = none) (hw : w.p = p) (hφ : w.φ K G o) : Sta K B δ (w :: O) σ G (upd H p o) := by
  have hne : ∀ q u, H q = some u → q ≠ p := fun q u e => ne_of_none e hp
  refine ⟨⟨fun q u e => ?_, s.stp.ex, fun q u e ha => ?_, fun q u e => ?_, s.stp.nf⟩, s.env, s.len, fun v hv => ?_, fun v hv => ?_, ?_⟩
  · have e1 := s.stp.gh _ _ e
    rw [upd_ne (hne _ _ e1)]; exact e1
  · have e1 := s.stp.fr _ _ e ha
    rw [upd_ne (hne _ _ e1)]; exact e1
  · obtain ⟨o', e1⟩ := s.stp.th _ _ e
    exact ⟨o', by rw [upd_ne (hne _ _ e1)]; exact e1⟩
  · rcases List.mem_cons.mp hv with rfl | hv
    · subst hw
      exact ⟨o, upd_same, gnone s.stp hp, hφ⟩
    · obtain ⟨u, h1, h2, h3⟩ := s.own v hv
      exact ⟨u, by rw [upd_ne (hne _ _ h1)]; exact h1, h2, h3⟩
  · rcases List.mem_cons.mp hv with rfl | hv
    · right
      cases e : B.H v.p with
      | none => rfl
      | some u =>
        obtain ⟨o', e1⟩ := s.stp.th _ _ e
        rw [hw, hp] at e1; cases e1
    · exact s.new v hv
  · rw [List.map_cons, List.nodup_cons]
    refine ⟨fun hm => ?_, s.nd⟩
    obtain ⟨v, hv, e⟩ := List.mem_map.mp hm
    obtain ⟨u, h1, _, _⟩ := s.own v hv
    rw [e, hw, hp] at h1; cases h1
/-- an owned object, new since the entry, is frozen -/
theorem Sta.freeze {w : Own} (s : Sta K B δ (w :: O) σ G H) (hb : B.H w.p = none) : ∃ o, H w.p = some o ∧ w.φ K G o ∧ Sta K B δ O σ (upd G w.p o) H := by
  obtain ⟨o, h1, h2, h3⟩ := s.own w List.mem_cons_self
  have sg := same_new (o := o) h2
  have nd := List.nodup_cons.mp (by have := s.nd; rwa [List.map_cons] at this)
  refine ⟨o, h1, h3, ⟨⟨fun q u e => ?_, fun q u e => ?_, s.stp.fr, s.stp.th, fun q u e ng => ?_⟩, s.env.mono sg, s.len, fun v hv => ?_, fun v hv => s.new v (List.mem_cons_of_mem _ hv), nd.2⟩⟩
  · by_cases hq : q = w.p
    · subst hq; rw [upd_same] at e; cases e; exact h1
    · rw [upd_ne hq] at e; exact s.stp.gh _ _ e
  · exact sg _ _ (s.stp.ex _ _ e)
  · have hq : q ≠ w.p := fun z => by rw [z, hb] at e; cases e
    rw [upd_ne hq]; exact s.stp.nf _ _ e ng
  · obtain ⟨u, g1, g2, g3⟩ := s.own v (List.mem_cons_of_mem _ hv)
    have hq : v.p ≠ w.p := fun z => nd.1 (by rw [← z]; exact List.mem_map.mpr ⟨v, hv, rfl⟩)
    exact ⟨u, g1, by rw [upd_ne hq]; exact g2, v.mono sg g3⟩
/-- an owned object is changed -/
theorem Sta.put {w w' : Own} {o : HO} (s : Sta K B δ (w :: O) σ G H) (hw : w'.p = w.p) (hφ : w'.φ K G o) : Sta K B δ (w' :: O) σ G (upd H w.p o) := by
  obtain ⟨o0, h1, h2, h3⟩ := s.own w List.mem_cons_self
  have nd := List.nodup_cons.mp (by have := s.nd; rwa [List.map_cons] at this)
  have gne : ∀ q u, G q = some u → q ≠ w.p := fun q u e z => by rw [z, h2] at e; cases e
  refine ⟨⟨fun q u e => ?_, s.stp.ex, fun q u e ha => ?_, fun q u e => ?_, s.stp.nf⟩, s.env, s.len, fun v hv => ?_, fun v hv => ?_, ?_⟩
  · rw [upd_ne (gne _ _ e)]; exact s.stp.gh _ _ e
  · have hq : q ≠ w.p := fun z => by
      rcases s.new w List.mem_cons_self with k | k
      · exact ha (by rw [z]; exact k)
      · rw [z, k] at e; cases e
    rw [upd_ne hq]; exact s.stp.fr _ _ e ha
  · by_cases hq : q = w.p
    · exact ⟨o, by rw [hq]; exact upd_same⟩
    · rw [upd_ne hq]; exact s.stp.th _ _ e
  · rcases List.mem_cons.mp hv with rfl | hv
    · exact ⟨o, by rw [hw]; exact upd_same, by rw [hw]; exact h2, hφ⟩
    · obtain ⟨u, g1, g2, g3⟩ := s.own v (List.mem_cons_of_mem _ hv)
      have hq : v.p ≠ w.p := fun z => nd.1 (by rw [← z]; exact List.mem_map.mpr ⟨v, hv, rfl⟩)
      exact ⟨u, by rw [upd_ne hq]; exact g1, g2, g3⟩
  · rcases List.mem_cons.mp hv with rfl | hv
    · rw [hw]; exact s.new w List.mem_cons_self
    · exact s.new v (List.mem_cons_of_mem _ hv)
  · rw [List.map_cons, hw]; exact List.nodup_cons.mpr nd
theorem Sta.perm (s : Sta K B δ O σ G H) (h : ∀ w ∈ O', w ∈ O) (nd : (O'.map (·.p)).Nodup) : Sta K B δ O' σ G H :=
  ⟨s.stp, s.env, s.len, fun w hw => s.own w (h w hw), fun w hw => s.new w (h w hw), nd⟩
/-- a slot is set -/
theorem Sta.set {i : Nat} {v : V} {sl : Slot} (s : Sta K B δ O σ G H) (h : sl.ok K G v) : Sta K B (δ.set i (some sl)) O (σ.set i (some v)) G H := by
  refine ⟨s.stp, fun j t e => ?_, by rw [List.length_set, List.length_set]; exact s.len, s.own, s.new, s.nd⟩
  by_cases hj : i = j
  · subst hj
    by_cases hi : i < δ.length
    · rw [List.getElem?_set_self hi] at e
      cases e
      exact ⟨v, by rw [List.getElem?_set_self (by rw [s.len]; exact hi)], h⟩
    · rw [List.getElem?_eq_none (by rw [List.length_set]; omega)] at e; cases e
  · rw [List.getElem?_set_ne hj] at e
    obtain ⟨u, a, b⟩ := s.env j t e
    exact ⟨u, by rw [List.getElem?_set_ne hj]; exact a, b⟩
theorem Sta.weak {δ' : List (Option Slot)} (s : Sta K B δ O σ G H) (hl : δ'.length = δ.length) (h : ∀ (i : Nat) (t : Slot), δ'[i]? = some (some t) → ∃ u : Slot, δ[i]? = some (some u) ∧ ∀ K G v, u.ok K G v → t.ok K G v) : Sta K B δ' O σ G H :=
  ⟨s.stp, fun i t e => let ⟨u, e1, f⟩ := h i t e; let ⟨v, a, b⟩ := s.env i u e1; ⟨v, a, f _ _ _ b⟩, s.len.trans hl.symm, s.own, s.new, s.nd⟩
/-- an inner run ends: what it may change is owned here -/
theorem Stp.trans {A : List Addr} (s : Stp B G H) (t : Stp ⟨A, G, H⟩ G' H') (ha : ∀ p ∈ A, p ∈ B.A ∨ B.H p = none) : Stp B G' H' := by
  refine ⟨t.gh, fun q u e => t.ex _ _ (s.ex _ _ e), fun q u e hn => ?_, fun q u e => ?_, fun q u e ng => ?_⟩
  · refine t.fr _ _ (s.fr _ _ e hn) fun hq => ?_
    rcases ha q hq with k | k
    · exact hn k
    · rw [e] at k; cases k
  · obtain ⟨o, e1⟩ := s.th _ _ e
    exact t.th _ _ e1
  · obtain ⟨o, e1⟩ := s.th _ _ e
    exact t.nf _ _ e1 (s.nf _ _ e ng)
/-- behind an inner run that may change the objects W -/
theorem Sta.ran {W W' : List Own} (s : Sta K B δ (W ++ O) σ G H) (t : Stp ⟨W.map (·.p), G, H⟩ G' H') (hp : W'.map (·.p) = W.map (·.p))
    (ow : ∀ w ∈ W', ∃ o, H' w.p = some o ∧ G' w.p = none ∧ w.φ K G' o) : Sta K B δ (W' ++ O) σ G' H' := by
  have nd := s.nd
  rw [List.map_append] at nd
  refine ⟨s.stp.trans t fun p hp' => ?_, s.env.mono t.ex, s.len, fun w hw => ?_, fun w hw => ?_, ?_⟩
  · obtain ⟨w, hw, e⟩ := List.mem_map.mp hp'
    rw [← e]; exact s.new w (List.mem_append_left _ hw)
  · rcases List.mem_append.mp hw with hw | hw
    · exact ow w hw
    · obtain ⟨o, h1, h2, h3⟩ := s.own w (List.mem_append_right _ hw)
      have hn : w.p ∉ W.map (·.p) := fun z => (List.nodup_append.mp nd).2.2 _ z _ (List.mem_map.mpr ⟨w, hw, rfl⟩) rfl
      exact ⟨o, t.fr _ _ h1 hn, t.nf _ _ h1 h2, w.mono t.ex h3⟩
  · rcases List.mem_append.mp hw with hw | hw
    · have : w.p ∈ W.map (·.p) := by rw [← hp]; exact List.mem_map.mpr ⟨w, hw, rfl⟩
      obtain ⟨v, hv, e⟩ := List.mem_map.mp this
      rw [← e]; exact s.new v (List.mem_append_left _ hv)
    · exact s.new w (List.mem_append_right _ hw)
  · rw [List.map_append, hp]; exact nd
end

/-! ### the weakest readings (structures: a def would be unfolded, and the text run, by whoever looks at a goal's head) -/
structure wE (X : Cx) (e : Expr) (σ : SS) (H : Hp) (Q : VK) : Prop where
  run : ∀ (pins : List (Addr × Obj)) (s : Shared), Inv X pins σ H s → wpAny (model X.prog X.w) X.A (eval e X.env) (EP X pins σ Q) X.xe s
structure wT (X : Cx) (e : Expr) (σ : SS) (H : Hp) (Q : Bool → Hp → Prop) : Prop where
  run : ∀ (pins : List (Addr × Obj)) (s : Shared), Inv X pins σ H s → wpAny (model X.prog X.w) X.A (isTrue e X.env (eval e X.env)) (TP X pins σ Q) X.xe s
structure wA (X : Cx) (es : List Expr) (σ : SS) (H : Hp) (Q : List V → Hp → Prop) : Prop where
  run : ∀ (pos : Pos) (pins : List (Addr × Obj)) (s : Shared), Inv X pins σ H s → wpAny (model X.prog X.w) X.A (spliced (backTo pos (starEach es X.env))) (AP X pins σ Q) X.xe s
structure wS (X : Cx) (st : Stmt) (D : Ends) (σ : SS) (H : Hp) : Prop where
  run : ∀ (pins : List (Addr × Obj)) (s : Shared), Inv X pins σ H s → wpAny (model X.prog X.w) X.A (exec st X.env) (SP X pins D) X.xe s
structure wSs (X : Cx) (st : List Stmt) (D : Ends) (σ : SS) (H : Hp) : Prop where
  run : ∀ (pins : List (Addr × Obj)) (s : Shared), Inv X pins σ H s → wpAny (model X.prog X.w) X.A (execs st X.env) (SP X pins D) X.xe s
section
variable {X : Cx} {e : Expr} {es : List Expr} {st : Stmt} {sts : List Stmt} {σ : SS} {H : Hp}
theorem pe_w : PE X e (wE X e) := ⟨fun pins s _ _ _ I h => h.run pins s I⟩
theorem pt_w : PT X e (wT X e) := ⟨fun pins s _ _ _ I h => h.run pins s I⟩
theorem pa_w : PA X es (wA X es) := ⟨fun pos pins s _ _ _ I h => h.run pos pins s I⟩
theorem ps_w : PS X st (wS X st) := ⟨fun pins s _ _ _ I h => h.run pins s I⟩
theorem pss_w : PSs X sts (wSs X sts) := ⟨fun pins s _ _ _ I h => h.run pins s I⟩
theorem e_of {t : TE} {Q : VK} (h : PE X e t) (q : t σ H Q) : wE X e σ H Q := ⟨fun pins s I => h.run pins s σ H Q I q⟩
theorem t_of {t : TT} {Q : Bool → Hp → Prop} (h : PT X e t) (q : t σ H Q) : wT X e σ H Q := ⟨fun pins s I => h.run pins s σ H Q I q⟩
theorem a_of {t : TA} {Q : List V → Hp → Prop} (h : PA X es t) (q : t σ H Q) : wA X es σ H Q := ⟨fun pos pins s I => h.run pos pins s σ H Q I q⟩
theorem s_of {t : TS} {D : Ends} (h : PS X st t) (q : t D σ H) : wS X st D σ H := ⟨fun pins s I => h.run pins s σ H D I q⟩
theorem ss_of {t : TS} {D : Ends} (h : PSs X sts t) (q : t D σ H) : wSs X sts D σ H := ⟨fun pins s I => h.run pins s σ H D I q⟩
end

/-! ### the judgements over data -/
/-- e gives a value of which s is known; the owned objects are then O' -/
def E (X : Cx) (δ : List (Option Slot)) (O : List Own) (e : Expr) (s : Slot) (O' : List Own) : Prop :=
  ∀ (B : Bs) (σ : SS) (G H : Hp) (Q : VK), Sta X.K B δ O σ G H → (∀ v G' H', Same G G' → Sta X.K B δ O' σ G' H' → s.ok X.K G' v → Q v H') → wE X e σ H Q
/-- e makes an object of which φ is known -/
def EW (X : Cx) (δ : List (Option Slot)) (O : List Own) (e : Expr) (φ : Addr → Own) (O' : List Own) : Prop :=
  ∀ (B : Bs) (σ : SS) (G H : Hp) (Q : VK), Sta X.K B δ O σ G H → (∀ p G' H', B.H p = none → Same G G' → Sta X.K B δ (φ p :: O') σ G' H' → Q (.ref p) H') → wE X e σ H Q
def EA (X : Cx) (δ : List (Option Slot)) (O : List Own) (es : List Expr) (ss : List Slot) (O' : List Own) : Prop :=
  ∀ (B : Bs) (σ : SS) (G H : Hp) (Q : List V → Hp → Prop), Sta X.K B δ O σ G H → (∀ vs G' H', Same G G' → Sta X.K B δ O' σ G' H' → AllS X.K G' vs ss → Q vs H') → wA X es σ H Q
/-- a test -/
def T (X : Cx) (δ : List (Option Slot)) (O : List Own) (e : Expr) (b : Bool) (O' : List Own) : Prop :=
  ∀ (B : Bs) (σ : SS) (G H : Hp) (Q : Bool → Hp → Prop), Sta X.K B δ O σ G H → (∀ G' H', Same G G' → Sta X.K B δ O' σ G' H' → Q b H') → wT X e σ H Q
/-- statements, to the ends D -/
def J (X : Cx) (B : Bs) (δ : List (Option Slot)) (O : List Own) (st : List Stmt) (D : Ends) : Prop :=
  ∀ (σ : SS) (G H : Hp), Sta X.K B δ O σ G H → wSs X st D σ H
/-- an operation, a call, by values -/
def OpD (K : Fg) (r : R2) (s1 s2 s3 : Slot) : Prop :=
  ∀ (B : Bs) (δ : List (Option Slot)) (O : List Own) (σ : SS) (G H : Hp) (Q : VK) (x y : V), Sta K B δ O σ G H → s1.ok K G x → s2.ok K G y →
    (∀ v G' H', Same G G' → Sta K B δ O σ G' H' → s3.ok K G' v → Q v H') → r x y H Q
def OpW (K : Fg) (r : R2) (s1 s2 : Slot) (φ : Addr → Own) : Prop :=
  ∀ (B : Bs) (δ : List (Option Slot)) (O : List Own) (σ : SS) (G H : Hp) (Q : VK) (x y : V), Sta K B δ O σ G H → s1.ok K G x → s2.ok K G y →
    (∀ p G' H', B.H p = none → Same G G' → Sta K B δ (φ p :: O) σ G' H' → Q (.ref p) H') → r x y H Q
def ArD (K : Fg) (r : List V → Hp → VK → Prop) (ss : List Slot) (s3 : Slot) : Prop :=
  ∀ (B : Bs) (δ : List (Option Slot)) (O : List Own) (σ : SS) (G H : Hp) (Q : VK) (xs : List V), Sta K B δ O σ G H → AllS K G xs ss →
    (∀ v G' H', Same G G' → Sta K B δ O σ G' H' → s3.ok K G' v → Q v H') → r xs H Q
def ArW (K : Fg) (r : List V → Hp → VK → Prop) (ss : List Slot) (φ : Addr → Own) : Prop :=
  ∀ (B : Bs) (δ : List (Option Slot)) (O : List Own) (σ : SS) (G H : Hp) (Q : VK) (xs : List V), Sta K B δ O σ G H → AllS K G xs ss →
    (∀ p G' H', B.H p = none → Same G G' → Sta K B δ (φ p :: O) σ G' H' → Q (.ref p) H') → r xs H Q
def OpE (X : Cx) (f : Value → Value → Sem Value) (s1 s2 s3 : Slot) : Prop := ∃ r, OpR X f r ∧ OpD X.K r s1 s2 s3
def OpEW (X : Cx) (f : Value → Value → Sem Value) (s1 s2 : Slot) (φ : Addr → Own) : Prop := ∃ r, OpR X f r ∧ OpW X.K r s1 s2 φ
def IxE (X : Cx) (s1 s2 s3 : Slot) : Prop := ∃ r, IxR X r ∧ OpD X.K r s1 s2 s3
def CallE (X : Cx) (f : Value) (ss : List Slot) (s3 : Slot) : Prop := ∃ r, CallR X f r ∧ ArD X.K r ss s3
def CallW (X : Cx) (f : Value) (ss : List Slot) (φ : Addr → Own) : Prop := ∃ r, CallR X f r ∧ ArW X.K r ss φ

/-- what a def promises, over data: i the ghosts -/
structure FS (ι : Type) where
  args : ι → List Slot
  pre : ι → Prop := fun _ => True
  own : ι → List Own := fun _ => []
  res : ι → Slot
  own' : ι → List Own := fun _ => []
def FS.sp {ι : Type} (S : FS ι) (K : Fg) : Sp := fun vs H Q _ => ∃ (i : ι) (G : Hp), S.pre i ∧ Same G H ∧ AllS K G vs (S.args i) ∧ (∀ w ∈ S.own i, ∃ o, H w.p = some o ∧ G w.p = none ∧ w.φ K G o) ∧ ((S.own i).map (·.p)).Nodup ∧
  ∀ v G' H', Stp ⟨(S.own i).map (·.p), G, H⟩ G' H' → (∀ w ∈ S.own' i, ∃ o, H' w.p = some o ∧ G' w.p = none ∧ w.φ K G' o) → (S.res i).ok K G' v → Q v H'
end Gd

namespace Gd
open PySem L2
section
variable {X : Cx} {B : Bs} {δ : List (Option Slot)} {O O1 O2 O3 : List Own} {a b c e : Expr} {es : List Expr} {x : Str} {p pos : Pos} {i : Nat} {s s1 s2 s3 : Slot} {ss : List Slot} {α : Type} {R : α → Slot}

/-! ### from made objects to values -/
theorem e_freeze {φ : Addr → Own} (h : EW X δ O e φ O1) (hp : ∀ p, (φ p).p = p) (hs : ∀ (K : Fg) (G : Hp) (p : Addr) (o : HO), (φ p).φ K G o → G p = none → s.ok K (upd G p o) (.ref p)) : E X δ O e s O1 := by
  intro B σ G H Q st k
  refine h B σ G H Q st fun p G' H' hb sm st' => ?_
  obtain ⟨o, h1, h2, st2⟩ := st'.freeze (by rw [hp]; exact hb)
  have gp : G' p = none := by
    obtain ⟨_, _, g, _⟩ := st'.own (φ p) List.mem_cons_self
    rw [hp] at g; exact g
  rw [hp] at h1 st2
  exact k _ _ _ (fun q u z => same_new gp _ _ (sm _ _ z)) st2 (hs _ _ _ _ h2 gp)
theorem frz_lst {as : List α} (K : Fg) (G : Hp) (p : Addr) (o : HO) (h : (oLst p R as).φ K G o) (g : G p = none) : (sLst R as).ok K (upd G p o) (.ref p) := by
  obtain ⟨vs, rfl, r⟩ := h
  exact ⟨p, vs, rfl, upd_same, r.mono (same_new g)⟩
theorem e_lst {as : List α} (h : EW X δ O e (fun p => oLst p R as) O1) : E X δ O e (sLst R as) O1 := e_freeze h (fun _ => rfl) frz_lst

/-! ### names, constants -/
theorem e_name (i : Nat) (hN : X.N[i]? = some x := by rfl) (hd : δ[i]? = some (some s) := by rfl)
    (hv : Vis X.env.scope x := by first | exact Or.inl rfl | exact Or.inr (Or.inl rfl) | exact Or.inr (Or.inr rfl)) (h1 : (x == ("__debug__" : Str)) = false := by decide) (h2 : (x == ("__classdict__" : Str)) = false := by decide) : E X δ O (.Name x pos) s O := by
  intro B σ G H Q st k
  obtain ⟨v, e, hs⟩ := st.env i s hd
  exact e_of (pe_var hN hv h1 h2) ⟨v, e, k v G H (Same.refl _) st hs⟩
theorem e_int {n : Int} {j} : E X δ O (.Constant (.int n) j pos) (sInt n) O := fun B σ G H Q st k => e_of pe_int (k _ G H (Same.refl _) st rfl)
theorem e_bl {n : Bool} {j} : E X δ O (.Constant (.bool n) j pos) (sBl n) O := fun B σ G H Q st k => e_of pe_bl (k _ G H (Same.refl _) st rfl)
theorem e_non {j} : E X δ O (.Constant .none j pos) sNon O := fun B σ G H Q st k => e_of pe_non (k _ G H (Same.refl _) st rfl)
theorem e_str {z : Str} {j} : E X δ O (.Constant (.str z) j pos) (sStr z) O := fun B σ G H Q st k => e_of pe_str (k _ G H (Same.refl _) st rfl)
/-- a module's name: what it holds, known as s in the written part -/
theorem e_glob {v : V} {u : Value} (hm : X.mg x = some u) (r : RelV v u) (hs : ∀ G, s.ok X.K G v) (hg : Gl X x := by rfl) (hd : (x == ("__debug__" : Str)) = false := by decide) : E X δ O (.Name x pos) s O :=
  fun B σ G H Q st k => e_of (pe_glob hg hm r hd) (k _ G H (Same.refl _) st (hs G))
theorem e_bltn {v : V} {u : Value} (hm : X.mg x = none) (hv : bootBuiltins x = some u) (r : RelV v u) (hg : Gl X x := by rfl) (hn : x ≠ "__name__" := by decide) (hd : (x == ("__debug__" : Str)) = false := by decide) : E X δ O (.Name x pos) (sVal v) O :=
  fun B σ G H Q st k => e_of (pe_bltn hg hm hv r hn hd) (k _ G H (Same.refl _) st rfl)
theorem e_gint {n : Int} {t : Tok} (hm : X.mg x = some (.int n t)) (hg : Gl X x := by rfl) (hd : (x == ("__debug__" : Str)) = false := by decide) : E X δ O (.Name x pos) (sInt n) O := e_glob (v := .int n) hm ⟨t, rfl⟩ (fun _ => rfl) hg hd
theorem e_gstr {n : Str} {t : Tok} (hm : X.mg x = some (.str n t)) (hg : Gl X x := by rfl) (hd : (x == ("__debug__" : Str)) = false := by decide) : E X δ O (.Name x pos) (sStr n) O := e_glob (v := .str n) hm ⟨t, rfl⟩ (fun _ => rfl) hg hd
theorem e_gref {a : Addr} (hm : X.mg x = some (.ref a)) (hg : Gl X x := by rfl) (hd : (x == ("__debug__" : Str)) = false := by decide) : E X δ O (.Name x pos) (sRef a) O := e_glob (v := .ref a) hm rfl (fun _ => rfl) hg hd
theorem e_ty (n : String) (hm : X.mg x = none) (hv : bootBuiltins x = some (.type n)) (hg : Gl X x := by rfl) (hn : x ≠ "__name__" := by decide) (hd : (x == ("__debug__" : Str)) = false := by decide) : E X δ O (.Name x pos) (sVal (.ty n)) O := e_bltn hm hv rfl hg hn hd
theorem e_imp (h : E X δ O e s O1) (hs : ∀ K G v, s.ok K G v → s1.ok K G v) : E X δ O e s1 O1 := fun B σ G H Q st k => h B σ G H Q st fun v G' H' sm st' hv => k v G' H' sm st' (hs _ _ _ hv)
theorem e_eq (h : E X δ O e s O1) (hs : s = s1) : E X δ O e s1 O1 := hs ▸ h

/-! ### operators -/
theorem e_bin {op : Operator} (ho : OpE X (binaryOp op) s1 s2 s3) (ha : E X δ O a s1 O1) (hb : E X δ O1 b s2 O2) : E X δ O (.BinOp a op b pos) s3 O2 := by
  obtain ⟨r, h1, h2⟩ := ho
  intro B σ G H Q st k
  refine e_of (pe_op h1 pe_w pe_w) ?_
  exact ha B σ G H _ st fun x G1 H1 m1 st1 hx => hb B σ G1 H1 _ st1 fun y G2 H2 m2 st2 hy => h2 B δ O2 σ G2 H2 Q x y st2 (s1.mono m2 hx) hy fun v G' H' m3 st3 hv => k v G' H' (m1.trans (m2.trans m3)) st3 hv
theorem ew_bin {op : Operator} {φ : Addr → Own} (ho : OpEW X (binaryOp op) s1 s2 φ) (ha : E X δ O a s1 O1) (hb : E X δ O1 b s2 O2) : EW X δ O (.BinOp a op b pos) φ O2 := by
  obtain ⟨r, h1, h2⟩ := ho
  intro B σ G H Q st k
  refine e_of (pe_op h1 pe_w pe_w) ?_
  exact ha B σ G H _ st fun x G1 H1 m1 st1 hx => hb B σ G1 H1 _ st1 fun y G2 H2 m2 st2 hy => h2 B δ O2 σ G2 H2 Q x y st2 (s1.mono m2 hx) hy fun v G' H' hb m3 st3 => k v G' H' hb (m1.trans (m2.trans m3)) st3
theorem e_cmp {op : CmpOp} (ho : OpE X (compareOp op) s1 s2 s3) (ha : E X δ O a s1 O1) (hb : E X δ O1 b s2 O2) (hm : noSet b = true := by rfl) : E X δ O (.Compare a [op] [b] pos) s3 O2 := by
  obtain ⟨r, h1, h2⟩ := ho
  intro B σ G H Q st k
  refine e_of (pe_cmpR h1 pe_w pe_w (marks_plain hm)) ?_
  exact ha B σ G H _ st fun x G1 H1 m1 st1 hx => hb B σ G1 H1 _ st1 fun y G2 H2 m2 st2 hy => h2 B δ O2 σ G2 H2 Q x y st2 (s1.mono m2 hx) hy fun v G' H' m3 st3 hv => k v G' H' (m1.trans (m2.trans m3)) st3 hv
theorem t_cmp {op : CmpOp} {k : Bool} (ho : OpE X (compareOp op) s1 s2 (sBl k)) (ha : E X δ O a s1 O1) (hb : E X δ O1 b s2 O2) (hm : noSet b = true := by rfl) : T X δ O (.Compare a [op] [b] pos) k O2 := by
  obtain ⟨r, h1, h2⟩ := ho
  intro B σ G H Q st q
  refine t_of (pt_cmpR h1 pe_w pe_w (marks_plain hm)) ?_
  exact ha B σ G H _ st fun x G1 H1 m1 st1 hx => hb B σ G1 H1 _ st1 fun y G2 H2 m2 st2 hy => h2 B δ O2 σ G2 H2 _ x y st2 (s1.mono m2 hx) hy fun v G' H' m3 st3 hv => ⟨k, hv, q G' H' (m1.trans (m2.trans m3)) st3⟩
theorem e_chain {op op' : CmpOp} {k k' : Bool} (ho : OpE X (compareOp op) s1 s2 (sBl k)) (ho' : k = true → OpE X (compareOp op') s2 s3 (sBl k')) (ha : E X δ O a s1 O) (hb : E X δ O b s2 O) (hc : E X δ O c s3 O)
    (hm : noSet c = true := by rfl) : E X δ O (.Compare a [op, op'] [b, c] pos) (sBl (k && k')) O := by
  obtain ⟨r, h1, h2⟩ := ho
  intro B σ G H Q st q
  cases k with
  | false =>
    refine e_of (pe_chain (r' := fun _ _ _ _ => False) h1 (fun _ _ _ _ _ _ _ _ _ _ _ _ z => z.elim) pe_w pe_w pe_w (marks_plain (op := op') hm)) ?_
    exact ha B σ G H _ st fun x G1 H1 m1 st1 hx => hb B σ G1 H1 _ st1 fun y G2 H2 m2 st2 hy => h2 B δ O σ G2 H2 _ x y st2 (s1.mono m2 hx) hy fun v G' H' m3 st3 hv =>
      ⟨false, hv, iteF (q _ G' H' (m1.trans (m2.trans m3)) st3 rfl)⟩
  | true =>
    obtain ⟨r', h1', h2'⟩ := ho' rfl
    refine e_of (pe_chain h1 h1' pe_w pe_w pe_w (marks_plain (op := op') hm)) ?_
    exact ha B σ G H _ st fun x G1 H1 m1 st1 hx => hb B σ G1 H1 _ st1 fun y G2 H2 m2 st2 hy => h2 B δ O σ G2 H2 _ x y st2 (s1.mono m2 hx) hy fun v G3 H3 m3 st3 hv =>
      ⟨true, hv, iteT (hc B σ G3 H3 _ st3 fun z G4 H4 m4 st4 hz => h2' B δ O σ G4 H4 _ y z st4 (s2.mono (m3.trans m4) hy) hz fun v' G' H' m5 st5 hv' =>
        q _ G' H' (m1.trans (m2.trans (m3.trans (m4.trans m5)))) st5 hv')⟩
theorem t_chain {op op' : CmpOp} {k k' : Bool} (ho : OpE X (compareOp op) s1 s2 (sBl k)) (ho' : k = true → OpE X (compareOp op') s2 s3 (sBl k')) (ha : E X δ O a s1 O) (hb : E X δ O b s2 O) (hc : E X δ O c s3 O)
    (hm : noSet c = true := by rfl) : T X δ O (.Compare a [op, op'] [b, c] pos) (k && k') O := by
  obtain ⟨r, h1, h2⟩ := ho
  intro B σ G H Q st q
  cases k with
  | false =>
    refine t_of (pt_chain (r' := fun _ _ _ _ => False) h1 (fun _ _ _ _ _ _ _ _ _ _ _ _ z => z.elim) pe_w pe_w pe_w (marks_plain (op := op') hm)) ?_
    exact ha B σ G H _ st fun x G1 H1 m1 st1 hx => hb B σ G1 H1 _ st1 fun y G2 H2 m2 st2 hy => h2 B δ O σ G2 H2 _ x y st2 (s1.mono m2 hx) hy fun v G' H' m3 st3 hv =>
      ⟨false, hv, iteF ⟨false, rfl, q G' H' (m1.trans (m2.trans m3)) st3⟩⟩
  | true =>
    obtain ⟨r', h1', h2'⟩ := ho' rfl
    refine t_of (pt_chain h1 h1' pe_w pe_w pe_w (marks_plain (op := op') hm)) ?_
    exact ha B σ G H _ st fun x G1 H1 m1 st1 hx => hb B σ G1 H1 _ st1 fun y G2 H2 m2 st2 hy => h2 B δ O σ G2 H2 _ x y st2 (s1.mono m2 hx) hy fun v G3 H3 m3 st3 hv =>
      ⟨true, hv, iteT (hc B σ G3 H3 _ st3 fun z G4 H4 m4 st4 hz => h2' B δ O σ G4 H4 _ y z st4 (s2.mono (m3.trans m4) hy) hz fun v' G' H' m5 st5 hv' =>
        ⟨k', hv', q G' H' (m1.trans (m2.trans (m3.trans (m4.trans m5)))) st5⟩)⟩

/-! ### and, or, not, if .. else -/
variable {u v w : Bool}
theorem e_one {op} (h : E X δ O a s O1) : E X δ O (.BoolOp op [a] pos) s O1 := fun B σ G H Q st k => e_of (pe_one pe_w) (h B σ G H Q st k)
theorem e_and (ha : E X δ O a (sBl u) O1) (hb : u = true → E X δ O1 (.BoolOp .And (b :: es) pos) (sBl v) O1) : E X δ O (.BoolOp .And (a :: b :: es) pos) (sBl (u && v)) O1 := by
  intro B σ G H Q st k
  refine e_of (pe_and pe_w pe_w) ?_
  refine ha B σ G H _ st fun x G1 H1 m1 st1 hx => ⟨u, hx, ?_⟩
  cases u with
  | false => exact iteF (k _ G1 H1 m1 st1 rfl)
  | true => exact iteT (hb rfl B σ G1 H1 _ st1 fun y G2 H2 m2 st2 hy => k y G2 H2 (m1.trans m2) st2 hy)
theorem e_or (ha : E X δ O a (sBl u) O1) (hb : u = false → E X δ O1 (.BoolOp .Or (b :: es) pos) (sBl v) O1) : E X δ O (.BoolOp .Or (a :: b :: es) pos) (sBl (u || v)) O1 := by
  intro B σ G H Q st k
  refine e_of (pe_or pe_w pe_w) ?_
  refine ha B σ G H _ st fun x G1 H1 m1 st1 hx => ⟨u, hx, ?_⟩
  cases u with
  | true => exact iteT (k _ G1 H1 m1 st1 rfl)
  | false => exact iteF (hb rfl B σ G1 H1 _ st1 fun y G2 H2 m2 st2 hy => k y G2 H2 (m1.trans m2) st2 hy)
theorem e_not (ha : E X δ O a (sBl u) O1) : E X δ O (.UnaryOp .Not a pos) (sBl (!u)) O1 := by
  intro B σ G H Q st k
  refine e_of (pe_not pe_w) ?_
  exact ha B σ G H _ st fun x G1 H1 m1 st1 hx => ⟨u, hx, k _ G1 H1 m1 st1 rfl⟩
theorem e_neg {n : Int} (ha : E X δ O a (sInt n) O1) : E X δ O (.UnaryOp .USub a pos) (sInt (-n)) O1 := by
  intro B σ G H Q st k
  refine e_of (pe_un un_neg pe_w) ?_
  exact ha B σ G H _ st fun x G1 H1 m1 st1 hx => ⟨n, hx, k _ G1 H1 m1 st1 rfl⟩
theorem e_ife {φ : Bool → Slot} (ht : T X δ O c u O1) (ha : u = true → E X δ O1 a s O2) (hb : u = false → E X δ O1 b s O2) : E X δ O (.IfExp c a b pos) s O2 := by
  intro B σ G H Q st k
  refine e_of (pe_ifExp pt_w pe_w pe_w) ?_
  refine ht B σ G H _ st fun G1 H1 m1 st1 => ?_
  cases u with
  | true => exact iteT (ha rfl B σ G1 H1 _ st1 fun y G2 H2 m2 st2 hy => k y G2 H2 (m1.trans m2) st2 hy)
  | false => exact iteF (hb rfl B σ G1 H1 _ st1 fun y G2 H2 m2 st2 hy => k y G2 H2 (m1.trans m2) st2 hy)

/-! ### tests -/
theorem t_val (h : E X δ O e (sBl u) O1) (he : plainTest e = true := by rfl) : T X δ O e u O1 := by
  intro B σ G H Q st k
  refine t_of (pt_val pe_w (isTrue_val he)) ?_
  exact h B σ G H _ st fun x G1 H1 m1 st1 hx => ⟨u, hx, k G1 H1 m1 st1⟩
theorem t_not (h : T X δ O a u O1) : T X δ O (.UnaryOp .Not a pos) (!u) O1 := by
  intro B σ G H Q st k
  refine t_of (pt_not pt_w) ?_
  exact h B σ G H _ st fun G1 H1 m1 st1 => k G1 H1 m1 st1
/-- a chain of and, or as a test -/
def TW (X : Cx) (δ : List (Option Slot)) (O : List Own) (e : Expr) (b : Bool) (O' : List Own) : Prop :=
  ∃ t, PW X e t ∧ ∀ (B : Bs) (σ : SS) (G H : Hp) (Q : Bool → Hp → Prop), Sta X.K B δ O σ G H → (∀ G' H', Same G G' → Sta X.K B δ O' σ G' H' → Q b H') → t σ H Q
theorem t_w (h : TW X δ O e u O1) : T X δ O e u O1 := by
  obtain ⟨t, h1, h2⟩ := h
  exact fun B σ G H Q st k => t_of h1.pt (h2 B σ G H Q st k)
theorem tw_and1 (h : T X δ O a u O1) : TW X δ O (.BoolOp .And [a] pos) u O1 := ⟨_, pw_and1 pt_w, fun B σ G H Q st k => h B σ G H Q st k⟩
theorem tw_or1 (h : T X δ O a u O1) : TW X δ O (.BoolOp .Or [a] pos) u O1 := ⟨_, pw_or1 pt_w, fun B σ G H Q st k => h B σ G H Q st k⟩
theorem pw_never {e : Expr} : PW X e (fun _ _ _ => False) := ⟨fun _ _ _ _ _ _ _ h => h.elim⟩
theorem tw_and (ha : T X δ O a u O1) (hb : u = true → TW X δ O1 (.BoolOp .And (b :: es) pos) v O1) : TW X δ O (.BoolOp .And (a :: b :: es) pos) (u && v) O1 := by
  cases u with
  | false => exact ⟨_, pw_and pt_w pw_never, fun B σ G H Q st k => ha B σ G H _ st fun G1 H1 m1 st1 => iteF (k G1 H1 m1 st1)⟩
  | true =>
    obtain ⟨t, h1, h2⟩ := hb rfl
    exact ⟨_, pw_and pt_w h1, fun B σ G H Q st k => ha B σ G H _ st fun G1 H1 m1 st1 => iteT (h2 B σ G1 H1 Q st1 fun G2 H2 m2 st2 => k G2 H2 (m1.trans m2) st2)⟩
theorem tw_or (ha : T X δ O a u O1) (hb : u = false → TW X δ O1 (.BoolOp .Or (b :: es) pos) v O1) : TW X δ O (.BoolOp .Or (a :: b :: es) pos) (u || v) O1 := by
  cases u with
  | true => exact ⟨_, pw_or pt_w pw_never, fun B σ G H Q st k => ha B σ G H _ st fun G1 H1 m1 st1 => iteT (k G1 H1 m1 st1)⟩
  | false =>
    obtain ⟨t, h1, h2⟩ := hb rfl
    exact ⟨_, pw_or pt_w h1, fun B σ G H Q st k => ha B σ G H _ st fun G1 H1 m1 st1 => iteF (h2 B σ G1 H1 Q st1 fun G2 H2 m2 st2 => k G2 H2 (m1.trans m2) st2)⟩
theorem t_eq (h : T X δ O e u O1) (he : u = v) : T X δ O e v O1 := he ▸ h

/-- the same, the second part asked in any case -/
theorem e_and2 (ha : E X δ O a (sBl u) O1) (hb : E X δ O1 (.BoolOp .And (b :: es) pos) (sBl v) O1) : E X δ O (.BoolOp .And (a :: b :: es) pos) (sBl (u && v)) O1 := e_and ha fun _ => hb
theorem e_or2 (ha : E X δ O a (sBl u) O1) (hb : E X δ O1 (.BoolOp .Or (b :: es) pos) (sBl v) O1) : E X δ O (.BoolOp .Or (a :: b :: es) pos) (sBl (u || v)) O1 := e_or ha fun _ => hb
theorem tw_and2 (ha : T X δ O a u O1) (hb : TW X δ O1 (.BoolOp .And (b :: es) pos) v O1) : TW X δ O (.BoolOp .And (a :: b :: es) pos) (u && v) O1 := tw_and ha fun _ => hb
theorem tw_or2 (ha : T X δ O a u O1) (hb : TW X δ O1 (.BoolOp .Or (b :: es) pos) v O1) : TW X δ O (.BoolOp .Or (a :: b :: es) pos) (u || v) O1 := tw_or ha fun _ => hb
/-- the first part decides -/
theorem tw_andF (ha : T X δ O a false O1) : TW X δ O (.BoolOp .And (a :: b :: es) pos) false O1 := tw_and (v := false) ha fun h => nomatch h
theorem tw_orT (ha : T X δ O a true O1) : TW X δ O (.BoolOp .Or (a :: b :: es) pos) true O1 := tw_or (v := true) ha fun h => nomatch h
theorem e_andF (ha : E X δ O a (sBl false) O1) : E X δ O (.BoolOp .And (a :: b :: es) pos) (sBl false) O1 := e_and (v := false) ha fun h => nomatch h
theorem e_orT (ha : E X δ O a (sBl true) O1) : E X δ O (.BoolOp .Or (a :: b :: es) pos) (sBl true) O1 := e_or (v := true) ha fun h => nomatch h

/-! ### argument lists, displays -/
theorem ea_nil : EA X δ O [] [] O := fun B σ G H Q st k => a_of pa_nil (k _ G H (Same.refl _) st .nil)
theorem ea_cons (ha : E X δ O e s O1) (hr : EA X δ O1 es ss O2) (hs : noStar e = true := by rfl) : EA X δ O (e :: es) (s :: ss) O2 := by
  intro B σ G H Q st k
  refine a_of (pa_cons pe_w pa_w (starEach_plain hs)) ?_
  exact ha B σ G H _ st fun x G1 H1 m1 st1 hx => hr B σ G1 H1 _ st1 fun xs G2 H2 m2 st2 hxs => k _ G2 H2 (m1.trans m2) st2 (.cons (s.mono m2 hx) hxs)
/-- a list's items, one kind -/
def EL (X : Cx) (δ : List (Option Slot)) (O : List Own) {α : Type} (R : α → Slot) (es : List Expr) (as : List α) (O' : List Own) : Prop :=
  ∀ (B : Bs) (σ : SS) (G H : Hp) (Q : List V → Hp → Prop), Sta X.K B δ O σ G H → (∀ vs G' H', Same G G' → Sta X.K B δ O' σ G' H' → All2 X.K G' R vs as → Q vs H') → wA X es σ H Q
theorem el_nil : EL X δ O R [] [] O := fun B σ G H Q st k => a_of pa_nil (k _ G H (Same.refl _) st .nil)
theorem el_cons {y : α} {ys : List α} (ha : E X δ O e (R y) O1) (hr : EL X δ O1 R es ys O2) (hs : noStar e = true := by rfl) : EL X δ O R (e :: es) (y :: ys) O2 := by
  intro B σ G H Q st k
  refine a_of (pa_cons pe_w pa_w (starEach_plain hs)) ?_
  exact ha B σ G H _ st fun x G1 H1 m1 st1 hx => hr B σ G1 H1 _ st1 fun xs G2 H2 m2 st2 hxs => k _ G2 H2 (m1.trans m2) st2 (.cons ((R y).mono m2 hx) hxs)
theorem el_star {xs ys : List α} (ha : E X δ O e (sLst R xs) O1) (hr : EL X δ O1 R es ys O2) : EL X δ O R (.Starred e p :: es) (xs ++ ys) O2 := by
  intro B σ G H Q st k
  refine a_of (StX.pa_star pe_w pa_w starEach_star) ?_
  refine ha B σ G H _ st fun x G1 H1 m1 st1 hx => ?_
  obtain ⟨q, vs, rfl, hq, hr2⟩ := hx
  exact ⟨q, vs, rfl, .inr (SqL.of (st1.stp.gh _ _ hq)), hr B σ G1 H1 _ st1 fun ws G2 H2 m2 st2 hws => k _ G2 H2 (m1.trans m2) st2 ((hr2.mono m2).append hws)⟩
theorem el_starT {xs ys : List α} (ha : E X δ O e (sTupl R xs) O1) (hr : EL X δ O1 R es ys O2) : EL X δ O R (.Starred e p :: es) (xs ++ ys) O2 := by
  intro B σ G H Q st k
  refine a_of (StX.pa_star pe_w pa_w starEach_star) ?_
  refine ha B σ G H _ st fun x G1 H1 m1 st1 hx => ?_
  obtain ⟨q, vs, rfl, hq, hr2⟩ := hx
  exact ⟨q, vs, rfl, .inl (by
    rcases hq with (z | ⟨o, z⟩) | z
    · exact .inl (.inl (st1.stp.gh _ _ z))
    · exact .inl (.inr ⟨o, st1.stp.gh _ _ z⟩)
    · exact .inr z), hr B σ G1 H1 _ st1 fun ws G2 H2 m2 st2 hws => k _ G2 H2 (m1.trans m2) st2 ((hr2.mono m2).append hws)⟩
theorem ew_lst {as : List α} (h : EL X δ O R es as O1) (hz : as.length ≤ sizeLine) : EW X δ O (.List es pos) (fun p => oLst p R as) O1 := by
  intro B σ G H Q st k
  refine e_of (pe_lst pa_w) ?_
  refine h B σ G H _ st fun vs G1 H1 m1 st1 hv => ⟨by rw [hv.length]; exact hz, fun q hq => ?_⟩
  have s2 := st1.freshO (w := oLst q R as) hq rfl ⟨vs, rfl, hv⟩
  exact k q G1 _ ((s2.new _ List.mem_cons_self).elim (fun z => by
    cases e : B.H q with
    | none => rfl
    | some o =>
      obtain ⟨o', e'⟩ := st1.stp.th _ _ e
      rw [hq] at e'; cases e') id) m1 s2
theorem none_of {K : Fg} {G H : Hp} {σ : SS} {q : Addr} (st : Sta K B δ O σ G H) (hq : H q = none) : B.H q = none := by
  cases e : B.H q with
  | none => rfl
  | some o =>
    obtain ⟨o', e'⟩ := st.stp.th _ _ e
    rw [hq] at e'; cases e'
theorem e_tupl {x1} {as : List α} (h : EL X δ O R es as O1) (hz : as.length ≤ sizeLine) : E X δ O (.Tuple es x1 pos) (sTupl R as) O1 := by
  intro B σ G H Q st k
  refine e_of (pe_tup pa_w) ?_
  refine h B σ G H _ st fun vs G1 H1 m1 st1 hv => ⟨by rw [hv.length]; exact hz, fun q hq => ?_⟩
  have sg : Same G1 (upd G1 q (.tup vs)) := same_new (gnone st1.stp hq)
  exact k _ _ _ (m1.trans sg) (st1.freshG hq) ⟨q, vs, rfl, SqT.of upd_same, hv.mono sg⟩
theorem e_tup {x1} (h : EA X δ O es ss O1) (hz : ss.length ≤ sizeLine) : E X δ O (.Tuple es x1 pos) (sTup ss) O1 := by
  intro B σ G H Q st k
  refine e_of (pe_tup pa_w) ?_
  refine h B σ G H _ st fun vs G1 H1 m1 st1 hv => ⟨by rw [hv.length]; exact hz, fun q hq => ?_⟩
  have sg : Same G1 (upd G1 q (.tup vs)) := same_new (gnone st1.stp hq)
  exact k _ _ _ (m1.trans sg) (st1.freshG hq) ⟨q, vs, rfl, SqT.of upd_same, hv.mono sg⟩
theorem ew_lstS (h : EA X δ O es ss O1) (hz : ss.length ≤ sizeLine) : EW X δ O (.List es pos) (fun p => oLstS p ss) O1 := by
  intro B σ G H Q st k
  refine e_of (pe_lst pa_w) ?_
  refine h B σ G H _ st fun vs G1 H1 m1 st1 hv => ⟨by rw [hv.length]; exact hz, fun q hq => ?_⟩
  exact k q G1 _ (none_of st1 hq) m1 (st1.freshO (w := oLstS q ss) hq rfl ⟨vs, rfl, hv⟩)

/-! ### calls -/
theorem e_callB {id : String} (hc : CallE X (.builtin id) ss s) (hm : X.mg x = none) (hv : bootBuiltins x = some (.builtin id)) (ha : EA X δ O (e :: es) ss O1) (hg : Gl X x := by rfl) (hn : x ≠ "__name__" := by decide) (hdb : (x == ("__debug__" : Str)) = false := by decide)
    (he : noStar e = true := by rfl) (hpl : noStars es = true := by rfl) : E X δ O (.Call (.Name x p) (e :: es) [] pos) s O1 := by
  obtain ⟨r, h1, h2⟩ := hc
  intro B σ G H Q st k
  refine e_of (pe_callB h1 hg hm hv pa_w hn hdb (starEach_plain he) (backTo_plain hpl)) ?_
  exact ha B σ G H _ st fun vs G1 H1 m1 st1 hv => h2 B δ O1 σ G1 H1 Q vs st1 hv fun v G' H' m2 st2 hv => k v G' H' (m1.trans m2) st2 hv
theorem e_callTy {id : String} (hc : CallE X (.type id) ss s) (hm : X.mg x = none) (hv : bootBuiltins x = some (.type id)) (ha : EA X δ O (e :: es) ss O1) (hg : Gl X x := by rfl) (hn : x ≠ "__name__" := by decide) (hdb : (x == ("__debug__" : Str)) = false := by decide)
    (he : noStar e = true := by rfl) (hpl : noStars es = true := by rfl) : E X δ O (.Call (.Name x p) (e :: es) [] pos) s O1 := by
  obtain ⟨r, h1, h2⟩ := hc
  intro B σ G H Q st k
  refine e_of (pe_callTy h1 hg hm hv pa_w hn hdb (starEach_plain he) (backTo_plain hpl)) ?_
  exact ha B σ G H _ st fun vs G1 H1 m1 st1 hv => h2 B δ O1 σ G1 H1 Q vs st1 hv fun v G' H' m2 st2 hv => k v G' H' (m1.trans m2) st2 hv
theorem ew_callB {id : String} {φ : Addr → Own} (hc : CallW X (.builtin id) ss φ) (hm : X.mg x = none) (hv : bootBuiltins x = some (.builtin id)) (ha : EA X δ O (e :: es) ss O1) (hg : Gl X x := by rfl) (hn : x ≠ "__name__" := by decide) (hdb : (x == ("__debug__" : Str)) = false := by decide)
    (he : noStar e = true := by rfl) (hpl : noStars es = true := by rfl) : EW X δ O (.Call (.Name x p) (e :: es) [] pos) φ O1 := by
  obtain ⟨r, h1, h2⟩ := hc
  intro B σ G H Q st k
  refine e_of (pe_callB h1 hg hm hv pa_w hn hdb (starEach_plain he) (backTo_plain hpl)) ?_
  exact ha B σ G H _ st fun vs G1 H1 m1 st1 hv => h2 B δ O1 σ G1 H1 Q vs st1 hv fun v G' H' hb m2 st2 => k v G' H' hb (m1.trans m2) st2
theorem ew_callTy {id : String} {φ : Addr → Own} (hc : CallW X (.type id) ss φ) (hm : X.mg x = none) (hv : bootBuiltins x = some (.type id)) (ha : EA X δ O (e :: es) ss O1) (hg : Gl X x := by rfl) (hn : x ≠ "__name__" := by decide) (hdb : (x == ("__debug__" : Str)) = false := by decide)
    (he : noStar e = true := by rfl) (hpl : noStars es = true := by rfl) : EW X δ O (.Call (.Name x p) (e :: es) [] pos) φ O1 := by
  obtain ⟨r, h1, h2⟩ := hc
  intro B σ G H Q st k
  refine e_of (pe_callTy h1 hg hm hv pa_w hn hdb (starEach_plain he) (backTo_plain hpl)) ?_
  exact ha B σ G H _ st fun vs G1 H1 m1 st1 hv => h2 B δ O1 σ G1 H1 Q vs st1 hv fun v G' H' hb m2 st2 => k v G' H' hb (m1.trans m2) st2

section
variable {ι : Type} {S : FS ι} {k : Nat} {f C : Addr} {dvs : List V} {m : Str} {apos : Pos} {o : Expr}
/-- a def keeps its promise over data: dvs its defaults' values -/
structure DefOk (P : Program) (w : World) (K : Fg) (mg : Str → Option Value) (base : Heap) (k : Nat) (f : Addr) (dvs : List V) {ι : Type} (S : FS ι) : Prop where
  ex : ∃ fd ps ds, FnOk P w K mg base CX0 k f fd ps (S.sp K) ∧ Binds K fd ps ds ∧ Vals dvs ds
  kp : PySem.W.keepIn K (.ref f) = true
abbrev DefX (X : Cx) (k : Nat) (f : Addr) (dvs : List V) {ι : Type} (S : FS ι) : Prop := DefOk X.prog X.w X.K X.mg X.base k f dvs S
/-- the promise of a def, taken at a state -/
theorem fs_use {K : Fg} {G H : Hp} {σ : SS} {Q : VK} {vs : List V} {EE : XK} (j : ι) (hp : S.pre j) (st : Sta K B δ (S.own j ++ O2) σ G H) (ha : AllS K G vs (S.args j)) (hw : (S.own' j).map (·.p) = (S.own j).map (·.p))
    (k : ∀ v G' H', Same G G' → Sta K B δ (S.own' j ++ O2) σ G' H' → (S.res j).ok K G' v → Q v H') : S.sp K vs H Q EE := by
  have nd := st.nd
  rw [List.map_append] at nd
  refine ⟨j, G, hp, st.stp.gh, ha, fun w hw => st.own w (List.mem_append_left _ hw), (List.nodup_append.mp nd).1, fun v G' H' t ow hv => ?_⟩
  exact k v G' H' t.ex (st.ran t hw ow) hv
theorem alls_dvs {K : Fg} {G : Hp} : ∀ {vs : List V} {ss ts : List Slot} {ds : List V}, AllS K G vs ss → AllS K G ds ts → AllS K G (vs ++ ds) (ss ++ ts)
  | _, _, _, _, .nil, h => h
  | _, _, _, _, .cons a b, h => .cons a (alls_dvs b h)
theorem alls_vals {K : Fg} {G : Hp} : ∀ ds : List V, AllS K G ds (ds.map sVal)
  | [] => .nil
  | _ :: ds => .cons rfl (alls_vals ds)
/-- f(e, ..): j the ghosts -/
theorem e_call (j : ι) (F : DefX X k f dvs S) (hr : Room k X.A) (hm : X.mg x = some (.ref f)) (ha : EA X δ O (e :: es) ss (S.own j ++ O2)) (hp : S.pre j) (hss : ss ++ dvs.map sVal = S.args j := by rfl)
    (hw : (S.own' j).map (·.p) = (S.own j).map (·.p) := by rfl) (hg : Gl X x := by rfl)
    (hdb : (x == ("__debug__" : Str)) = false := by decide) (he : noStar e = true := by rfl) (hpl : noStars es = true := by rfl) :
    E X δ O (.Call (.Name x p) (e :: es) [] pos) (S.res j) (S.own' j ++ O2) := by
  obtain ⟨⟨fd, ps, ds, F, hb, hd⟩, hk⟩ := F
  intro B σ G H Q st q
  refine e_of (pe_call F hr hg hm hk hb hd (E := E0) pass0 pa_w hdb (starEach_plain he) (backTo_plain hpl)) ?_
  exact ha B σ G H _ st fun vs G1 H1 m1 st1 hv => fs_use j hp st1 (by rw [← hss]; exact alls_dvs hv (alls_vals dvs)) hw fun v G' H' m2 st2 hv => q v G' H' (m1.trans m2) st2 hv
/-- the same, the result told by the goal -/
theorem e_callR (j : ι) (F : DefX X k f dvs S) (hr : Room k X.A) (hm : X.mg x = some (.ref f)) (ha : EA X δ O (e :: es) ss (S.own j ++ O2)) (hp : S.pre j) (hres : S.res j = s := by rfl) (ho : S.own' j ++ O2 = O3 := by rfl) (hss : ss ++ dvs.map sVal = S.args j := by rfl)
    (hw : (S.own' j).map (·.p) = (S.own j).map (·.p) := by rfl) (hg : Gl X x := by rfl)
    (hdb : (x == ("__debug__" : Str)) = false := by decide) (he : noStar e = true := by rfl) (hpl : noStars es = true := by rfl) :
    E X δ O (.Call (.Name x p) (e :: es) [] pos) s O3 := by
  subst hres ho
  exact e_call j F hr hm ha hp hss hw hg hdb he hpl
theorem e_call0 (j : ι) (F : DefX X k f dvs S) (hr : Room k X.A) (hm : X.mg x = some (.ref f)) (hp : S.pre j) (ho : O = S.own j ++ O2 := by rfl) (hss : dvs.map sVal = S.args j := by rfl)
    (hw : (S.own' j).map (·.p) = (S.own j).map (·.p) := by rfl) (hg : Gl X x := by rfl)
    (hdb : (x == ("__debug__" : Str)) = false := by decide) : E X δ O (.Call (.Name x p) [] [] pos) (S.res j) (S.own' j ++ O2) := by
  subst ho
  obtain ⟨⟨fd, ps, ds, F, hb, hd⟩, hk⟩ := F
  intro B σ G H Q st q
  refine e_of (pe_call0 F hr hg hm hk hb hd (E := E0) pass0 hdb) ?_
  show S.sp X.K ([] ++ dvs) H Q E0
  exact fs_use j hp st (by rw [← hss]; exact alls_vals dvs) hw fun v G' H' m2 st2 hv => q v G' H' m2 st2 hv

/-! ### instances -/
/-- an instance of the class at C: what its attributes hold, and it has no others -/
def insOk (C : Addr) (tab : List (Str × Slot)) (K : Fg) (G : Hp) (o : HO) : Prop :=
  ∃ dx fs, o = .ins C dx fs ∧ fs.length ≤ tab.length ∧ (∀ f s, (f, s) ∈ tab → ∃ v, fs.lookup f = some v ∧ s.ok K G v) ∧ ∀ f, f ∉ tab.map (·.1) → fs.lookup f = none
theorem insOk.mono {C : Addr} {tab : List (Str × Slot)} {K : Fg} {G G' : Hp} {o : HO} (e : Same G G') (h : insOk C tab K G o) : insOk C tab K G' o :=
  let ⟨dx, fs, a, n, b, c⟩ := h; ⟨dx, fs, a, n, fun f s m => let ⟨v, p, q⟩ := b f s m; ⟨v, p, s.mono e q⟩, c⟩
theorem insOk_nil {C : Addr} {K : Fg} {G : Hp} (dx : Addr) : insOk C [] K G (.ins C dx []) := ⟨dx, [], rfl, Nat.le_refl _, (fun f s h => by cases h), fun f _ => rfl⟩
def oIns (p C : Addr) (tab : List (Str × Slot)) : Own := ⟨p, insOk C tab, insOk.mono⟩
def sIns (C : Addr) (tab : List (Str × Slot)) : Slot := ⟨fun K G v => ∃ p o, v = .ref p ∧ G p = some o ∧ insOk C tab K G o, fun e ⟨p, o, a, b, c⟩ => ⟨p, o, a, e _ _ b, c.mono e⟩⟩
theorem frz_ins {tab : List (Str × Slot)} (K : Fg) (G : Hp) (p : Addr) (o : HO) (h : (oIns p C tab).φ K G o) (g : G p = none) : (sIns C tab).ok K (upd G p o) (.ref p) := ⟨p, o, rfl, upd_same, insOk.mono (same_new g) h⟩
theorem e_ins {tab : List (Str × Slot)} (h : EW X δ O e (fun p => oIns p C tab) O1) : E X δ O e (sIns C tab) O1 := e_freeze h (fun _ => rfl) frz_ins
/-- e.f of a frozen instance -/
theorem e_fld {tab : List (Str × Slot)} (j : Nat) (c : Cls X.K C) (n : NoAttr X.K C x) (h : E X δ O e (sIns C tab) O1) (hj : tab[j]? = some (x, s) := by rfl) (hb : noCall0 e = true := by rfl) : E X δ O (.Attribute e x pos) s O1 := by
  intro B σ G H Q st k
  refine e_of (pe_fld pe_w (attributeBase_plain hb)) ?_
  refine h B σ G H _ st fun v G1 H1 m1 st1 hv => ?_
  obtain ⟨q, o, rfl, hq, dx, fs, rfl, _, h1, _⟩ := hv
  obtain ⟨v, h2, h3⟩ := h1 x s (List.mem_of_getElem? hj)
  exact ⟨q, C, dx, fs, v, rfl, st1.stp.gh _ _ hq, c, n, h2, k v G1 H1 m1 st1 h3⟩
/-- e.f of an owned instance -/
theorem e_fldO {q : Addr} {tab : List (Str × Slot)} (j : Nat) (jw : Nat) (c : Cls X.K C) (n : NoAttr X.K C x) (h : E X δ O e (sRef q) O1) (hw : O1[jw]? = some (oIns q C tab) := by rfl) (hj : tab[j]? = some (x, s) := by rfl) (hb : noCall0 e = true := by rfl) : E X δ O (.Attribute e x pos) s O1 := by
  intro B σ G H Q st k
  refine e_of (pe_fld pe_w (attributeBase_plain hb)) ?_
  refine h B σ G H _ st fun v G1 H1 m1 st1 hv => ?_
  obtain ⟨o, hq, _, dx, fs, rfl, _, h1, _⟩ := st1.own _ (List.mem_of_getElem? hw)
  obtain ⟨v', h2, h3⟩ := h1 x s (List.mem_of_getElem? hj)
  exact ⟨q, C, dx, fs, v', hv, hq, c, n, h2, k v' G1 H1 m1 st1 h3⟩
/-- o.m(e, ..), o a frozen instance -/
theorem e_meth {tab : List (Str × Slot)} {pl : Sem Bool} (j : ι) (F : DefX X k f dvs S) (hr : Room k X.A) (c : Cls X.K C) (hm : Meth X.K C m f) (h : E X δ O o (sIns C tab) O1) (ha : EA X δ O1 (e :: es) ss (S.own j ++ O2)) (hp : S.pre j)
    (hss : sIns C tab :: (ss ++ dvs.map sVal) = S.args j := by rfl) (hno : (tab.map (·.1)).contains m = false := by (try simp only [List.map_cons, List.map_nil]); decide +kernel) (hw : (S.own' j).map (·.p) = (S.own j).map (·.p) := by rfl)
    (hst : noStar e = true := by rfl) (hpl : noStars es = true := by rfl)
    (ht : eval (.Call (.Attribute o m apos) (e :: es) [] pos) X.env = (do
      let ov ← eval o X.env
      standAt apos.atName
      let (f, first) ← holding [ov] (getMethod ov m pl)
      callWith pos f first (backTo pos (starEach (e :: es) X.env)) (backToKw pos (keywordEach [] X.env))) := by rfl) :
    E X δ O (.Call (.Attribute o m apos) (e :: es) [] pos) (S.res j) (S.own' j ++ O2) := by
  obtain ⟨⟨fd, ps, ds, F, hb, hd⟩, hk⟩ := F
  intro B σ G H Q st q
  refine e_of (pe_meth pe_w c hm F hr hb hd (E := E0) pass0 pa_w (starEach_plain hst) (backTo_plain hpl) ht) ?_
  refine h B σ G H _ st fun v G1 H1 m1 st1 hv => ?_
  have hv0 := hv
  obtain ⟨p, o', rfl, hq, dx, fs, rfl, _, h1, h2⟩ := hv
  refine ⟨p, dx, fs, rfl, st1.stp.gh _ _ hq, h2 m (by simpa using hno), ?_⟩
  exact ha B σ G1 H1 _ st1 fun vs G2 H2 m2 st2 hvs => fs_use j hp st2 (by rw [← hss]; exact .cons ((sIns C tab).mono m2 hv0) (alls_dvs hvs (alls_vals dvs))) hw fun v G' H' m3 st3 hv => q v G' H' (m1.trans (m2.trans m3)) st3 hv
theorem e_meth0 {tab : List (Str × Slot)} {pl : Sem Bool} (j : ι) (F : DefX X k f dvs S) (hr : Room k X.A) (c : Cls X.K C) (hm : Meth X.K C m f) (h : E X δ O o (sIns C tab) (S.own j ++ O2)) (hp : S.pre j)
    (hss : sIns C tab :: (dvs.map sVal) = S.args j := by rfl) (hno : (tab.map (·.1)).contains m = false := by (try simp only [List.map_cons, List.map_nil]); decide +kernel) (hw : (S.own' j).map (·.p) = (S.own j).map (·.p) := by rfl)
    (ht : eval (.Call (.Attribute o m apos) [] [] pos) X.env = (do
      let ov ← eval o X.env
      standAt apos.atName
      let (f, first) ← holding [ov] (getMethod ov m pl)
      callWith pos f first (backTo pos (starEach [] X.env)) (backToKw pos (keywordEach [] X.env))) := by rfl) :
    E X δ O (.Call (.Attribute o m apos) [] [] pos) (S.res j) (S.own' j ++ O2) := by
  obtain ⟨⟨fd, ps, ds, F, hb, hd⟩, hk⟩ := F
  intro B σ G H Q st q
  refine e_of (pe_meth0 pe_w c hm F hr hb hd (E := E0) pass0 ht) ?_
  refine h B σ G H _ st fun v G1 H1 m1 st1 hv => ?_
  have hv0 := hv
  obtain ⟨p, o', rfl, hq, dx, fs, rfl, _, h1, h2⟩ := hv
  refine ⟨p, dx, fs, rfl, st1.stp.gh _ _ hq, h2 m (by simpa using hno), ?_⟩
  show S.sp X.K (V.ref p :: ([] ++ dvs)) H1 Q E0
  exact fs_use j hp st1 (by rw [← hss]; exact .cons hv0 (alls_vals dvs)) hw fun v G' H' m3 st3 hv => q v G' H' (m1.trans m3) st3 hv
/-- C(e, ..): j the ghosts by the new instance's address; its __init__ hands back what owns it as ψ -/
theorem ew_make {ψ : Addr → Own} (j : Addr → ι) (M : Mk X.K C f) (F : DefX X k f dvs S) (hr : Room (k + 1) X.A) (hm : X.mg x = some (.ref C)) (ha : EA X δ O (e :: es) ss O2) (hp : ∀ q, S.pre (j q)) (hss : ∀ q, sRef q :: (ss ++ dvs.map sVal) = S.args (j q) := by intro _; rfl)
    (ho : ∀ q, S.own (j q) = [oIns q C []] := by intro _; rfl) (ho' : ∀ q, S.own' (j q) = [ψ q] := by intro _; rfl) (hψ : ∀ q, (ψ q).p = q := by intro _; rfl) (hres : ∀ q, S.res (j q) = sNon := by intro _; rfl) (hg : Gl X x := by rfl)
    (hdb : (x == ("__debug__" : Str)) = false := by decide) (he : noStar e = true := by rfl) (hpl : noStars es = true := by rfl) :
    EW X δ O (.Call (.Name x p) (e :: es) [] pos) ψ O2 := by
  obtain ⟨⟨fd, ps, ds, F, hb, hd⟩, hk⟩ := F
  intro B σ G H Q st q
  refine e_of (pe_make M F hr hg hm hb hd (E := E0) pass0 pa_w hdb (starEach_plain he) (backTo_plain hpl)) ?_
  refine ha B σ G H _ st fun vs G1 H1 m1 st1 hvs y dx hy hdx hne => ?_
  have st2 := st1.freshG (o := HO.own y) hdx
  have hy2 : (upd H1 dx (HO.own y)) y = none := by rw [upd_ne (fun z => hne z.symm)]; exact hy
  have st3 := st2.freshO (w := oIns y C []) (o := .ins C dx []) hy2 rfl (insOk_nil dx)
  have sg : Same G1 (upd G1 dx (HO.own y)) := same_new (gnone st1.stp hdx)
  have st4 : Sta X.K B δ (S.own (j y) ++ O2) σ (upd G1 dx (HO.own y)) (upd (upd H1 dx (HO.own y)) y (.ins C dx [])) := by rw [ho]; exact st3
  refine fs_use (j y) (hp y) st4 (by rw [← hss]; exact .cons rfl ((alls_dvs hvs (alls_vals dvs)).mono sg)) (by rw [ho, ho']; show [(ψ y).p] = [y]; rw [hψ]) fun v G' H' m3 st5 hv => ?_
  rw [hres] at hv
  rw [ho'] at st5
  exact ⟨hv, q y G' H' (none_of st1 hy) (m1.trans (sg.trans m3)) st5⟩
end
end
end Gd

namespace Gd
open PySem L2
section
variable {X : Cx} {B : Bs} {δ : List (Option Slot)} {O O1 O2 O3 : List Own} {a b c e : Expr} {es : List Expr} {x : Str} {p pos : Pos} {s s1 s2 s3 : Slot} {ss : List Slot} {α β : Type} {R : α → Slot} {i j : Int}
theorem szl {n : Nat} (h : n ≤ 100000) : n ≤ sizeLine := Nat.le_trans h (by decide)
/-! ### operators on scalars -/
theorem o_add : OpE X (binaryOp .Add) (sInt i) (sInt j) (sInt (i + j)) := ⟨_, op_add, fun B δ O σ G H Q x y st hx hy k => ⟨i, j, hx, hy, k _ G H (Same.refl _) st rfl⟩⟩
theorem o_sub : OpE X (binaryOp .Sub) (sInt i) (sInt j) (sInt (i - j)) := ⟨_, op_sub, fun B δ O σ G H Q x y st hx hy k => ⟨i, j, hx, hy, k _ G H (Same.refl _) st rfl⟩⟩
theorem o_mul (h : CMul i j) : OpE X (binaryOp .Mult) (sInt i) (sInt j) (sInt (i * j)) := ⟨_, op_mul, fun B δ O σ G H Q x y st hx hy k => ⟨i, j, hx, hy, h, k _ G H (Same.refl _) st rfl⟩⟩
theorem o_mulW (h : CMulW i j) : OpE X (binaryOp .Mult) (sInt i) (sInt j) (sInt (i * j)) := ⟨_, op_mulW, fun B δ O σ G H Q x y st hx hy k => ⟨i, j, hx, hy, h, k _ G H (Same.refl _) st rfl⟩⟩
theorem o_mod (h : 0 < j) : OpE X (binaryOp .Mod) (sInt i) (sInt j) (sInt (i % j)) := ⟨_, op_mod, fun B δ O σ G H Q x y st hx hy k => ⟨i, j, hx, hy, h, k _ G H (Same.refl _) st rfl⟩⟩
theorem o_fdiv (h : CDiv i j) : OpE X (binaryOp .FloorDiv) (sInt i) (sInt j) (sInt (i / j)) := ⟨_, op_fdiv, fun B δ O σ G H Q x y st hx hy k => ⟨i, j, hx, hy, h, k _ G H (Same.refl _) st rfl⟩⟩
theorem o_fdivW (h : CDivW i j) : OpE X (binaryOp .FloorDiv) (sInt i) (sInt j) (sInt (i / j)) := ⟨_, op_fdivW, fun B δ O σ G H Q x y st hx hy k => ⟨i, j, hx, hy, h, k _ G H (Same.refl _) st rfl⟩⟩
theorem o_pow (h : CPow i j) : OpE X (binaryOp .Pow) (sInt i) (sInt j) (sInt (i ^ j.toNat)) := ⟨_, op_pow, fun B δ O σ G H Q x y st hx hy k => ⟨i, j, hx, hy, h, k _ G H (Same.refl _) st rfl⟩⟩
theorem o_lt : OpE X (compareOp .Lt) (sInt i) (sInt j) (sBl (decide (i < j))) := ⟨_, op_lt, fun B δ O σ G H Q x y st hx hy k => ⟨i, j, hx, hy, k _ G H (Same.refl _) st rfl⟩⟩
theorem o_le : OpE X (compareOp .LtE) (sInt i) (sInt j) (sBl (decide (i ≤ j))) := ⟨_, op_le, fun B δ O σ G H Q x y st hx hy k => ⟨i, j, hx, hy, k _ G H (Same.refl _) st rfl⟩⟩
theorem o_gt : OpE X (compareOp .Gt) (sInt i) (sInt j) (sBl (decide (j < i))) := ⟨_, op_gt, fun B δ O σ G H Q x y st hx hy k => ⟨i, j, hx, hy, k _ G H (Same.refl _) st rfl⟩⟩
theorem o_ge : OpE X (compareOp .GtE) (sInt i) (sInt j) (sBl (decide (j ≤ i))) := ⟨_, op_ge, fun B δ O σ G H Q x y st hx hy k => ⟨i, j, hx, hy, k _ G H (Same.refl _) st rfl⟩⟩
theorem o_eqV {v w : V} {k : Bool} (h : scal v w = true) (hk : decide (v = w) = k) : OpE X (compareOp .Eq) (sVal v) (sVal w) (sBl k) :=
  ⟨_, op_eq, fun B δ O σ G H Q x y st hx hy q => by cases hx; cases hy; exact ⟨h, q _ G H (Same.refl _) st (by rw [hk]; rfl)⟩⟩
theorem o_neV {v w : V} {k : Bool} (h : scal v w = true) (hk : (!decide (v = w)) = k) : OpE X (compareOp .NotEq) (sVal v) (sVal w) (sBl k) :=
  ⟨_, op_ne, fun B δ O σ G H Q x y st hx hy q => by cases hx; cases hy; exact ⟨h, q _ G H (Same.refl _) st (by rw [hk]; rfl)⟩⟩
theorem o_eq : OpE X (compareOp .Eq) (sInt i) (sInt j) (sBl (decide (i = j))) := o_eqV rfl (decide_eq_decide.mpr ⟨fun h => V.int.inj h, fun h => h ▸ rfl⟩)
theorem o_ne : OpE X (compareOp .NotEq) (sInt i) (sInt j) (sBl (!decide (i = j))) := o_neV rfl (congrArg (!·) (decide_eq_decide.mpr ⟨fun h => V.int.inj h, fun h => h ▸ rfl⟩))
theorem o_eqS {u v : Str} : OpE X (compareOp .Eq) (sStr u) (sStr v) (sBl (decide (u = v))) := o_eqV rfl (decide_eq_decide.mpr ⟨fun h => V.str.inj h, fun h => h ▸ rfl⟩)
theorem o_neS {u v : Str} : OpE X (compareOp .NotEq) (sStr u) (sStr v) (sBl (!decide (u = v))) := o_neV rfl (congrArg (!·) (decide_eq_decide.mpr ⟨fun h => V.str.inj h, fun h => h ▸ rfl⟩))
theorem o_eqB {u v : Bool} : OpE X (compareOp .Eq) (sBl u) (sBl v) (sBl (decide (u = v))) := o_eqV rfl (decide_eq_decide.mpr ⟨fun h => V.bl.inj h, fun h => h ▸ rfl⟩)
theorem o_neB {u v : Bool} : OpE X (compareOp .NotEq) (sBl u) (sBl v) (sBl (!decide (u = v))) := o_neV rfl (congrArg (!·) (decide_eq_decide.mpr ⟨fun h => V.bl.inj h, fun h => h ▸ rfl⟩))
theorem o_isN {k : Bool} (h : ∀ (K : Fg) (G : Hp) (v : V), s.ok K G v → decide (v = V.non) = k) : OpE X (compareOp .Is) s sNon (sBl k) :=
  ⟨_, op_isN, fun B δ O σ G H Q x y st hx hy q => ⟨hy, q _ G H (Same.refl _) st (by rw [h _ _ _ hx]; rfl)⟩⟩
theorem o_notN {k : Bool} (h : ∀ (K : Fg) (G : Hp) (v : V), s.ok K G v → decide (v = V.non) = k) : OpE X (compareOp .IsNot) s sNon (sBl (!k)) :=
  ⟨_, op_notN, fun B δ O σ G H Q x y st hx hy q => ⟨hy, q _ G H (Same.refl _) st (by rw [h _ _ _ hx]; rfl)⟩⟩
theorem isn_opt {o : Option α} (h : ∀ a (K : Fg) (G : Hp) (v : V), (R a).ok K G v → v ≠ .non) : ∀ (K : Fg) (G : Hp) (v : V), (sOpt R o).ok K G v → decide (v = V.non) = o.isNone := fun K G v q => by
  cases o with
  | none =>
    have q : v = V.non := q
    rw [q]
    rfl
  | some a => exact decide_eq_false (h a K G v q)
theorem o_isO {o : Option α} (h : ∀ a (K : Fg) (G : Hp) (v : V), (R a).ok K G v → v ≠ .non) : OpE X (compareOp .Is) (sOpt R o) sNon (sBl o.isNone) := o_isN (isn_opt h)
theorem o_notO {o : Option α} (h : ∀ a (K : Fg) (G : Hp) (v : V), (R a).ok K G v → v ≠ .non) : OpE X (compareOp .IsNot) (sOpt R o) sNon (sBl (!o.isNone)) := o_notN (isn_opt h)
theorem o_notI : OpE X (compareOp .IsNot) (sInt i) sNon (sBl true) := o_notN (k := false) fun K G v h => by
  have h : v = V.int i := h
  rw [h]
  rfl
theorem o_isI : OpE X (compareOp .Is) (sInt i) sNon (sBl false) := o_isN fun K G v h => by
  have h : v = V.int i := h
  rw [h]
  rfl
theorem ins_notN {C : Addr} {tab : List (Str × Slot)} {K : Fg} {G : Hp} {v : V} (h : (sIns C tab).ok K G v) : v ≠ .non := by
  obtain ⟨p, o, rfl, _⟩ := h
  intro z; cases z
/-- a sign in a text -/
theorem o_inC {n : Nat} {t : Str} : OpE X (compareOp .In) (sStr ⟨#[n]⟩) (sStr t) (sBl (decide (n ∈ t.cps.toList))) :=
  ⟨_, op_in_sign, fun B δ O σ G H Q x y st hx hy k => ⟨n, t, hx, hy, k _ G H (Same.refl _) st rfl⟩⟩

/-! ### sequences -/
theorem sqT_up {K : Fg} {G H : Hp} {q : Addr} {vs : List V} (e : Same G H) (h : SqT K G q vs) : SqT K H q vs := sqT_mono e h
theorem o_cat {as bs : List α} (hz : as.length + bs.length ≤ sizeLine) : OpEW X (binaryOp .Add) (sLst R as) (sLst R bs) (fun p => oLst p R (as ++ bs)) :=
  ⟨_, op_cat, fun B δ O σ G H Q x y st hx hy k => by
    obtain ⟨p, vs, rfl, hp, r1⟩ := hx
    obtain ⟨q, ws, rfl, hq, r2⟩ := hy
    refine ⟨p, q, vs, ws, rfl, rfl, st.stp.gh _ _ hp, st.stp.gh _ _ hq, by rw [r1.length, r2.length]; exact hz, fun z hz' => ?_⟩
    exact k z G _ (none_of st hz') (Same.refl _) (st.freshO (w := oLst z R (as ++ bs)) hz' rfl ⟨_, rfl, r1.append r2⟩)⟩
/-- x in a tuple, a list of texts -/
theorem inV_str {z : Str} : ∀ {ts : List Str}, inV (.str z) (ts.map V.str) = decide (z ∈ ts)
  | [] => rfl
  | t :: ts => by
    show (eqV (.str t) (.str z) || inV (.str z) (ts.map V.str)) = _
    rw [inV_str (ts := ts)]
    have h : eqV (.str t) (.str z) = decide (z = t) := by
      unfold eqV
      by_cases e : t = z
      · subst e; simp
      · have e' : ¬ z = t := fun q => e q.symm
        simp [e, e']
    rw [h]
    by_cases e : z = t <;> simp [e]
theorem inV_int {z : Int} : ∀ {ts : List Int}, inV (.int z) (ts.map V.int) = decide (z ∈ ts)
  | [] => rfl
  | t :: ts => by
    show (eqV (.int t) (.int z) || inV (.int z) (ts.map V.int)) = _
    rw [inV_int (ts := ts)]
    have h : eqV (.int t) (.int z) = decide (z = t) := by
      unfold eqV
      by_cases e : t = z
      · subst e; simp
      · have e' : ¬ z = t := fun q => e q.symm
        simp [e, e']
    rw [h]
    by_cases e : z = t <;> simp [e]
theorem flat_strs {ts : List Str} : (ts.map V.str).all flatV = true := by
  rw [List.all_eq_true]
  intro v hv
  obtain ⟨t, _, rfl⟩ := List.mem_map.mp hv
  rfl
theorem flat_ints {ts : List Int} : (ts.map V.int).all flatV = true := by
  rw [List.all_eq_true]
  intro v hv
  obtain ⟨t, _, rfl⟩ := List.mem_map.mp hv
  rfl
theorem o_inT {z : Str} {ts : List Str} : OpE X (compareOp .In) (sStr z) (sTupl sStr ts) (sBl (decide (z ∈ ts))) :=
  ⟨_, op_in_seq, fun B δ O σ G H Q x y st hx hy k => by
    obtain ⟨p, vs, rfl, hp, r⟩ := hy
    cases hx
    have e := r.vals (f := V.str)
    subst e
    refine ⟨p, _, rfl, .inr (sqT_up st.stp.gh hp), rfl, flat_strs, ?_⟩
    rw [if_neg Bool.false_ne_true, inV_str]
    exact k _ G H (Same.refl _) st rfl⟩
theorem o_niT {z : Str} {ts : List Str} : OpE X (compareOp .NotIn) (sStr z) (sTupl sStr ts) (sBl (!decide (z ∈ ts))) :=
  ⟨_, op_notIn_seq, fun B δ O σ G H Q x y st hx hy k => by
    obtain ⟨p, vs, rfl, hp, r⟩ := hy
    cases hx
    have e := r.vals (f := V.str)
    subst e
    refine ⟨p, _, rfl, .inr (sqT_up st.stp.gh hp), rfl, flat_strs, ?_⟩
    rw [if_pos rfl, inV_str]
    exact k _ G H (Same.refl _) st rfl⟩

/-! ### data compared -/
/-- what a slot says as plain data -/
def IsD (s : Slot) (d : PyData) : Prop := ∀ (K : Fg) (G : Hp) (v : V), s.ok K G v → Dp K G v d
theorem isD_int {i : Int} : IsD (sInt i) (.int i) := fun K G v h => by cases h; exact .int i
theorem isD_str {z : Str} : IsD (sStr z) (.str z) := fun K G v h => by cases h; exact .str z
theorem dpAll {d : α → PyData} (h : ∀ a, IsD (R a) (d a)) {K : Fg} {G : Hp} : ∀ {vs : List V} {as : List α}, All2 K G R vs as → DpAll K G vs (as.map d)
  | _, _, .nil => .nil
  | _, _, .cons q t => .cons (h _ _ _ _ q) (dpAll h t)
theorem isD_lst {d : α → PyData} (h : ∀ a, IsD (R a) (d a)) {as : List α} : IsD (sLst R as) (.list (as.map d)) := fun K G v q => by
  obtain ⟨p, vs, rfl, hp, r⟩ := q
  exact .lst (SqL.of hp) (dpAll h r)
theorem isD_tupl {d : α → PyData} (h : ∀ a, IsD (R a) (d a)) {as : List α} : IsD (sTupl R as) (.tuple (as.map d)) := fun K G v q => by
  obtain ⟨p, vs, rfl, hp, r⟩ := q
  exact .tup hp (dpAll h r)
theorem dp_up {K : Fg} {G H : Hp} (e : Same G H) : ∀ (d : PyData) (v : V), Dp K G v d → Dp K H v d := by
  intro d v h
  exact Dp.rec (motive_1 := fun v d _ => Dp K H v d) (motive_2 := fun vs ds _ => DpAll K H vs ds) .non (fun b => .bl b) (fun i => .int i) (fun x => .str x) (fun h _ ih => .lst (e.seq h) ih) (fun h _ ih => .tup (sqT_up e h) ih) .nil (fun _ _ ih1 ih2 => .cons ih1 ih2) h
theorem o_eqD {d d' : PyData} {k : Nat} {w : Bool} (hr : Room k X.A) (h1 : IsD s1 d) (h2 : IsD s2 d') (hs1 : SeqAt.shaped d = true) (hs2 : SeqAt.shaped d' = true) (hw : PyData.eqv d d' = w) : OpE X (compareOp .Eq) s1 s2 (sBl w) :=
  ⟨_, op_eqD hr.units, fun B δ O σ G H Q x y st hx hy k => ⟨d, d', dp_up st.stp.gh _ _ (h1 _ _ _ hx), dp_up st.stp.gh _ _ (h2 _ _ _ hy), hs1, hs2, k _ G H (Same.refl _) st (by rw [hw]; rfl)⟩⟩
theorem o_neD {d d' : PyData} {k : Nat} {w : Bool} (hr : Room k X.A) (h1 : IsD s1 d) (h2 : IsD s2 d') (hs1 : SeqAt.shaped d = true) (hs2 : SeqAt.shaped d' = true) (hw : PyData.eqv d d' = w) : OpE X (compareOp .NotEq) s1 s2 (sBl (!w)) :=
  ⟨_, op_neD hr.units, fun B δ O σ G H Q x y st hx hy k => ⟨d, d', dp_up st.stp.gh _ _ (h1 _ _ _ hx), dp_up st.stp.gh _ _ (h2 _ _ _ hy), hs1, hs2, k _ G H (Same.refl _) st (by rw [hw]; rfl)⟩⟩
/-! ### rows of texts, of ints compared -/
def okStrs (ts : List Str) : Prop := ∀ t ∈ ts, PySem.PyData.strOk t = true
theorem canAll_strs {ts : List Str} (h : okStrs ts) : PyData.canLayAll0 (ts.map PyData.str) = true := by
  induction ts with
  | nil => simp [PyData.canLayAll0]
  | cons t ts ih =>
    have h1 := h t List.mem_cons_self
    have h2 := ih fun u hu => h u (List.mem_cons_of_mem _ hu)
    simp only [List.map_cons, PyData.canLayAll0, PyData.canLay0, h2, Bool.and_true]
    exact h1
theorem canAll_ints {ns : List Int} : PyData.canLayAll0 (ns.map PyData.int) = true := by
  induction ns with
  | nil => simp [PyData.canLayAll0]
  | cons t ts ih => simp only [List.map_cons, PyData.canLayAll0, PyData.canLay0, ih, Bool.and_true]
theorem depthAll_strs : ∀ ts : List Str, PyData.depthAll (ts.map PyData.str) = 0
  | [] => by simp [PyData.depthAll]
  | t :: ts => by simp [PyData.depthAll, PyData.depth, depthAll_strs ts]
theorem depthAll_ints : ∀ ts : List Int, PyData.depthAll (ts.map PyData.int) = 0
  | [] => by simp [PyData.depthAll]
  | t :: ts => by simp [PyData.depthAll, PyData.depth, depthAll_ints ts]
theorem shaped_lst {ds : List PyData} (h : PyData.canLayAll0 ds = true) (hd : PyData.depthAll ds ≤ 60) : SeqAt.shaped (.list ds) = true := by
  unfold SeqAt.shaped
  rw [Bool.and_eq_true]
  exact ⟨by simp only [PyData.canLay0, h], decide_eq_true (by simp only [PyData.depth]; omega)⟩
theorem shaped_tup {ds : List PyData} (h : PyData.canLayAll0 ds = true) (hd : PyData.depthAll ds ≤ 60) : SeqAt.shaped (.tuple ds) = true := by
  unfold SeqAt.shaped
  rw [Bool.and_eq_true]
  exact ⟨by simp only [PyData.canLay0, h], decide_eq_true (by simp only [PyData.depth]; omega)⟩
theorem eqvAll_map {f : α → PyData} (hf : ∀ a b, PyData.eqv (f a) (f b) = true ↔ a = b) : ∀ {xs ys : List α}, PyData.eqvAll (xs.map f) (ys.map f) = true ↔ xs = ys
  | [], [] => by simp [PyData.eqvAll]
  | [], y :: ys => by simp [PyData.eqvAll]
  | x :: xs, [] => by simp [PyData.eqvAll]
  | x :: xs, y :: ys => by
    simp only [List.map_cons, PyData.eqvAll, Bool.and_eq_true, hf, eqvAll_map hf (xs := xs) (ys := ys), List.cons.injEq]
theorem eqv_str (a b : Str) : PyData.eqv (.str a) (.str b) = true ↔ a = b := by simp [PyData.eqv]
theorem eqv_int (a b : Int) : PyData.eqv (.int a) (.int b) = true ↔ a = b := by simp [PyData.eqv]
theorem eqv_lst {f : α → PyData} (hf : ∀ a b, PyData.eqv (f a) (f b) = true ↔ a = b) [DecidableEq α] {xs ys : List α} : PyData.eqv (.list (xs.map f)) (.list (ys.map f)) = decide (xs = ys) := by
  rw [Bool.eq_iff_iff, decide_eq_true_eq]
  simp only [PyData.eqv]
  exact eqvAll_map hf
theorem eqv_tup {f : α → PyData} (hf : ∀ a b, PyData.eqv (f a) (f b) = true ↔ a = b) [DecidableEq α] {xs ys : List α} : PyData.eqv (.tuple (xs.map f)) (.tuple (ys.map f)) = decide (xs = ys) := by
  rw [Bool.eq_iff_iff, decide_eq_true_eq]
  simp only [PyData.eqv]
  exact eqvAll_map hf
theorem o_eqL {k : Nat} (hr : Room k X.A) {ts us : List Str} (h1 : okStrs ts) (h2 : okStrs us) : OpE X (compareOp .Eq) (sLst sStr ts) (sLst sStr us) (sBl (decide (ts = us))) :=
  o_eqD hr (isD_lst fun _ => isD_str) (isD_lst fun _ => isD_str) (shaped_lst (canAll_strs h1) (by rw [depthAll_strs]; decide)) (shaped_lst (canAll_strs h2) (by rw [depthAll_strs]; decide)) (eqv_lst eqv_str)
theorem o_neL {k : Nat} (hr : Room k X.A) {ts us : List Str} (h1 : okStrs ts) (h2 : okStrs us) : OpE X (compareOp .NotEq) (sLst sStr ts) (sLst sStr us) (sBl (!decide (ts = us))) :=
  o_neD hr (isD_lst fun _ => isD_str) (isD_lst fun _ => isD_str) (shaped_lst (canAll_strs h1) (by rw [depthAll_strs]; decide)) (shaped_lst (canAll_strs h2) (by rw [depthAll_strs]; decide)) (eqv_lst eqv_str)
theorem o_eqT {k : Nat} (hr : Room k X.A) {ts us : List Str} (h1 : okStrs ts) (h2 : okStrs us) : OpE X (compareOp .Eq) (sTupl sStr ts) (sTupl sStr us) (sBl (decide (ts = us))) :=
  o_eqD hr (isD_tupl fun _ => isD_str) (isD_tupl fun _ => isD_str) (shaped_tup (canAll_strs h1) (by rw [depthAll_strs]; decide)) (shaped_tup (canAll_strs h2) (by rw [depthAll_strs]; decide)) (eqv_tup eqv_str)
theorem o_neT {k : Nat} (hr : Room k X.A) {ts us : List Str} (h1 : okStrs ts) (h2 : okStrs us) : OpE X (compareOp .NotEq) (sTupl sStr ts) (sTupl sStr us) (sBl (!decide (ts = us))) :=
  o_neD hr (isD_tupl fun _ => isD_str) (isD_tupl fun _ => isD_str) (shaped_tup (canAll_strs h1) (by rw [depthAll_strs]; decide)) (shaped_tup (canAll_strs h2) (by rw [depthAll_strs]; decide)) (eqv_tup eqv_str)
/-- a class is an instance of itself -/
theorem kit_self {K : Fg} {t : Value} : PySem.W.kitOne K t t = some true := by
  unfold PySem.W.kitOne
  rw [if_pos (by simp)]
end
end Gd

namespace Gd
open PySem L2
section
variable {X : Cx} {B : Bs} {δ : List (Option Slot)} {O O1 O2 O3 : List Own} {a b c e : Expr} {es : List Expr} {x : Str} {p pos : Pos} {s s1 s2 s3 : Slot} {ss : List Slot} {α β : Type} {R : α → Slot} {S : β → Slot}
/-! ### built-in calls -/
theorem alls1 {K : Fg} {G : Hp} {vs : List V} (h : AllS K G vs [s]) : ∃ v, vs = [v] ∧ s.ok K G v := by
  cases h with
  | cons h t => cases t; exact ⟨_, rfl, h⟩
theorem alls2 {K : Fg} {G : Hp} {vs : List V} (h : AllS K G vs [s1, s2]) : ∃ v w, vs = [v, w] ∧ s1.ok K G v ∧ s2.ok K G w := by
  cases h with
  | cons h t => obtain ⟨w, rfl, h2⟩ := alls1 t; exact ⟨_, _, rfl, h, h2⟩
theorem c_len {as : List α} : CallE X (.builtin "len") [sLst R as] (sInt as.length) :=
  ⟨_, call_len_seq, fun B δ O σ G H Q xs st h k => by
    obtain ⟨v, rfl, p, vs, rfl, hp, r⟩ := alls1 h
    exact ⟨p, vs, rfl, .inl (SqL.of (st.stp.gh _ _ hp)), k _ G H (Same.refl _) st (by rw [r.length]; rfl)⟩⟩
theorem c_lenK {as : List α} : CallE X (.builtin "len") [sLstK R as] (sInt as.length) :=
  ⟨_, call_len_seq, fun B δ O σ G H Q xs st h k => by
    obtain ⟨v, rfl, p, vs, rfl, hp, r⟩ := alls1 h
    exact ⟨p, vs, rfl, .inl (Same.seq st.stp.gh hp), k _ G H (Same.refl _) st (by rw [r.length]; rfl)⟩⟩
theorem c_lenT {as : List α} : CallE X (.builtin "len") [sTupl R as] (sInt as.length) :=
  ⟨_, call_len_seq, fun B δ O σ G H Q xs st h k => by
    obtain ⟨v, rfl, p, vs, rfl, hp, r⟩ := alls1 h
    exact ⟨p, vs, rfl, .inr (sqT_up st.stp.gh hp), k _ G H (Same.refl _) st (by rw [r.length]; rfl)⟩⟩
theorem c_lenS {t : Str} (hz : t.length ≤ sizeLine) : CallE X (.builtin "len") [sStr t] (sInt t.length) :=
  ⟨_, call_len_str, fun B δ O σ G H Q xs st h k => by
    obtain ⟨v, rfl, hv⟩ := alls1 h
    cases hv
    exact ⟨t, rfl, hz, k _ G H (Same.refl _) st rfl⟩⟩
theorem c_int {i : Int} : CallE X (.type "int") [sInt i] (sInt i) :=
  ⟨_, call_int1, fun B δ O σ G H Q xs st h k => by
    obtain ⟨v, rfl, hv⟩ := alls1 h
    cases hv
    exact .inl ⟨i, rfl, k _ G H (Same.refl _) st rfl⟩⟩
theorem c_all {bs : List Bool} (hc : X.calm = true := by rfl) : CallE X (.builtin "all") [sLst sBl bs] (sBl (bs.all id)) :=
  ⟨_, cr_all hc, fun B δ O σ G H Q xs st h k => by
    obtain ⟨v, rfl, p, vs, rfl, hp, r⟩ := alls1 h
    have e := r.vals (f := V.bl)
    subst e
    exact ⟨p, bs, rfl, SqL.of (st.stp.gh _ _ hp), k _ G H (Same.refl _) st rfl⟩⟩
theorem c_any {bs : List Bool} (hc : X.calm = true := by rfl) : CallE X (.builtin "any") [sLst sBl bs] (sBl (bs.any id)) :=
  ⟨_, cr_any hc, fun B δ O σ G H Q xs st h k => by
    obtain ⟨v, rfl, p, vs, rfl, hp, r⟩ := alls1 h
    have e := r.vals (f := V.bl)
    subst e
    exact ⟨p, bs, rfl, SqL.of (st.stp.gh _ _ hp), k _ G H (Same.refl _) st rfl⟩⟩
theorem c_min {is : List Int} {m : Int} (hm : m ∈ is) (hl : ∀ y ∈ is, m ≤ y) (hc : X.calm = true := by rfl) : CallE X (.builtin "min") [sLst sInt is] (sInt m) :=
  ⟨_, cr_min hc, fun B δ O σ G H Q xs st h k => by
    obtain ⟨v, rfl, p, vs, rfl, hp, r⟩ := alls1 h
    have e := r.vals (f := V.int)
    subst e
    refine ⟨p, is, rfl, SqL.of (st.stp.gh _ _ hp), List.length_pos_of_mem hm, fun n hn hle => ?_⟩
    have : n = m := Int.le_antisymm (hle m hm) (hl n hn)
    subst this
    exact k _ G H (Same.refl _) st rfl⟩
theorem c_max {is : List Int} {m : Int} (hm : m ∈ is) (hl : ∀ y ∈ is, y ≤ m) (hc : X.calm = true := by rfl) : CallE X (.builtin "max") [sLst sInt is] (sInt m) :=
  ⟨_, cr_max hc, fun B δ O σ G H Q xs st h k => by
    obtain ⟨v, rfl, p, vs, rfl, hp, r⟩ := alls1 h
    have e := r.vals (f := V.int)
    subst e
    refine ⟨p, is, rfl, SqL.of (st.stp.gh _ _ hp), List.length_pos_of_mem hm, fun n hn hle => ?_⟩
    have : n = m := Int.le_antisymm (hl n hn) (hle m hm)
    subst this
    exact k _ G H (Same.refl _) st rfl⟩
theorem c_sum {is : List Int} (hc : X.calm = true := by rfl) : CallE X (.builtin "sum") [sLst sInt is] (sInt is.sum) :=
  ⟨_, cr_sum hc, fun B δ O σ G H Q xs st h k => by
    obtain ⟨v, rfl, p, vs, rfl, hp, r⟩ := alls1 h
    have e := r.vals (f := V.int)
    subst e
    exact ⟨p, is, rfl, SqL.of (st.stp.gh _ _ hp), k _ G H (Same.refl _) st rfl⟩⟩
theorem c_tuple {as : List α} : CallE X (.type "tuple") [sLst R as] (sTupl R as) :=
  ⟨_, call_tuple_of, fun B δ O σ G H Q xs st h k => by
    obtain ⟨v, rfl, p, vs, rfl, hp, r⟩ := alls1 h
    refine ⟨p, vs, rfl, .inl ⟨SqL.of (st.stp.gh _ _ hp), fun l hl => ?_⟩⟩
    have sg : Same G (upd G l (.tup vs)) := same_new (gnone st.stp hl)
    exact k _ _ _ sg (st.freshG hl) ⟨l, vs, rfl, SqT.of upd_same, r.mono sg⟩⟩
theorem c_tupleT {as : List α} : CallE X (.type "tuple") [sTupl R as] (sTupl R as) :=
  ⟨_, call_tuple_of, fun B δ O σ G H Q xs st h k => by
    obtain ⟨v, rfl, p, vs, rfl, hp, r⟩ := alls1 h
    exact ⟨p, vs, rfl, .inr ⟨sqT_up st.stp.gh hp, k _ G H (Same.refl _) st ⟨p, vs, rfl, hp, r⟩⟩⟩⟩
theorem c_list {as : List α} : CallW X (.type "list") [sLst R as] (fun p => oLst p R as) :=
  ⟨_, call_list_of, fun B δ O σ G H Q xs st h k => by
    obtain ⟨v, rfl, p, vs, rfl, hp, r⟩ := alls1 h
    exact ⟨p, vs, rfl, .inl (SqL.of (st.stp.gh _ _ hp)), fun l hl => k l G _ (none_of st hl) (Same.refl _) (st.freshO (w := oLst l R as) hl rfl ⟨vs, rfl, r⟩)⟩⟩
theorem c_listT {as : List α} : CallW X (.type "list") [sTupl R as] (fun p => oLst p R as) :=
  ⟨_, call_list_of, fun B δ O σ G H Q xs st h k => by
    obtain ⟨v, rfl, p, vs, rfl, hp, r⟩ := alls1 h
    exact ⟨p, vs, rfl, .inr (sqT_up st.stp.gh hp), fun l hl => k l G _ (none_of st hl) (Same.refl _) (st.freshO (w := oLst l R as) hl rfl ⟨vs, rfl, r⟩)⟩⟩
/-- the type of a slot's values -/
def TyS (s : Slot) (K : Fg) (t : Value) : Prop := ∀ (G H : Hp) (v : V), Same G H → s.ok K G v → TyX K H v t
section
variable {K : Fg}
theorem ty_int {i : Int} : TyS (sInt i) K (.type "int") := fun G H v e h => by cases h; exact .base (.int i)
theorem ty_bl {i : Bool} : TyS (sBl i) K (.type "bool") := fun G H v e h => by cases h; exact .base (.bl i)
theorem ty_str {i : Str} : TyS (sStr i) K (.type "str") := fun G H v e h => by cases h; exact .base (.str i)
theorem ty_non : TyS sNon K (.type "NoneType") := fun G H v e h => by cases h; exact .base .non
theorem ty_lst {as : List α} : TyS (sLst R as) K (.type "list") := fun G H v e h => by
  obtain ⟨p, vs, rfl, hp, r⟩ := h
  exact .base (.lst (e _ _ hp))
theorem ty_sqT {H : Hp} {p : Addr} {vs : List V} (h : SqT K H p vs) : TyX K H (.ref p) (.type "tuple") := by
  rcases h with (h | ⟨o, h⟩) | ⟨o, its, n, h, c, _⟩
  · exact .base (.tup h)
  · exact .fTuple h
  · exact .kTuple h c
theorem ty_tupl {as : List α} : TyS (sTupl R as) K (.type "tuple") := fun G H v e h => by
  obtain ⟨p, vs, rfl, hp, r⟩ := h
  exact ty_sqT (sqT_up e hp)
theorem ty_tup : TyS (sTup ss) K (.type "tuple") := fun G H v e h => by
  obtain ⟨p, vs, rfl, hp, r⟩ := h
  exact ty_sqT (sqT_up e hp)
/-- what isinstance asks of an own class -/
structure ClsI (K : Fg) (C : Addr) : Prop where
  cl : Cls K C
  ha : PySem.W.findIn K (.ref C) "__class__" = some (some (.builtin "object.__class__"))
  hn : PySem.W.specialIn K (.builtin "object.__class__") "__get__" = some (some (.builtin "getset_descriptor.__get__"))
  htk : PySem.W.takesIn K (.builtin "object.__class__") = some true
  hm : PySem.W.mroIn K C (.type "object") = some true
theorem ty_ins {C : Addr} {tab : List (Str × Slot)} (c : ClsI K C) : TyS (sIns C tab) K (.ref C) := fun G H v e h => by
  obtain ⟨p, o, rfl, hp, dx, fs, rfl, _⟩ := h
  exact .base (.ins (e _ _ hp) c.cl c.ha c.hn c.htk c.hm)
end
theorem c_isi {t : Value} {n : String} {k : Bool} (ty : TyS s X.K t) (hk : PySem.W.kitOne X.K t (.type n) = some k) : CallE X (.builtin "isinstance") [s, sVal (.ty n)] (sBl k) :=
  ⟨_, call_isi, fun B δ O σ G H Q xs st h q => by
    obtain ⟨v, w, rfl, h1, h2⟩ := alls2 h
    cases h2
    exact ⟨v, .ty n, t, .type n, k, rfl, .ty n, ty G H v st.stp.gh h1, hk, q _ G H (Same.refl _) st rfl⟩⟩
theorem c_isiC {t : Value} {C : Addr} {k : Bool} (ty : TyS s X.K t) (hk : PySem.W.kitOne X.K t (.ref C) = some k) : CallE X (.builtin "isinstance") [s, sRef C] (sBl k) :=
  ⟨_, call_isi, fun B δ O σ G H Q xs st h q => by
    obtain ⟨v, w, rfl, h1, h2⟩ := alls2 h
    cases h2
    exact ⟨v, .ref C, t, .ref C, k, rfl, .own C, ty G H v st.stp.gh h1, hk, q _ G H (Same.refl _) st rfl⟩⟩
/-- a tuple that the body has made, place by place -/
def sTupX (ss : List Slot) : Slot :=
  ⟨fun K G v => ∃ p vs, v = .ref p ∧ G p = some (.tup vs) ∧ AllS K G vs ss, fun e ⟨p, vs, h, q, r⟩ => ⟨p, vs, h, e _ _ q, r.mono e⟩⟩
theorem e_tupX {x1} (h : EA X δ O es ss O1) (hz : ss.length ≤ sizeLine) : E X δ O (.Tuple es x1 pos) (sTupX ss) O1 := by
  intro B σ G H Q st k
  refine e_of (pe_tup pa_w) ?_
  refine h B σ G H _ st fun vs G1 H1 m1 st1 hv => ⟨by rw [hv.length]; exact hz, fun q hq => ?_⟩
  have sg : Same G1 (upd G1 q (.tup vs)) := same_new (gnone st1.stp hq)
  exact k _ _ _ (m1.trans sg) (st1.freshG hq) ⟨q, vs, rfl, upd_same, hv.mono sg⟩
/-- isinstance(x, (list, tuple)) -/
theorem c_isi2 {t : Value} {m n : String} {k : Bool} (ty : TyS s X.K t) (hk : PySem.W.kitAny X.K t [.type m, .type n] = some k) : CallE X (.builtin "isinstance") [s, sTupX [sVal (.ty m), sVal (.ty n)]] (sBl k) :=
  ⟨_, call_isiT, fun B δ O σ G H Q xs st h q => by
    obtain ⟨v, w, rfl, h1, p, vs, rfl, hp, h2⟩ := alls2 h
    obtain ⟨v1, v2, rfl, e1, e2⟩ := alls2 h2
    cases e1
    cases e2
    exact ⟨v, p, _, t, _, k, rfl, st.stp.gh _ _ hp, .cons (.ty m) (.cons (.ty n) .nil), ty G H v st.stp.gh h1, hk, q _ G H (Same.refl _) st rfl⟩⟩

/-! ### subscripts, slices -/
theorem e_ix (hi : IxE X s1 s2 s3) (ha : E X δ O a s1 O1) (hb : E X δ O1 b s2 O2) (hs : noSlice b = true := by rfl) : E X δ O (.Subscript a b pos) s3 O2 := by
  obtain ⟨r, h1, h2⟩ := hi
  intro B σ G H Q st k
  refine e_of (pe_ix h1 pe_w pe_w (plainIx_of hs)) ?_
  exact ha B σ G H _ st fun x G1 H1 m1 st1 hx => hb B σ G1 H1 _ st1 fun y G2 H2 m2 st2 hy => h2 B δ O2 σ G2 H2 Q x y st2 (s1.mono m2 hx) hy fun v G' H' m3 st3 hv => k v G' H' (m1.trans (m2.trans m3)) st3 hv
theorem atI_all2 {K : Fg} {G : Hp} {vs : List V} {as : List α} {i : Int} {y : α} (r : All2 K G R vs as) (h : atI as i = some y) : ∃ v, atI vs i = some v ∧ (R y).ok K G v := by
  unfold atI at h ⊢
  rw [r.length]
  cases e : ixN as.length i with
  | none => rw [e] at h; cases h
  | some j =>
    rw [e] at h
    exact r.get h
theorem i_lst {as : List α} {i : Int} {y : α} (h : atI as i = some y) : IxE X (sLst R as) (sInt i) (R y) :=
  ⟨_, ix_list, fun B δ O σ G H Q v w st hv hw k => by
    obtain ⟨p, vs, rfl, hp, r⟩ := hv
    cases hw
    obtain ⟨u, h1, h2⟩ := atI_all2 r h
    exact ⟨p, vs, i, u, rfl, rfl, SqL.of (st.stp.gh _ _ hp), h1, k _ G H (Same.refl _) st h2⟩⟩
theorem i_lstK {as : List α} {i : Int} {y : α} (h : atI as i = some y) : IxE X (sLstK R as) (sInt i) (R y) :=
  ⟨_, ix_list, fun B δ O σ G H Q v w st hv hw k => by
    obtain ⟨p, vs, rfl, hp, r⟩ := hv
    cases hw
    obtain ⟨u, h1, h2⟩ := atI_all2 r h
    exact ⟨p, vs, i, u, rfl, rfl, Same.seq st.stp.gh hp, h1, k _ G H (Same.refl _) st h2⟩⟩
theorem i_tupl {as : List α} {i : Int} {y : α} (h : atI as i = some y) : IxE X (sTupl R as) (sInt i) (R y) :=
  ⟨_, ix_tup, fun B δ O σ G H Q v w st hv hw k => by
    obtain ⟨p, vs, rfl, hp, r⟩ := hv
    cases hw
    obtain ⟨u, h1, h2⟩ := atI_all2 r h
    exact ⟨p, vs, i, u, rfl, rfl, sqT_up st.stp.gh hp, h1, k _ G H (Same.refl _) st h2⟩⟩
theorem allS_get {K : Fg} {G : Hp} : ∀ {vs : List V} {ss : List Slot} {j : Nat} {s : Slot}, AllS K G vs ss → ss[j]? = some s → ∃ v, vs[j]? = some v ∧ s.ok K G v
  | _, _, _, _, .nil, h => by simp at h
  | _, _, 0, _, .cons h t, e => by simp at e; subst e; exact ⟨_, rfl, h⟩
  | _, _, j + 1, s, .cons h t, e => by
    obtain ⟨v, h1, h2⟩ := allS_get t (j := j) (s := s) (by simpa using e)
    exact ⟨v, by simpa using h1, h2⟩
theorem i_tup {i : Int} (j : Nat) (h : ixN ss.length i = some j) (hj : ss[j]? = some s) : IxE X (sTup ss) (sInt i) s :=
  ⟨_, ix_tup, fun B δ O σ G H Q v w st hv hw k => by
    obtain ⟨p, vs, rfl, hp, r⟩ := hv
    cases hw
    obtain ⟨u, h1, h2⟩ := allS_get r hj
    refine ⟨p, vs, i, u, rfl, rfl, sqT_up st.stp.gh hp, ?_, k _ G H (Same.refl _) st h2⟩
    unfold atI
    rw [r.length, h]
    exact h1⟩
/-- xs[i] of an owned list, place by place -/
theorem e_ixO {q : Addr} {i : Int} (jw j : Nat) (ha : E X δ O a (sRef q) O1) (hb : E X δ O1 b (sInt i) O2) (hw : O2[jw]? = some (oLstS q ss) := by rfl) (h : ixN ss.length i = some j := by rfl) (hj : ss[j]? = some s := by rfl) (hs : noSlice b = true := by rfl) : E X δ O (.Subscript a b pos) s O2 := by
  intro B σ G H Q st k
  refine e_of (pe_ix ix_list pe_w pe_w (plainIx_of hs)) ?_
  refine ha B σ G H _ st fun x G1 H1 m1 st1 hx => hb B σ G1 H1 _ st1 fun y G2 H2 m2 st2 hy => ?_
  cases hx
  cases hy
  obtain ⟨o, hq, _, vs, rfl, r⟩ := st2.own _ (List.mem_of_getElem? hw)
  obtain ⟨u, h1, h2⟩ := allS_get r hj
  refine ⟨q, vs, i, u, rfl, rfl, SqL.of hq, ?_, k _ G2 H2 (m1.trans m2) st2 h2⟩
  unfold atI
  rw [r.length, h]
  exact h1
/-- a part of a slice -/
def PoE (X : Cx) (δ : List (Option Slot)) (O : List Own) (e : Option Expr) (o : Option Int) (O' : List Own) : Prop :=
  ∃ t, PO X e t ∧ ∀ (B : Bs) (σ : SS) (G H : Hp) (Q : Option Int → Hp → Prop), Sta X.K B δ O σ G H → (∀ G' H', Same G G' → Sta X.K B δ O' σ G' H' → Q o H') → t σ H Q
theorem po_n : PoE X δ O none none O := ⟨_, po_none, fun B σ G H Q st k => k G H (Same.refl _) st⟩
theorem po_s {i : Int} (h : E X δ O e (sInt i) O1) : PoE X δ O (some e) (some i) O1 := ⟨_, po_some pe_w, fun B σ G H Q st k => h B σ G H _ st fun v G' H' m st' hv => ⟨i, hv, k G' H' m st'⟩⟩
/-- a list's stretch -/
def cutA (as : List α) (lo hi : Option Int) : List α := (as.drop (HT.sIx as.length 0 lo)).take (HT.sIx as.length as.length hi - HT.sIx as.length 0 lo)
theorem cut_all2 {K : Fg} {G : Hp} {vs : List V} {as : List α} (lo hi : Option Int) (r : All2 K G R vs as) : All2 K G R (cutV vs lo hi) (cutA as lo hi) := by
  unfold cutV cutA
  rw [r.length]
  exact (r.drop _).take _
theorem ew_slice {as : List α} {lo hi : Option Expr} {l u : Option Int} {p2 : Pos} (he : E X δ O e (sLst R as) O1) (hl : PoE X δ O1 lo l O2) (hu : PoE X δ O2 hi u O3) : EW X δ O (.Subscript e (.Slice lo hi none p2) pos) (fun p => oLst p R (cutA as l u)) O3 := by
  obtain ⟨t1, g1, f1⟩ := hl
  obtain ⟨t2, g2, f2⟩ := hu
  intro B σ G H Q st k
  refine e_of (pe_slice sl_list pe_w g1 g2) ?_
  refine he B σ G H _ st fun x G1 H1 m1 st1 hx => f1 B σ G1 H1 _ st1 fun G2 H2 m2 st2 => f2 B σ G2 H2 _ st2 fun G3 H3 m3 st3 => ?_
  obtain ⟨p, vs, rfl, hp, r⟩ := hx
  refine ⟨p, vs, rfl, SqL.of (st3.stp.gh _ _ (m3 _ _ (m2 _ _ hp))), fun q hq => ?_⟩
  exact k q G3 _ (none_of st3 hq) (m1.trans (m2.trans m3)) (st3.freshO (w := oLst q R (cutA as l u)) hq rfl ⟨_, rfl, cut_all2 l u (r.mono (m2.trans m3))⟩)
theorem ew_sliceK {as : List α} {lo hi : Option Expr} {l u : Option Int} {p2 : Pos} (he : E X δ O e (sLstK R as) O1) (hl : PoE X δ O1 lo l O2) (hu : PoE X δ O2 hi u O3) : EW X δ O (.Subscript e (.Slice lo hi none p2) pos) (fun p => oLst p R (cutA as l u)) O3 := by
  obtain ⟨t1, g1, f1⟩ := hl
  obtain ⟨t2, g2, f2⟩ := hu
  intro B σ G H Q st k
  refine e_of (pe_slice sl_list pe_w g1 g2) ?_
  refine he B σ G H _ st fun x G1 H1 m1 st1 hx => f1 B σ G1 H1 _ st1 fun G2 H2 m2 st2 => f2 B σ G2 H2 _ st2 fun G3 H3 m3 st3 => ?_
  obtain ⟨p, vs, rfl, hp, r⟩ := hx
  refine ⟨p, vs, rfl, Same.seq st3.stp.gh (Same.seq m3 (Same.seq m2 hp)), fun q hq => ?_⟩
  exact k q G3 _ (none_of st3 hq) (m1.trans (m2.trans m3)) (st3.freshO (w := oLst q R (cutA as l u)) hq rfl ⟨_, rfl, cut_all2 l u (r.mono (m2.trans m3))⟩)
theorem ew_rev {as : List α} {k : Nat} {p1 p2 p3 : Pos} (he : E X δ O e (sLst R as) O1) : EW X δ O (.Subscript e (.Slice none none (some (.UnaryOp .USub (.Constant (.int 1) k p1) p2)) p3) pos) (fun p => oLst p R as.reverse) O1 := by
  intro B σ G H Q st q
  refine e_of (pe_revL pe_w) ?_
  refine he B σ G H _ st fun x G1 H1 m1 st1 hx => ?_
  obtain ⟨p, vs, rfl, hp, r⟩ := hx
  exact ⟨p, vs, rfl, SqL.of (st1.stp.gh _ _ hp), fun z hz => q z G1 _ (none_of st1 hz) m1 (st1.freshO (w := oLst z R as.reverse) hz rfl ⟨_, rfl, r.reverse⟩)⟩
end
end Gd

namespace Gd
open PySem L2
section
variable {X : Cx} {B B1 : Bs} {δ δ' : List (Option Slot)} {O O1 O2 O3 : List Own} {a b c e o : Expr} {es : List Expr} {x : Str} {p pos : Pos} {s s1 s2 s3 : Slot} {ss : List Slot} {α β : Type} {R : α → Slot} {S : β → Slot} {D : Ends} {rest sts : List Stmt} {u : Bool}

theorem allS_set {K : Fg} {G : Hp} {s : Slot} {v : V} (h : s.ok K G v) : ∀ {vs : List V} {ss : List Slot} {j : Nat}, AllS K G vs ss → AllS K G (vs.set j v) (ss.set j s)
  | _, _, _, .nil => .nil
  | _, _, 0, .cons _ t => .cons h t
  | _, _, j + 1, .cons q t => .cons q (allS_set h t)
/-! ### frames: what an expression does not own stands -/
theorem Sta.at {K : Fg} {σ : SS} {G H : Hp} (st : Sta K B δ (O1 ++ O) σ G H) : Sta K ⟨O1.map (·.p), G, H⟩ δ O1 σ G H := by
  have nd := st.nd
  rw [List.map_append] at nd
  exact ⟨Stp.refl st.stp.gh, st.env, st.len, fun w hw => st.own w (List.mem_append_left _ hw), fun w hw => .inl (List.mem_map.mpr ⟨w, hw, rfl⟩), (List.nodup_append.mp nd).1⟩
theorem Sta.back {K : Fg} {σ : SS} {G H G' H' : Hp} (st : Sta K B δ (O1 ++ O) σ G H) (t : Sta K ⟨O1.map (·.p), G, H⟩ δ O2 σ G' H') : Sta K B δ (O2 ++ O) σ G' H' := by
  have nd := st.nd
  rw [List.map_append] at nd
  refine ⟨st.stp.trans t.stp fun q hq => ?_, t.env, t.len, fun w hw => ?_, fun w hw => ?_, ?_⟩
  · obtain ⟨w, hw, e⟩ := List.mem_map.mp hq
    rw [← e]; exact st.new w (List.mem_append_left _ hw)
  · rcases List.mem_append.mp hw with hw | hw
    · exact t.own w hw
    · obtain ⟨o, h1, h2, h3⟩ := st.own w (List.mem_append_right _ hw)
      have hn : w.p ∉ O1.map (·.p) := fun z => (List.nodup_append.mp nd).2.2 _ z _ (List.mem_map.mpr ⟨w, hw, rfl⟩) rfl
      exact ⟨o, t.stp.fr _ _ h1 hn, t.stp.nf _ _ h1 h2, w.mono t.stp.ex h3⟩
  · rcases List.mem_append.mp hw with hw | hw
    · rcases t.new w hw with k | k
      · obtain ⟨v, hv, e⟩ := List.mem_map.mp k
        rw [← e]; exact st.new v (List.mem_append_left _ hv)
      · right
        cases e : B.H w.p with
        | none => rfl
        | some o =>
          obtain ⟨o', e'⟩ := st.stp.th _ _ e
          have k : H w.p = none := k
          rw [k] at e'; cases e'
    · exact st.new w (List.mem_append_right _ hw)
  · rw [List.map_append, List.nodup_append]
    refine ⟨t.nd, (List.nodup_append.mp nd).2.1, fun q hq r hr hqr => ?_⟩
    subst hqr
    obtain ⟨w, hw, e⟩ := List.mem_map.mp hq
    obtain ⟨v, hv, e'⟩ := List.mem_map.mp hr
    obtain ⟨o, h1, _, _⟩ := st.own v (List.mem_append_right _ hv)
    rcases t.new w hw with k | k
    · refine (List.nodup_append.mp nd).2.2 _ k _ (List.mem_map.mpr ⟨v, hv, rfl⟩) ?_
      rw [e, e']
    · have k : H w.p = none := k
      rw [e, ← e', h1] at k; cases k
theorem e_frame (h : E X δ O1 e s O2) : E X δ (O1 ++ O) e s (O2 ++ O) := fun B σ G H Q st k =>
  h _ σ G H Q st.at fun v G' H' m st' hv => k v G' H' m (st.back st') hv
theorem ew_frame {φ : Addr → Own} (h : EW X δ O1 e φ O2) (hφ : ∀ p, (φ p).p = p) : EW X δ (O1 ++ O) e φ (O2 ++ O) := fun B σ G H Q st k =>
  h _ σ G H Q st.at fun p G' H' hb m st' => k p G' H' (by
    cases e : B.H p with
    | none => rfl
    | some o =>
      obtain ⟨o', e'⟩ := st.stp.th _ _ e
      have hb : H p = none := hb
      rw [hb] at e'; cases e') m (st.back (O2 := φ p :: O2) st')
theorem t_frame (h : T X δ O1 e u O2) : T X δ (O1 ++ O) e u (O2 ++ O) := fun B σ G H Q st k =>
  h _ σ G H Q st.at fun G' H' m st' => k G' H' m (st.back st')
/-- the owned objects in another order -/
theorem e_perm (h : E X δ O2 e s O3) (h1 : ∀ w ∈ O2, w ∈ O1) (nd : (O1.map (·.p)).Nodup → (O2.map (·.p)).Nodup) : E X δ O1 e s O3 := fun B σ G H Q st k =>
  h B σ G H Q (st.perm h1 (nd st.nd)) k
theorem e_rot {w : Own} (h : E X δ (O1 ++ [w]) e s O2) : E X δ (w :: O1) e s O2 := e_perm h (fun v hv => by simp at hv ⊢; exact hv.symm) fun nd => by
  rw [List.map_cons, List.nodup_cons] at nd
  rw [List.map_append, List.nodup_append]
  refine ⟨nd.2, by simp, fun q hq r hr e => nd.1 ?_⟩
  simp at hr
  rw [← hr, ← e]; exact hq

/-! ### bases -/
structure BLe (B B1 : Bs) : Prop where
  a : B1.A = B.A
  h : B1.H = B.H
  g : Same B.G B1.G
  n : ∀ p o, B.H p = some o → B.G p = none → B1.G p = none
theorem BLe.refl (B : Bs) : BLe B B := ⟨rfl, rfl, Same.refl _, fun _ _ _ h => h⟩
theorem BLe.trans {B2 : Bs} (h : BLe B B1) (k : BLe B1 B2) : BLe B B2 := ⟨k.a.trans h.a, k.h.trans h.h, h.g.trans k.g, fun p o e n => k.n p o (by rw [h.h]; exact e) (h.n p o e n)⟩
theorem Stp.le {G H : Hp} (l : BLe B B1) (t : Stp B1 G H) : Stp B G H :=
  ⟨t.gh, l.g.trans t.ex, fun p o e n => t.fr p o (by rw [l.h]; exact e) (by rw [l.a]; exact n), fun p o e => t.th p o (by rw [l.h]; exact e), fun p o e n => t.nf p o (by rw [l.h]; exact e) (l.n p o e n)⟩
theorem Sta.le {K : Fg} {σ : SS} {G H : Hp} (l : BLe B B1) (t : Sta K B1 δ O σ G H) : Sta K B δ O σ G H :=
  ⟨t.stp.le l, t.env, t.len, t.own, fun w hw => by have := t.new w hw; rwa [l.a, l.h] at this, t.nd⟩
/-- the base moves up to the frozen heap as it stands -/
theorem Sta.up {K : Fg} {σ : SS} {G H : Hp} (t : Sta K B δ O σ G H) : BLe B ⟨B.A, G, B.H⟩ ∧ Sta K ⟨B.A, G, B.H⟩ δ O σ G H :=
  ⟨⟨rfl, rfl, t.stp.ex, fun p o e n => t.stp.nf p o e n⟩, ⟨⟨t.stp.gh, Same.refl _, t.stp.fr, t.stp.th, fun _ _ _ n => n⟩, t.env, t.len, t.own, t.new, t.nd⟩⟩

/-- slots forgotten -/
inductive WkD : List (Option Slot) → List (Option Slot) → Prop
  | nil : WkD [] []
  | same {s : Option Slot} {a b : List (Option Slot)} : WkD a b → WkD (s :: a) (s :: b)
  | skip {s : Option Slot} {a b : List (Option Slot)} : WkD a b → WkD (none :: a) (s :: b)
theorem WkD.length : ∀ {a b : List (Option Slot)}, WkD a b → a.length = b.length
  | _, _, .nil => rfl
  | _, _, .same h => by simp [h.length]
  | _, _, .skip h => by simp [h.length]
theorem WkD.get : ∀ {a b : List (Option Slot)} {i : Nat} {t : Slot}, WkD a b → a[i]? = some (some t) → b[i]? = some (some t)
  | _, _, _, _, .nil, h => by simp at h
  | _, _, 0, _, .same _, h => by simpa using h
  | _, _, 0, _, .skip _, h => by simp at h
  | _, _, i + 1, t, .same q, h => by simpa using q.get (i := i) (t := t) (by simpa using h)
  | _, _, i + 1, t, .skip q, h => by simpa using q.get (i := i) (t := t) (by simpa using h)
theorem Sta.wk {K : Fg} {σ : SS} {G H : Hp} (st : Sta K B δ O σ G H) (h : WkD δ' δ) : Sta K B δ' O σ G H := st.weak h.length fun i t hi => ⟨t, h.get hi, fun _ _ _ q => q⟩

/-! ### statements -/
/-- behind the statements st -/
def Ends.thenS (X : Cx) (rest : List Stmt) (D : Ends) : Ends := { D with nx := fun σ H => wSs X rest D σ H }
theorem j_cons {st : Stmt} (h : ∀ (σ : SS) (G H : Hp), Sta X.K B δ O σ G H → wS X st { D with nx := fun σ H => wSs X rest D σ H } σ H) : J X B δ O (st :: rest) D := fun σ G H q => ss_of (pss_cons ps_w pss_w) (h σ G H q)
theorem j_nil (h : ∀ (σ : SS) (G H : Hp), Sta X.K B δ O σ G H → D.nx σ H) : J X B δ O [] D := fun σ G H q => ss_of pss_nil (h σ G H q)
/-- at the end of a branch: on with what follows -/
theorem j_on {sts : List Stmt} (h : J X B δ O sts D) : J X B δ O [] { D with nx := fun σ H => wSs X sts D σ H } := j_nil fun σ G H q => h σ G H q
theorem j_pass (h : J X B δ O rest D) : J X B δ O (.Pass pos :: rest) D := j_cons fun σ G H q => s_of ps_pass (h σ G H q)
theorem j_set {px : Pos} (i : Nat) (h : E X δ O e s O1) (q : J X B (δ.set i (some s)) O1 rest D) (hN : X.N.Nodup) (hi : X.N[i]? = some x := by rfl)
    (hx : Loc X.env.scope x := by first | exact Or.inl rfl | exact Or.inr rfl) (hs : noCompr e = true := by rfl) (hf : X.fn x = true ∨ X.env.scope.names.lookup x = some .local := by first | exact .inl rfl | exact .inr rfl) : J X B δ O (.Assign [.Name x px] e pos :: rest) D :=
  j_cons fun σ G H st => s_of (ps_set hN hi hx pe_w (swaps_plain hs) hf) (h B σ G H _ st fun v G' H' m st' hv => q _ G' H' (st'.set hv))
/-- x = a new object -/
theorem j_setW {px : Pos} {φ : Addr → Own} (i : Nat) (h : EW X δ O e φ O1) (q : ∀ r, B.H r = none → J X B (δ.set i (some (sRef r))) (φ r :: O1) rest D) (hN : X.N.Nodup) (hi : X.N[i]? = some x := by rfl)
    (hx : Loc X.env.scope x := by first | exact Or.inl rfl | exact Or.inr rfl) (hs : noCompr e = true := by rfl) (hf : X.fn x = true ∨ X.env.scope.names.lookup x = some .local := by first | exact .inl rfl | exact .inr rfl) : J X B δ O (.Assign [.Name x px] e pos :: rest) D :=
  j_cons fun σ G H st => s_of (ps_set hN hi hx pe_w (swaps_plain hs) hf) (h B σ G H _ st fun r G' H' hb m st' => q r hb _ G' H' (st'.set rfl))
theorem j_aug {px : Pos} {n m : Int} (i : Nat) (hd : δ[i]? = some (some (sInt n))) (h : E X δ O e (sInt m) O1) (q : J X B (δ.set i (some (sInt (n + m)))) O1 rest D) (hN : X.N.Nodup) (hi : X.N[i]? = some x := by rfl)
    (hx : Loc X.env.scope x := by first | exact Or.inl rfl | exact Or.inr rfl) (hf : X.fn x = true ∨ X.env.scope.names.lookup x = some .local := by first | exact .inl rfl | exact .inr rfl) : J X B δ O (.AugAssign (.Name x px) .Add e pos :: rest) D :=
  j_cons fun σ G H st => s_of (ps_aug hN hi hx pe_w ip_add hf) (by
    obtain ⟨v, e1, hv⟩ := st.env i _ hd
    cases hv
    exact ⟨_, e1, h B σ G H _ st fun w G' H' mm st' hw => ⟨n, m, rfl, hw, q _ G' H' (st'.set rfl)⟩⟩)
theorem j_if {ys ns : List Stmt} (h : T X δ O c u O1) (hy : u = true → J X B δ O1 ys { D with nx := fun σ H => wSs X rest D σ H }) (hn : u = false → J X B δ O1 ns { D with nx := fun σ H => wSs X rest D σ H }) : J X B δ O (.If c ys ns pos :: rest) D :=
  j_cons fun σ G H st => s_of (ps_if pt_w pss_w pss_w) (h B σ G H _ st fun G' H' m st' => by
    cases u with
    | true => exact iteT (hy rfl _ G' H' st')
    | false => exact iteF (hn rfl _ G' H' st'))
theorem j_ret (h : E X δ O e s O1) (q : ∀ v σ G' H', Sta X.K B δ O1 σ G' H' → s.ok X.K G' v → D.rt v H') : J X B δ O (.Return (some e) pos :: rest) D :=
  j_cons fun σ G H st => s_of (ps_ret pe_w) (h B σ G H _ st fun v G' H' m st' hv => q v σ G' H' st' hv)
theorem j_expr (h : E X δ O e s O1) (q : J X B δ O1 rest D) (hs : noCompr e = true := by rfl) : J X B δ O (.Expr e pos :: rest) D :=
  j_cons fun σ G H st => s_of (ps_expr pe_w (swaps_plain hs)) (h B σ G H _ st fun v G' H' m st' hv => q _ G' H' st')
theorem j_break (q : ∀ (σ : SS) (G H : Hp), Sta X.K B δ O σ G H → D.bk σ H) : J X B δ O (.Break pos :: rest) D := j_cons fun σ G H st => s_of ps_break (q σ G H st)
theorem j_cont (q : ∀ (σ : SS) (G H : Hp), Sta X.K B δ O σ G H → D.ct σ H) : J X B δ O (.Continue pos :: rest) D := j_cons fun σ G H st => s_of ps_continue (q σ G H st)
/-- a fact of the state -/
theorem j_sta (h : (∃ (σ : SS) (G H : Hp), Sta X.K B δ O σ G H) → J X B δ O sts D) : J X B δ O sts D := fun σ G H q => h ⟨σ, G, H, q⟩ σ G H q
theorem j_weak (δ' : List (Option Slot)) (h : J X B δ' O sts D) (hl : δ'.length = δ.length := by rfl) (hw : ∀ (i : Nat) (t : Slot), δ'[i]? = some (some t) → ∃ u : Slot, δ[i]? = some (some u) ∧ ∀ K G v, u.ok K G v → t.ok K G v) : J X B δ O sts D :=
  fun σ G H q => h σ G H (q.weak hl hw)
theorem j_perm (O' : List Own) (h : J X B δ O' sts D) (h1 : ∀ w ∈ O', w ∈ O) (nd : (O.map (·.p)).Nodup → (O'.map (·.p)).Nodup) : J X B δ O sts D := fun σ G H q => h σ G H (q.perm h1 (nd q.nd))
/-- forget the first owned object -/
theorem j_drop {w : Own} (h : J X B δ O sts D) : J X B δ (w :: O) sts D := j_perm O h (fun v hv => List.mem_cons_of_mem _ hv) fun nd => by
  rw [List.map_cons] at nd
  exact (List.nodup_cons.mp nd).2
/-- the owned list in slot i, new since the entry, is frozen -/
theorem j_freeze (i : Nat) {w : Own} (hd : δ[i]? = some (some (sRef w.p))) (hb : B.H w.p = none) (hs : ∀ (K : Fg) (G : Hp) (o : HO), w.φ K G o → G w.p = none → s.ok K (upd G w.p o) (.ref w.p)) (h : J X B (δ.set i (some s)) O sts D) : J X B δ (w :: O) sts D := fun σ G H q => by
  obtain ⟨o, h1, h2, h3⟩ := q.freeze hb
  obtain ⟨v, e, hv⟩ := q.env i _ hd
  cases hv
  have gp : G w.p = none := by
    obtain ⟨_, _, g, _⟩ := q.own w List.mem_cons_self
    exact g
  have hi : i < σ.length := by
    rcases Nat.lt_or_ge i σ.length with z | z
    · exact z
    · rw [List.getElem?_eq_none z] at e; cases e
  have := h3.set (i := i) (hs _ _ _ h2 gp)
  have eq : σ.set i (some (V.ref w.p)) = σ := by
    refine List.ext_getElem? fun j => ?_
    by_cases hj : i = j
    · subst hj; rw [List.getElem?_set_self hi, e]
    · rw [List.getElem?_set_ne hj]
  rw [eq] at this
  exact h σ _ H this
theorem Sta.putI {K : Fg} {σ : SS} {G H : Hp} {w w' : Own} {ob : HO} {j : Nat} (s : Sta K B δ O σ G H) (hj : O[j]? = some w) (hw : w'.p = w.p) (hφ : w'.φ K G ob) : Sta K B δ (O.set j w') σ G (upd H w.p ob) := by
  have hjl : j < O.length := by
    rcases Nat.lt_or_ge j O.length with z | z
    · exact z
    · rw [List.getElem?_eq_none z] at hj; cases hj
  have hm : w ∈ O := List.mem_of_getElem? hj
  obtain ⟨o0, h1, h2, h3⟩ := s.own w hm
  have gne : ∀ q u, G q = some u → q ≠ w.p := fun q u e z => by rw [z, h2] at e; cases e
  have emap : (O.set j w').map (·.p) = O.map (·.p) := by
    refine List.ext_getElem? fun i => ?_
    rw [List.getElem?_map, List.getElem?_map]
    by_cases hi : j = i
    · subst hi; rw [List.getElem?_set_self hjl, hj]; show some w'.p = some w.p; rw [hw]
    · rw [List.getElem?_set_ne hi]
  have mem : ∀ v ∈ O.set j w', v = w' ∨ (v ∈ O ∧ v.p ≠ w.p) := fun v hv => by
    obtain ⟨i, hi, e⟩ := List.getElem_of_mem hv
    have e' : (O.set j w')[i]? = some v := by rw [List.getElem?_eq_getElem hi, e]
    by_cases hij : j = i
    · subst hij; rw [List.getElem?_set_self hjl] at e'; exact .inl (Option.some.inj e').symm
    · rw [List.getElem?_set_ne hij] at e'
      refine .inr ⟨List.mem_of_getElem? e', fun z => hij ?_⟩
      have hil : i < O.length := by rw [List.length_set] at hi; exact hi
      have n1 : (O.map (·.p))[i]? = some v.p := by rw [List.getElem?_map, e']; rfl
      have n2 : (O.map (·.p))[j]? = some w.p := by rw [List.getElem?_map, hj]; rfl
      have := (List.getElem?_inj (l := O.map (·.p)) (i := j) (j := i) (by rw [List.length_map]; exact hjl) s.nd).mp (by rw [n1, n2, z])
      exact this
  refine ⟨⟨fun q u e => ?_, s.stp.ex, fun q u e ha => ?_, fun q u e => ?_, s.stp.nf⟩, s.env, s.len, fun v hv => ?_, fun v hv => ?_, by rw [emap]; exact s.nd⟩
  · rw [upd_ne (gne _ _ e)]; exact s.stp.gh _ _ e
  · have hq : q ≠ w.p := fun z => by
      rcases s.new w hm with k | k
      · exact ha (by rw [z]; exact k)
      · rw [z, k] at e; cases e
    rw [upd_ne hq]; exact s.stp.fr _ _ e ha
  · by_cases hq : q = w.p
    · exact ⟨ob, by rw [hq]; exact upd_same⟩
    · rw [upd_ne hq]; exact s.stp.th _ _ e
  · rcases mem v hv with rfl | ⟨hv, hq⟩
    · exact ⟨ob, by rw [hw]; exact upd_same, by rw [hw]; exact h2, hφ⟩
    · obtain ⟨u, g1, g2, g3⟩ := s.own v hv
      exact ⟨u, by rw [upd_ne hq]; exact g1, g2, g3⟩
  · rcases mem v hv with rfl | ⟨hv, hq⟩
    · rw [hw]; exact s.new w hm
    · exact s.new v hv
/-- xs.append(e), xs an owned list -/
theorem e_append {q : Addr} {as : List α} {y : α} {apos : Pos} (jw : Nat) (ho : E X δ O o (sRef q) O1) (he : E X δ O1 e (R y) O2) (hz : as.length < sizeLine) (hw1 : O1[jw]? = some (oLst q R as) := by rfl) (hw : O2[jw]? = some (oLst q R as) := by rfl)
    (hbase : noCall0 o = true := by rfl)
    (hfew : ((backTo pos (starEach (e :: []) X.env)).all (fun x => !x.1) && (backToKw pos (keywordEach [] X.env)).all (fun x => x.1.isSome)
      && decide ((e :: []).length + ([] : List Keyword).length + (if ([] : List Keyword).isEmpty then 0 else 1) < 30)) = true := by rfl)
    (hline : (apos.endLine == pos.line) = true := by rfl) (hs : noStar e = true := by rfl) (hplain : (backTo pos (starEach [] X.env)).any (·.1) = false := by rfl) :
    E X δ O (.Call (.Attribute o "append" apos) [e] [] pos) sNon (O2.set jw (oLst q R (as ++ [y]))) := by
  intro B σ G H Q st k
  refine e_of (pe_bm PySem.F.plainAttrs_list PySem.F.slot_list_append PySem.F.type_list_append mt_append pe_w (pa_cons pe_w pa_nil (starEach_plain hs)) (attributeBase_plain hbase) hfew hline (starEach_plain hs) hplain) ?_
  refine ho B σ G H _ st fun v G1 H1 m1 st1 hv => ?_
  cases hv
  obtain ⟨o1, hq1, _, vs1, rfl, _⟩ := st1.own _ (List.mem_of_getElem? hw1)
  refine ⟨.inl ⟨rfl, _, SqL.of hq1⟩, ?_⟩
  refine he B σ G1 H1 _ st1 fun w G2 H2 m2 st2 hw2 => ?_
  obtain ⟨o2, hq2, _, vs2, rfl, r2⟩ := st2.own _ (List.mem_of_getElem? hw)
  refine ⟨q, vs2, w, rfl, rfl, hq2, by rw [r2.length]; exact hz, ?_⟩
  exact k _ G2 _ (m1.trans m2) (st2.putI (w' := oLst q R (as ++ [y])) hw rfl ⟨_, rfl, r2.append (.cons hw2 .nil)⟩) rfl
/-- xs[i] = e, xs an owned list, place by place -/
theorem j_setIx {q : Addr} {i : Int} {tp : Pos} (jw j : Nat) (he : E X δ O e s O1) (ho : E X δ O1 o (sRef q) O2) (hb : E X δ O2 b (sInt i) O3) 
    (k : J X B δ (O3.set jw (oLstS q (ss.set j s))) rest D) (hw : O3[jw]? = some (oLstS q ss) := by rfl) (hi : ixN ss.length i = some j := by rfl) (hs : noCompr e = true := by rfl) (hsw : swappedStores [.Subscript o b tp] e X.env = pure none := by rfl)
    (hpl : ∀ v, assign (.Subscript o b tp) X.env v = (do
      let ov ← holding [v] (eval o X.env)
      let iv ← holding [v, ov] (eval b X.env)
      standAt tp
      holding [v, ov, iv] (setItem ov iv v)
      release [v, ov, iv] []) := by intro _; rfl) : J X B δ O (.Assign [.Subscript o b tp] e pos :: rest) D :=
  j_cons fun σ G H st => s_of (ps_asg pe_w (pg_sub pe_w pe_w set_list hpl) (sole_plain hs) hsw) (by
    refine he B σ G H _ st fun v G1 H1 m1 st1 hv => ?_
    refine ho B σ G1 H1 _ st1 fun w G2 H2 m2 st2 hw2 => ?_
    refine hb B σ G2 H2 _ st2 fun z G3 H3 m3 st3 hz => ?_
    cases hw2
    cases hz
    obtain ⟨o3, hq3, _, vs3, rfl, r3⟩ := st3.own _ (List.mem_of_getElem? hw)
    refine ⟨q, vs3, i, j, rfl, rfl, hq3, by rw [r3.length]; exact hi, ?_⟩
    exact k σ G3 _ (st3.putI (w' := oLstS q (ss.set j s)) hw rfl ⟨_, rfl, allS_set (s.mono (m2.trans m3) hv) r3⟩))
/-- what is stored in an instance's attributes -/
def tabPut (f : Str) (s : Slot) : List (Str × Slot) → List (Str × Slot)
  | [] => [(f, s)]
  | (g, t) :: r => if g = f then (g, s) :: r else (g, t) :: tabPut f s r
theorem insOk_put {C : Addr} {tab : List (Str × Slot)} {K : Fg} {G : Hp} {dx : Addr} {fs : List (Str × V)} {f : Str} {y : V} (hn : (tab.map (·.1)).contains f = false) (h : insOk C tab K G (.ins C dx fs)) (hy : s.ok K G y) : insOk C (tab ++ [(f, s)]) K G (.ins C dx (putF f y fs)) := by
  obtain ⟨dx', fs', e, hl, h1, h2⟩ := h
  cases e
  have hn' : f ∉ tab.map (·.1) := by simpa using hn
  refine ⟨dx, _, rfl, Nat.le_trans (length_putF f y fs) (by rw [List.length_append]; exact Nat.succ_le_succ hl), fun g t hg => ?_, fun g hg => ?_⟩
  · rw [lookup_putF]
    rcases List.mem_append.mp hg with hg | hg
    · have : g ≠ f := fun z => hn' (by rw [← z]; exact List.mem_map.mpr ⟨_, hg, rfl⟩)
      rw [if_neg this]
      exact h1 g t hg
    · simp at hg
      obtain ⟨rfl, rfl⟩ := hg
      exact ⟨y, by rw [if_pos rfl], hy⟩
  · rw [List.map_append] at hg
    simp at hg
    rw [lookup_putF, if_neg (fun z => hg.2 z)]
    exact h2 g (by simpa using hg.1)
theorem insOk_over {C : Addr} {tab : List (Str × Slot)} {K : Fg} {G : Hp} {dx : Addr} {fs : List (Str × V)} {f : Str} {y : V} (j : Nat) {t0 : Slot} (hj : tab[j]? = some (f, t0)) (nd : (tab.map (·.1)).Nodup) (h : insOk C tab K G (.ins C dx fs)) (hlen : (putF f y fs).length ≤ tab.length) (hy : s.ok K G y) :
    insOk C (tab.set j (f, s)) K G (.ins C dx (putF f y fs)) := by
  obtain ⟨dx', fs', e, hl, h1, h2⟩ := h
  cases e
  have hjl : j < tab.length := by
    rcases Nat.lt_or_ge j tab.length with z | z
    · exact z
    · rw [List.getElem?_eq_none z] at hj; cases hj
  refine ⟨dx, _, rfl, by rw [List.length_set]; exact hlen, fun g t hg => ?_, fun g hg => ?_⟩
  · rw [lookup_putF]
    obtain ⟨i, hi, e⟩ := List.getElem_of_mem hg
    have e' : (tab.set j (f, s))[i]? = some (g, t) := by rw [List.getElem?_eq_getElem hi, e]
    by_cases hij : j = i
    · subst hij
      rw [List.getElem?_set_self hjl] at e'
      cases e'
      exact ⟨y, by rw [if_pos rfl], hy⟩
    · rw [List.getElem?_set_ne hij] at e'
      have : g ≠ f := fun z => hij ((List.getElem?_inj (l := tab.map (·.1)) (i := j) (j := i) (by rw [List.length_map]; exact hjl) nd).mp (by rw [List.getElem?_map, List.getElem?_map, e', hj, z]; rfl))
      rw [if_neg this]
      exact h1 g t (List.mem_of_getElem? e')
  · have hg' : g ∉ tab.map (·.1) := fun z => hg (by
      have : (tab.set j (f, s)).map (·.1) = tab.map (·.1) := by
        refine List.ext_getElem? fun i => ?_
        rw [List.getElem?_map, List.getElem?_map]
        by_cases hij : j = i
        · subst hij; rw [List.getElem?_set_self hjl, hj]; rfl
        · rw [List.getElem?_set_ne hij]
      rw [this]; exact z)
    have : g ≠ f := fun z => hg' (by rw [z]; exact List.mem_map.mpr ⟨_, List.mem_of_getElem? hj, rfl⟩)
    rw [lookup_putF, if_neg this]
    exact h2 g hg'
theorem j_fld {q C : Addr} {tab : List (Str × Slot)} {f : Str} {tp : Pos} (jw : Nat) (hv : E X δ O e s O1) (ho : E X δ O1 o (sRef q) O2) (c : Cls X.K C) (n : NoAttr X.K C f) (k : J X B δ (O2.set jw (oIns q C (tab ++ [(f, s)]))) rest D) (hw : O2[jw]? = some (oIns q C tab) := by rfl)
    (hn : (tab.map (·.1)).contains f = false := by (try simp only [List.map_cons, List.map_nil]); decide +kernel) (hl : tab.length < 1000 := by (try simp only [List.length_cons, List.length_nil]); decide) (hs : noCompr e = true := by rfl) : J X B δ O (.Assign [.Attribute o f tp] e pos :: rest) D :=
  j_cons fun σ G H st => s_of (ps_fld pe_w pe_w (swaps_plain hs)) (by
    refine hv B σ G H _ st fun v G1 H1 m1 st1 hv1 => ?_
    refine ho B σ G1 H1 _ st1 fun w G2 H2 m2 st2 hw2 => ?_
    cases hw2
    obtain ⟨o2, hq2, _, dx, fs, rfl, hle, h1, h2⟩ := st2.own _ (List.mem_of_getElem? hw)
    refine ⟨q, C, dx, fs, rfl, hq2, c, n, Nat.lt_of_le_of_lt hle hl, ?_⟩
    exact k σ G2 _ (st2.putI (w' := oIns q C (tab ++ [(f, s)])) hw rfl (insOk_put hn ⟨dx, fs, rfl, hle, h1, h2⟩ (s.mono m2 hv1))))
end
end Gd

namespace Gd
open PySem L2
section
variable {X : Cx} {B B1 : Bs} {δ δ' : List (Option Slot)} {O O1 O2 O3 : List Own} {a b c e o : Expr} {es : List Expr} {x : Str} {p pos : Pos} {s s1 s2 s3 : Slot} {ss : List Slot} {α β : Type} {R : α → Slot} {S : β → Slot} {D : Ends} {rest sts : List Stmt} {u : Bool}

/-! ### what is walked -/
/-- an iterator gives the items as, of which R tells, while the frozen heap is G1 or more -/
def Wk (K : Fg) (G1 : Hp) (J : It) (R : α → Slot) (as : List α) : Prop :=
  ∀ (B : Bs) (δ : List (Option Slot)) (O : List Own) (σ : SS) (G H : Hp) (i : Nat), Same G1 G → Sta K B δ O σ G H →
    (∀ y, as[i]? = some y → J.go i H ∧ ∀ v H', J.yld i H v H' → ∃ G', Same G G' ∧ Sta K B δ O σ G' H' ∧ (R y).ok K G' v) ∧ (as.length ≤ i → J.stop i H)
def IT (X : Cx) (δ : List (Option Slot)) (O : List Own) (tg e : Expr) (R : α → Slot) (as : List α) (O' : List Own) : Prop :=
  ∃ wi, PI X tg e wi ∧ ∀ (B : Bs) (σ : SS) (G H : Hp) (Q : It → Hp → Prop), Sta X.K B δ O σ G H → (∀ J G' H', Same G G' → Sta X.K B δ O' σ G' H' → Wk X.K G' J R as → Q J H') → wi σ H Q
theorem it_lst {tg : Expr} {as : List α} (h : E X δ O e (sLst R as) O1) : IT X δ O tg e R as O1 :=
  ⟨_, pi_list pe_w, fun B σ G H Q st k => h B σ G H _ st fun v G1 H1 m1 st1 hv => by
    obtain ⟨p, vs, rfl, hp, r⟩ := hv
    refine ⟨p, rfl, ⟨vs, SqL.of (st1.stp.gh _ _ hp)⟩, k _ G1 H1 m1 st1 fun B' δ' O' σ' G' H' i e st' => ⟨fun y hy => ?_, fun hi => ?_⟩⟩
    · obtain ⟨w, hw, hr⟩ := r.get hy
      have hq : SqL X.K H' p vs := SqL.of (st'.stp.gh _ _ (e _ _ hp))
      refine ⟨⟨vs, w, hq, hw⟩, fun v H'' hy' => ?_⟩
      obtain ⟨rfl, hy'⟩ := hy'
      have := hy' vs hq
      rw [hw] at this
      cases this
      exact ⟨G', Same.refl _, st', (R y).mono e hr⟩
    · exact ⟨vs, SqL.of (st'.stp.gh _ _ (e _ _ hp)), by rw [r.length]; exact hi⟩⟩
theorem it_lstK {tg : Expr} {as : List α} (h : E X δ O e (sLstK R as) O1) : IT X δ O tg e R as O1 :=
  ⟨_, pi_list pe_w, fun B σ G H Q st k => h B σ G H _ st fun v G1 H1 m1 st1 hv => by
    obtain ⟨p, vs, rfl, hp, r⟩ := hv
    refine ⟨p, rfl, ⟨vs, Same.seq st1.stp.gh hp⟩, k _ G1 H1 m1 st1 fun B' δ' O' σ' G' H' i e st' => ⟨fun y hy => ?_, fun hi => ?_⟩⟩
    · obtain ⟨w, hw, hr⟩ := r.get hy
      have hq : SqL X.K H' p vs := Same.seq st'.stp.gh (Same.seq e hp)
      refine ⟨⟨vs, w, hq, hw⟩, fun v H'' hy' => ?_⟩
      obtain ⟨rfl, hy'⟩ := hy'
      have := hy' vs hq
      rw [hw] at this
      cases this
      exact ⟨G', Same.refl _, st', (R y).mono e hr⟩
    · exact ⟨vs, Same.seq st'.stp.gh (Same.seq e hp), by rw [r.length]; exact hi⟩⟩
theorem it_tupl {tg : Expr} {as : List α} (h : E X δ O e (sTupl R as) O1) : IT X δ O tg e R as O1 :=
  ⟨_, pi_tup pe_w, fun B σ G H Q st k => h B σ G H _ st fun v G1 H1 m1 st1 hv => by
    obtain ⟨p, vs, rfl, hp, r⟩ := hv
    refine ⟨p, rfl, ⟨vs, sqT_up st1.stp.gh hp⟩, k _ G1 H1 m1 st1 fun B' δ' O' σ' G' H' i e st' => ⟨fun y hy => ?_, fun hi => ?_⟩⟩
    · obtain ⟨w, hw, hr⟩ := r.get hy
      have hq : SqT X.K H' p vs := sqT_up st'.stp.gh (sqT_mono e hp)
      refine ⟨⟨vs, w, hq, hw⟩, fun v H'' hy' => ?_⟩
      obtain ⟨rfl, hy'⟩ := hy'
      have := hy' vs hq
      rw [hw] at this
      cases this
      exact ⟨G', Same.refl _, st', (R y).mono e hr⟩
    · exact ⟨vs, sqT_up st'.stp.gh (sqT_mono e hp), by rw [r.length]; exact hi⟩⟩
/-- range(n): the turns 0, 1, .. -/
theorem it_range {tg : Expr} {n : Int} (hm : X.mg "range" = none) (h : E X δ O e (sInt n) O1) (h1 : -(2 ^ 62) ≤ n) (h2 : n < 2 ^ 62) (hg : Gl X "range" := by rfl) (hs : noStar e = true := by rfl) :
    IT X δ O tg (.Call (.Name "range" p) [e] [] pos) (fun k : Nat => sInt k) (List.range n.toNat) O1 :=
  ⟨_, pi_range1 hg hm (pa_cons pe_w pa_nil (starEach_plain hs)) (starEach_plain hs), fun B σ G H Q st k => h B σ G H _ st fun v G1 H1 m1 st1 hv => by
    cases hv
    refine ⟨n, rfl, h1, h2, k _ G1 H1 m1 st1 fun B' δ' O' σ' G' H' i e st' => ⟨fun y hy => ?_, fun hi => ?_⟩⟩
    · have hlt : i < n.toNat := by
        rcases Nat.lt_or_ge i n.toNat with z | z
        · exact z
        · rw [List.getElem?_eq_none (by rw [List.length_range]; exact z)] at hy; cases hy
      have ey : y = i := by rw [List.getElem?_range hlt] at hy; exact (Option.some.inj hy).symm
      refine ⟨hlt, fun v H'' hy' => ?_⟩
      obtain ⟨rfl, rfl⟩ := hy'
      exact ⟨G', Same.refl _, st', by rw [ey]; show V.int (0 + _) = V.int _; rw [Int.zero_add]⟩
    · rw [List.length_range] at hi; exact hi⟩
/-- a text, sign by sign -/
theorem it_str {tg : Expr} {t : Str} (h : E X δ O e (sStr t) O1) : IT X δ O tg e (fun n : Nat => sStr ⟨#[n]⟩) t.cps.toList O1 :=
  ⟨_, pi_str pe_w, fun B σ G H Q st k => h B σ G H _ st fun v G1 H1 m1 st1 hv => by
    cases hv
    refine ⟨t, rfl, k _ G1 H1 m1 st1 fun B' δ' O' σ' G' H' i e st' => ⟨fun y hy => ?_, fun hi => ?_⟩⟩
    · have hy0 : t.cps[i]? = some y := by rw [← hy, Array.getElem?_toList]
      have hlt : i < t.cps.size := by
        rcases Nat.lt_or_ge i t.cps.size with z | z
        · exact z
        · rw [Array.getElem?_eq_none z] at hy0; cases hy0
      refine ⟨hlt, fun v H'' hy' => ?_⟩
      obtain ⟨rfl, cc, hcc, rfl⟩ := hy'
      rw [hy0] at hcc
      cases hcc
      exact ⟨G', Same.refl _, st', rfl⟩
    · rw [Array.length_toList] at hi; exact hi⟩

/-! ### targets -/
/-- several slots set -/
def setV (σ : SS) : List (Nat × V) → SS
  | [] => σ
  | q :: r => setV (σ.set q.1 (some q.2)) r
def setD (δ : List (Option Slot)) : List (Nat × Slot) → List (Option Slot)
  | [] => δ
  | q :: r => setD (δ.set q.1 (some q.2)) r
/-- a target takes values of which R tells: the slots of ts are set -/
def TGu (X : Cx) (tg : Expr) {α : Type} (R : α → Slot) (ts : α → List (Nat × Slot)) : Prop :=
  ∃ g, PG X tg g ∧ ∀ (B : Bs) (δ : List (Option Slot)) (O : List Own) (σ : SS) (G H : Hp) (y : α) (v : V) (Q : SS → Hp → Prop), Sta X.K B δ O σ G H → (R y).ok X.K G v → (∀ σ', Sta X.K B (setD δ (ts y)) O σ' G H → Q σ' H) → g v σ H Q
theorem tg_name (i : Nat) (hN : X.N.Nodup) (hi : X.N[i]? = some x := by rfl) (hx : Loc X.env.scope x := by first | exact Or.inl rfl | exact Or.inr rfl) (hf : X.fn x = true ∨ X.env.scope.names.lookup x = some .local := by first | exact .inl rfl | exact .inr rfl) : TGu X (.Name x p) R (fun y => [(i, R y)]) :=
  ⟨_, pg_name hN hi hx hf, fun B δ O σ G H y v Q st hv k => k _ (st.set hv)⟩
theorem tg_tup2 (i j : Nat) {x1 x2 : Str} {p1 p2 p3 : Pos} {kk : Nat} {r1 r2 : α → Slot} (hN : X.N.Nodup) (hi : X.N[i]? = some x1 := by rfl) (hj : X.N[j]? = some x2 := by rfl) (hx1 : Loc X.env.scope x1 := by first | exact Or.inl rfl | exact Or.inr rfl) (hx2 : Loc X.env.scope x2 := by first | exact Or.inl rfl | exact Or.inr rfl)
    (hf1 : X.fn x1 = true ∨ X.env.scope.names.lookup x1 = some .local := by first | exact .inl rfl | exact .inr rfl) (hf2 : X.fn x2 = true ∨ X.env.scope.names.lookup x2 = some .local := by first | exact .inl rfl | exact .inr rfl) (hc : X.calm = true := by rfl) :
    TGu X (.Tuple [.Name x1 p1, .Name x2 p2] kk p3) (fun y => sTup [r1 y, r2 y]) (fun y => [(i, r1 y), (j, r2 y)]) :=
  ⟨_, pg_tup hc (pgs_cons (pg_name hN hi hx1 hf1) (pgs_cons (pg_name hN hj hx2 hf2) pgs_nil)), fun B δ O σ G H y v Q st hv k => by
    obtain ⟨p, vs, rfl, hp, h⟩ := hv
    obtain ⟨v1, v2, rfl, e1, e2⟩ := alls2 h
    exact ⟨p, _, rfl, sqT_up st.stp.gh hp, rfl, v1, [v2], rfl, v2, [], rfl, rfl, k _ ((st.set e1).set e2)⟩⟩

/-! ### for -/
/-- between the turns -/
def Mid (X : Cx) (B : Bs) {γ : Type} (P : γ → Prop) (Δ : γ → List (Option Slot)) (Ω : γ → List Own) : SS → Hp → Prop := fun σ H => ∃ g G, P g ∧ Sta X.K B (Δ g) (Ω g) σ G H
theorem j_for {γ : Type} {as : List α} {iter tg : Expr} {body : List Stmt} (P : Nat → γ → Prop) (Δ : γ → List (Option Slot)) (Ω : γ → List Own) (ts : α → List (Nat × Slot)) (hi : IT X δ O tg iter R as O1) (ht : TGu X tg R ts)
    (h0 : ∃ g, P 0 g ∧ ∀ (B : Bs) (σ : SS) (G H : Hp), Sta X.K B δ O1 σ G H → Sta X.K B (Δ g) (Ω g) σ G H)
    (hs : ∀ (B1 : Bs) k y g, BLe B B1 → as[k]? = some y → P k g → J X B1 (setD (Δ g) (ts y)) (Ω g) body { D with nx := Mid X B1 (P (k + 1)) Δ Ω, ct := Mid X B1 (P (k + 1)) Δ Ω, bk := fun σ H => wSs X rest D σ H })
    (hd : ∀ g, P as.length g → J X B (Δ g) (Ω g) rest D) (hp : PassesOwn (model X.prog X.w) X.A X.env X.xe := by exact PassesOwn.never) (hc : X.calm = true := by rfl) (hf : noSet iter = true := by rfl) :
    J X B δ O (.For tg iter body [] pos :: rest) D := by
  obtain ⟨wi, h1, h2⟩ := hi
  obtain ⟨gt, g1, g2⟩ := ht
  refine j_cons fun σ G H st => s_of (ps_for hp hc h1 g1 pss_w (folded_plain hf)) (h2 B σ G H _ st fun Jt G1 H1 m1 st1 wk => ?_)
  obtain ⟨g0, p0, w0⟩ := h0
  refine ⟨fun i m σ H => m = as.length - i ∧ i ≤ as.length ∧ ∃ g G, P i g ∧ Same G1 G ∧ Sta X.K B (Δ g) (Ω g) σ G H, ⟨_, rfl, Nat.zero_le _, g0, G1, p0, Same.refl _, w0 _ _ _ _ st1⟩, ?_⟩
  rintro i m σ2 H2 ⟨rfl, hi, g, G2, pg, e2, st2⟩
  obtain ⟨w1, w2⟩ := wk B _ _ σ2 G2 H2 i e2 st2
  by_cases hlt : i < as.length
  · obtain ⟨hgo, hy⟩ := w1 as[i] (List.getElem?_eq_getElem hlt)
    refine .inr ⟨hgo, Mid X ⟨B.A, G2, B.H⟩ (P (i + 1)) Δ Ω, ?_, fun v H3 y3 => ?_⟩
    · rintro σ' H' ⟨g', G', pg', st'⟩
      exact ⟨as.length - (i + 1), by omega, rfl, hlt, g', G', pg', e2.trans st'.stp.ex, st'.le st2.up.1⟩
    · obtain ⟨G3, e3, st3, r3⟩ := hy v H3 y3
      have up := st2.up.1
      have st3' : Sta X.K ⟨B.A, G2, B.H⟩ (Δ g) (Ω g) σ2 G3 H3 := ⟨⟨st3.stp.gh, e3, st3.stp.fr, st3.stp.th, fun q u e n => by
        refine st3.stp.nf q u e ?_
        cases z : B.G q with
        | none => rfl
        | some o =>
          have n' : G2 q = none := n
          have z' := st2.stp.ex _ _ z
          rw [n'] at z'
          cases z'⟩, st3.env, st3.len, st3.own, st3.new, st3.nd⟩
      exact g2 ⟨B.A, G2, B.H⟩ (Δ g) (Ω g) σ2 G3 H3 as[i] v _ st3' r3 fun σ4 st4 => hs _ i as[i] g up (List.getElem?_eq_getElem hlt) pg σ4 G3 H3 st4
  · have e : i = as.length := by omega
    subst e
    exact .inl ⟨w2 (Nat.le_refl _), hd g pg σ2 G2 H2 st2⟩
/-- while: by a word and a measure over the ghosts -/
theorem j_while {γ : Type} {body : List Stmt} (P : γ → Prop) (μ : γ → Nat) (b : γ → Bool) (Δ : γ → List (Option Slot)) (Ω : γ → List Own)
    (h0 : ∃ g, P g ∧ ∀ (B : Bs) (σ : SS) (G H : Hp), Sta X.K B δ O σ G H → Sta X.K B (Δ g) (Ω g) σ G H) (hc : ∀ g, P g → T X (Δ g) (Ω g) c (b g) (Ω g))
    (hs : ∀ g, P g → b g = true → J X B (Δ g) (Ω g) body { D with nx := Mid X B (fun g' => P g' ∧ μ g' < μ g) Δ Ω, ct := Mid X B (fun g' => P g' ∧ μ g' < μ g) Δ Ω, bk := fun σ H => wSs X rest D σ H })
    (hd : ∀ g, P g → b g = false → J X B (Δ g) (Ω g) rest D) (hp : PassesOwn (model X.prog X.w) X.A X.env X.xe := by exact PassesOwn.never) : J X B δ O (.While c body [] pos :: rest) D := by
  refine j_cons fun σ G H st => s_of (ps_while hp pt_w pss_w) ?_
  obtain ⟨g0, p0, w0⟩ := h0
  refine ⟨fun m σ H => ∃ g G, m = μ g ∧ P g ∧ Sta X.K B (Δ g) (Ω g) σ G H, ⟨_, g0, G, rfl, p0, w0 _ _ _ _ st⟩, ?_⟩
  rintro m σ2 H2 ⟨g, G2, rfl, pg, st2⟩
  refine hc g pg B σ2 G2 H2 _ st2 fun G3 H3 m3 st3 => ?_
  cases hb : b g with
  | true => exact ⟨Mid X B (fun g' => P g' ∧ μ g' < μ g) Δ Ω, fun σ' H' ⟨g', G', ⟨p', l'⟩, st'⟩ => ⟨_, l', g', G', rfl, p', st'⟩, hs g pg hb σ2 G3 H3 st3⟩
  | false => exact hd g pg hb σ2 G3 H3 st3

/-! ### comprehensions -/
def wipeD (δ : List (Option Slot)) : List Nat → List (Option Slot)
  | [] => δ
  | v :: vs => (wipeD δ vs).set v none
theorem Sta.unset {K : Fg} {σ : SS} {G H : Hp} {i : Nat} (st : Sta K B δ O σ G H) : Sta K B (δ.set i none) O (σ.set i none) G H := by
  refine ⟨st.stp, fun j t e => ?_, by rw [List.length_set, List.length_set]; exact st.len, st.own, st.new, st.nd⟩
  by_cases hj : i = j
  · subst hj
    by_cases hi : i < δ.length
    · rw [List.getElem?_set_self hi] at e; cases e
    · rw [List.getElem?_eq_none (by rw [List.length_set]; omega)] at e; cases e
  · rw [List.getElem?_set_ne hj] at e
    obtain ⟨u, a, b⟩ := st.env j t e
    exact ⟨u, by rw [List.getElem?_set_ne hj]; exact a, b⟩
theorem Sta.wiped {K : Fg} {σ : SS} {G H : Hp} (st : Sta K B δ O σ G H) : ∀ vs : List Nat, Sta K B (wipeD δ vs) O (wipe σ vs) G H
  | [] => st
  | v :: vs => (st.wiped vs).unset
theorem wipe_set {σ : SS} {i : Nat} {v : Option V} : ∀ {vs : List Nat}, i ∈ vs → wipe (σ.set i v) vs = wipe σ vs
  | [], h => by cases h
  | w :: vs, h => by
    show (wipe (σ.set i v) vs).set w none = (wipe σ vs).set w none
    by_cases hw : i ∈ vs
    · rw [wipe_set hw]
    · have hiw : i = w := by
        rcases List.mem_cons.mp h with z | z
        · exact z
        · exact absurd z hw
      subst hiw
      have aux : ∀ (σ : SS) (us : List Nat), i ∉ us → wipe (σ.set i v) us = (wipe σ us).set i v := by
        intro σ us
        induction us with
        | nil => intro _; rfl
        | cons q us ih =>
          intro hq
          show (wipe (σ.set i v) us).set q none = ((wipe σ us).set q none).set i v
          rw [ih (fun z => hq (List.mem_cons_of_mem _ z)), List.set_comm _ _ (fun z => hq (by rw [z]; exact List.mem_cons_self))]
      rw [aux σ vs hw, List.set_set]
theorem wipe_wipe {σ : SS} : ∀ (vs us : List Nat), (∀ v ∈ us, v ∈ vs) → wipe (wipe σ us) vs = wipe σ vs
  | vs, [], _ => rfl
  | vs, u :: us, h => by
    show wipe ((wipe σ us).set u none) vs = _
    rw [wipe_set (h u List.mem_cons_self), wipe_wipe vs us fun v hv => h v (List.mem_cons_of_mem _ hv)]
/-- the context of a comprehension's block -/
abbrev Blk (X : Cx) (scope : Scope) (s : Shared) (H : Hp) (C : Addr) (cl : List (Str × Addr)) (fp : List Addr) : Cx := X.blk s H scope (compEnvC scope cl C X.env) fp
/-- the tests of a clause -/
def TSs (X : Cx) (δ : List (Option Slot)) (O : List Own) (ifs : List Expr) (b : Bool) (O' : List Own) : Prop :=
  (ifs = [] ∧ b = true ∧ O' = O) ∨ ∃ c, ifs = [c] ∧ T X δ O c b O'
theorem ts_nil : TSs X δ O [] true O := .inl ⟨rfl, rfl, rfl⟩
theorem ts_one (h : T X δ O c u O1) : TSs X δ O [c] u O1 := .inr ⟨c, rfl, h⟩
/-- [elt for x in iter if ..], one name: turn k makes vals k where keeps k says so; acc: what is made so far -/
theorem lc_reading {elt iter : Expr} {ifs : List Expr} {scope : Scope} {own : List (Str × Nat)} {as : List α} (i : Nat) {px : Pos} (Ωs Ωm : Nat → List Own) (keeps : Nat → Bool) (acc : Nat → List β) {wi : TI} {σ : SS} {G H : Hp} {Q : VK}
    (hin : i ∈ own.map (·.2)) (st : Sta X.K B δ O σ G H)
    (h2 : ∀ (B : Bs) (σ : SS) (G H : Hp) (Q : It → Hp → Prop), Sta X.K B δ O σ G H → (∀ J G' H', Same G G' → Sta X.K B δ (Ωs 0) σ G' H' → Wk X.K G' J R as → Q J H') → wi σ H Q)
    (hts : ∀ k y, as[k]? = some y → ∀ s H C cl fp, TSs (Blk X scope s H C cl fp) ((wipeD δ (own.map (·.2))).set i (some (R y))) (Ωs k) ifs (keeps k) (Ωm k))
    (helt : ∀ k y, as[k]? = some y → keeps k = true → ∃ z, acc (k + 1) = acc k ++ [z] ∧ ∀ s H C cl fp, E (Blk X scope s H C cl fp) ((wipeD δ (own.map (·.2))).set i (some (R y))) (Ωm k) elt (S z) (Ωs (k + 1)))
    (hskip : ∀ k, k < as.length → keeps k = false → Ωm k = Ωs (k + 1) ∧ acc (k + 1) = acc k) (ha0 : acc 0 = []) (hz : as.length ≤ sizeLine)
    (k : ∀ p G' H', B.H p = none → Same G G' → Sta X.K B δ (oLst p S (acc as.length) :: Ωs as.length) σ G' H' → Q (.ref p) H') :
    tLc wi (gName i) (fun σ H Q => ∀ s H0 C cl fp, match ifs with | [] => Q true H | c :: _ => wT (Blk X scope s H0 C cl fp) c σ H Q) (fun σ H Q => ∀ s H0 C cl fp, wE (Blk X scope s H0 C cl fp) elt σ H Q) (own.map (·.2)) σ H Q := by
  refine h2 B σ G H _ st fun Jt G1 H1 m1 st1 wk => ?_
  intro Da hDa
  have hacc : ∀ k, k ≤ as.length → (acc k).length ≤ k := by
    intro k
    induction k with
    | zero => intro _; rw [ha0]; exact Nat.le_refl _
    | succ k ih =>
      intro hk
      have := ih (Nat.le_of_lt hk)
      cases hkk : keeps k with
      | true =>
        obtain ⟨z, e, _⟩ := helt k _ (List.getElem?_eq_getElem hk) hkk
        rw [e, List.length_append]; simp; omega
      | false => rw [(hskip k hk hkk).2]; omega
  refine ⟨fun n m H' => m = as.length - n ∧ n ≤ as.length ∧ ∃ G', Same G1 G' ∧ Sta X.K B δ (oLst Da S (acc n) :: Ωs n) σ G' H', ⟨_, rfl, Nat.zero_le _, G1, Same.refl _, ?_⟩, ?_⟩
  · rw [ha0]
    exact st1.freshO (w := oLst Da S []) hDa rfl ⟨[], rfl, .nil⟩
  · rintro n m H2 ⟨rfl, hn, G2, e2, st2⟩
    obtain ⟨w1, w2⟩ := wk B _ _ σ G2 H2 n e2 st2
    by_cases hlt : n < as.length
    · have hget := List.getElem?_eq_getElem hlt
      obtain ⟨hgo, hy⟩ := w1 as[n] hget
      refine .inr ⟨hgo, fun H' => ∃ G', Same G1 G' ∧ Sta X.K B δ (oLst Da S (acc (n + 1)) :: Ωs (n + 1)) σ G' H', fun H' ⟨G', e', st'⟩ => ⟨as.length - (n + 1), by omega, rfl, hlt, G', e', st'⟩, fun v H3 y3 => ?_⟩
      obtain ⟨G3, e3, st3, r3⟩ := hy v H3 y3
      have st4 := (st3.wiped (own.map (·.2))).set (i := i) r3
      have wp : wipe ((wipe σ (own.map (·.2))).set i (some v)) (own.map (·.2)) = wipe σ (own.map (·.2)) := by rw [wipe_set hin, wipe_wipe _ _ fun _ h => h]
      have back : ∀ {O' : List Own} {G' H' : Hp}, Sta X.K B ((wipeD δ (own.map (·.2))).set i (some (R as[n]))) O' ((wipe σ (own.map (·.2))).set i (some v)) G' H' → Same G3 G' → Sta X.K B δ O' σ G' H' := fun {O' G' H'} q e => ⟨q.stp, st3.env.mono e, st3.len, q.own, q.new, q.nd⟩
      have rot : ∀ {O' : List Own} {δ' : List (Option Slot)} {σ' : SS} {G' H' : Hp} {w : Own}, Sta X.K B δ' (w :: O') σ' G' H' → Sta X.K B δ' (O' ++ [w]) σ' G' H' := fun {O' δ' σ' G' H' w} q => q.perm (fun v hv => by simp at hv ⊢; exact hv.symm) (by
        have nd := q.nd
        rw [List.map_cons, List.nodup_cons] at nd
        rw [List.map_append, List.nodup_append]
        refine ⟨nd.2, by simp, fun q hq r hr e => nd.1 ?_⟩
        simp at hr
        rw [← hr, ← e]; exact hq)
      have unrot : ∀ {O' : List Own} {δ' : List (Option Slot)} {σ' : SS} {G' H' : Hp} {w : Own}, Sta X.K B δ' (O' ++ [w]) σ' G' H' → Sta X.K B δ' (w :: O') σ' G' H' := fun {O' δ' σ' G' H' w} q => q.perm (fun v hv => by simp at hv ⊢; exact hv.symm) (by
        have nd := q.nd
        rw [List.map_append, List.nodup_append] at nd
        rw [List.map_cons, List.nodup_cons]
        exact ⟨fun hm => nd.2.2 _ hm _ (by simp) rfl, nd.1⟩)
      refine ⟨wp, ?_⟩
      -- behind the tests
      have elt_ : keeps n = true → ∀ G5 H5, Same G3 G5 → Sta X.K B ((wipeD δ (own.map (·.2))).set i (some (R as[n]))) (Ωm n ++ [oLst Da S (acc n)]) ((wipe σ (own.map (·.2))).set i (some v)) G5 H5 →
          ∀ s H0 C cl fp, wE (Blk X scope s H0 C cl fp) elt ((wipe σ (own.map (·.2))).set i (some v)) H5 fun y H6 => ∃ ac, H6 Da = some (.lst ac) ∧ ac.length < sizeLine ∧ ∃ G', Same G1 G' ∧ Sta X.K B δ (oLst Da S (acc (n + 1)) :: Ωs (n + 1)) σ G' (upd H6 Da (.lst (ac ++ [y]))) := by
        intro hk G5 H5 e5 st5 s H0 C cl fp
        obtain ⟨zz, ez, helt'⟩ := helt n _ hget hk
        refine e_frame (O := [oLst Da S (acc n)]) (helt' s H0 C cl fp) B _ G5 H5 _ st5 fun y G6 H6 m6 st6 hy6 => ?_
        have st6' := unrot st6
        obtain ⟨o6, h6, _, ac, rfl, r6⟩ := st6'.own _ List.mem_cons_self
        refine ⟨ac, h6, ?_, G6, fun q z w => m6 _ _ (e5 _ _ (e3 _ _ (e2 _ _ w))), ?_⟩
        · rw [r6.length]; exact Nat.lt_of_lt_of_le (Nat.lt_of_le_of_lt (hacc n (Nat.le_of_lt hlt)) hlt) hz
        · rw [ez]
          have st7 := st6'.put (w' := oLst Da S (acc n ++ [zz])) rfl ⟨_, rfl, r6.append (.cons hy6 .nil)⟩
          exact back st7 (e5.trans m6)
      have skip_ : keeps n = false → ∀ G5 H5, Same G3 G5 → Sta X.K B ((wipeD δ (own.map (·.2))).set i (some (R as[n]))) (Ωm n ++ [oLst Da S (acc n)]) ((wipe σ (own.map (·.2))).set i (some v)) G5 H5 →
          ∃ G', Same G1 G' ∧ Sta X.K B δ (oLst Da S (acc (n + 1)) :: Ωs (n + 1)) σ G' H5 := by
        intro hk G5 H5 e5 st5
        refine ⟨G5, fun q z w => e5 _ _ (e3 _ _ (e2 _ _ w)), ?_⟩
        rw [(hskip n hlt hk).2, ← (hskip n hlt hk).1]
        exact back (unrot st5) e5
      intro s H0 C cl fp
      have hh := hts n _ hget
      cases ifs with
      | nil =>
        have hk : keeps n = true ∧ Ωm n = Ωs n := by
          rcases hh s H0 C cl fp with ⟨_, a, b⟩ | ⟨c, e, _⟩
          · exact ⟨a, b⟩
          · cases e
        refine iteT fun s' H0' C' cl' fp' => elt_ hk.1 G3 H3 (Same.refl _) ?_ s' H0' C' cl' fp'
        rw [hk.2]
        exact rot st4
      | cons c r =>
        rcases hh s H0 C cl fp with ⟨e, _⟩ | ⟨c', e, ht⟩
        · cases e
        · cases e
          refine t_frame (O := [oLst Da S (acc n)]) ht B _ G3 H3 _ (rot st4) fun G5 H5 m5 st5 => ?_
          cases hk : keeps n with
          | true => exact iteT fun s' H0' C' cl' fp' => elt_ hk G5 H5 m5 st5 s' H0' C' cl' fp'
          | false => exact iteF (skip_ hk G5 H5 m5 st5)
    · have e : n = as.length := by omega
      subst e
      exact .inl ⟨w2 (Nat.le_refl _), k Da G2 H2 (none_of st1 hDa) (m1.trans e2) st2⟩
end
end Gd

namespace Gd
open PySem L2
section
variable {X : Cx} {B B1 : Bs} {δ δ' : List (Option Slot)} {O O1 O2 O3 : List Own} {a b c e o : Expr} {es : List Expr} {x : Str} {p pos : Pos} {s s1 s2 s3 : Slot} {ss : List Slot} {α β : Type} {R : α → Slot} {S : β → Slot} {D : Ends} {rest sts : List Stmt} {u : Bool}
variable {elt iter : Expr} {ifs : List Expr} {scope : Scope} {own : List (Str × Nat)} {as : List α} {px : Pos}
theorem pts_w (hifs : ifs = [] ∨ ∃ c, ifs = [c]) (s0 : Shared) (H0 : Hp) (C : Addr) (cl : List (Str × Addr)) (fp : List Addr) :
    PTs (Blk X scope s0 H0 C cl fp) ifs (fun σ H Q => ∀ s H0 C cl fp, match ifs with | [] => Q true H | c :: _ => wT (Blk X scope s H0 C cl fp) c σ H Q) := by
  rcases hifs with rfl | ⟨c, rfl⟩
  · exact ⟨fun pins s σ H Q I h => pts_nil.run pins s σ H Q I (h s H 0 [] [])⟩
  · exact ⟨fun pins s σ H Q I h => (pts_one pt_w).run pins s σ H Q I (h s0 H0 C cl fp)⟩
theorem ew_comp (i : Nat) (Ωs Ωm : Nat → List Own) (keeps : Nat → Bool) (acc : Nat → List β) (hN : X.N.Nodup)
    (hi : IT X δ O (.Name x px) iter R as (Ωs 0)) (ok : BlkOk X.N X.env.scope scope own)
    (hts : ∀ k y, as[k]? = some y → ∀ s H C cl fp, TSs (Blk X scope s H C cl fp) ((wipeD δ (own.map (·.2))).set i (some (R y))) (Ωs k) ifs (keeps k) (Ωm k))
    (helt : ∀ k y, as[k]? = some y → keeps k = true → ∃ z, acc (k + 1) = acc k ++ [z] ∧ ∀ s H C cl fp, E (Blk X scope s H C cl fp) ((wipeD δ (own.map (·.2))).set i (some (R y))) (Ωm k) elt (S z) (Ωs (k + 1)))
    (hskip : ∀ k, k < as.length → keeps k = false → Ωm k = Ωs (k + 1) ∧ acc (k + 1) = acc k) (ha0 : acc 0 = []) (hz : as.length ≤ sizeLine)
    (hin : i ∈ own.map (·.2) := by decide) (hix : X.N[i]? = some x := by rfl) (hx : ∀ s H C cl fp, Loc (Blk X scope s H C cl fp).env.scope x := by intro _ _ _ _ _; first | exact Or.inl rfl | exact Or.inr rfl)
    (hf : ∀ s H C cl fp, (Blk X scope s H C cl fp).fn x = true ∨ (Blk X scope s H C cl fp).env.scope.names.lookup x = some .local := by intro _ _ _ _ _; first | exact .inl rfl | exact .inr rfl)
    (hifs : ifs = [] ∨ ∃ c, ifs = [c] := by first | exact .inl rfl | exact .inr ⟨_, rfl⟩) (hc : X.calm = true := by rfl) (hs : noSet iter = true := by rfl) :
    EW X δ O (.ListComp elt [⟨.Name x px, iter, ifs, 0⟩] scope pos) (fun p => oLst p S (acc as.length)) (Ωs as.length) := by
  obtain ⟨wi, h1, h2⟩ := hi
  intro B σ G H Q st k
  refine e_of (pe_lc (te := fun σ H Q => ∀ s H0 C cl fp, wE (Blk X scope s H0 C cl fp) elt σ H Q) hc hN h1 ok (fun s H C cl fp => pg_name hN hix (hx s H C cl fp) (hf s H C cl fp)) (fun s H C cl fp => pts_w hifs s H C cl fp)
    (fun s H C cl fp => ⟨fun pins s' σ H' Q I h => (h s H C cl fp).run pins s' I⟩) (folded_plain hs)) ?_
  exact lc_reading (iter := iter) i (px := px) Ωs Ωm keeps acc hin st h2 hts helt hskip ha0 hz k
/-- x = [..] -/
theorem j_setComp (iy i : Nat) {y : Str} {py spos : Pos} (Ωs Ωm : Nat → List Own) (keeps : Nat → Bool) (acc : Nat → List β) (hN : X.N.Nodup)
    (hi : IT X δ O (.Name x px) iter R as (Ωs 0)) (ok : BlkOk X.N X.env.scope scope own)
    (hts : ∀ k y, as[k]? = some y → ∀ s H C cl fp, TSs (Blk X scope s H C cl fp) ((wipeD δ (own.map (·.2))).set i (some (R y))) (Ωs k) ifs (keeps k) (Ωm k))
    (helt : ∀ k y, as[k]? = some y → keeps k = true → ∃ z, acc (k + 1) = acc k ++ [z] ∧ ∀ s H C cl fp, E (Blk X scope s H C cl fp) ((wipeD δ (own.map (·.2))).set i (some (R y))) (Ωm k) elt (S z) (Ωs (k + 1)))
    (hskip : ∀ k, k < as.length → keeps k = false → Ωm k = Ωs (k + 1) ∧ acc (k + 1) = acc k) (ha0 : acc 0 = []) (hz : as.length ≤ sizeLine)
    (q : ∀ r, B.H r = none → J X B (δ.set iy (some (sRef r))) (oLst r S (acc as.length) :: Ωs as.length) rest D)
    (hyN : X.N[iy]? = some y := by rfl) (hyl : X.env.scope.names.lookup y = some .local := by rfl) (hsw : swapsWith (.ListComp elt [⟨.Name x px, iter, ifs, 0⟩] scope pos) (some (.Name y py)) spos.line X.env = pure true := by exact sw_true rfl rfl rfl (by decide +kernel))
    (hin : i ∈ own.map (·.2) := by decide) (hix : X.N[i]? = some x := by rfl) (hx : ∀ s H C cl fp, Loc (Blk X scope s H C cl fp).env.scope x := by intro _ _ _ _ _; first | exact Or.inl rfl | exact Or.inr rfl)
    (hf : ∀ s H C cl fp, (Blk X scope s H C cl fp).fn x = true ∨ (Blk X scope s H C cl fp).env.scope.names.lookup x = some .local := by intro _ _ _ _ _; first | exact .inl rfl | exact .inr rfl)
    (hifs : ifs = [] ∨ ∃ c, ifs = [c] := by first | exact .inl rfl | exact .inr ⟨_, rfl⟩) (hc : X.calm = true := by rfl) (hs : noSet iter = true := by rfl) :
    J X B δ O (.Assign [.Name y py] (.ListComp elt [⟨.Name x px, iter, ifs, 0⟩] scope pos) spos :: rest) D := by
  obtain ⟨wi, h1, h2⟩ := hi
  refine j_cons fun σ G H st => s_of (ps_setLc (te := fun σ H Q => ∀ s H0 C cl fp, wE (Blk X scope s H0 C cl fp) elt σ H Q) hc hN hyN hyl hsw h1 ok (fun s H C cl fp => pg_name hN hix (hx s H C cl fp) (hf s H C cl fp)) (fun s H C cl fp => pts_w hifs s H C cl fp)
    (fun s H C cl fp => ⟨fun pins s' σ H' Q I h => (h s H C cl fp).run pins s' I⟩) (folded_plain hs)) ?_
  show tLc _ _ _ _ _ σ H (fun v H1 => wSs X rest D (σ.set iy (some v)) H1)
  exact lc_reading (iter := iter) i (px := px) Ωs Ωm keeps acc hin st h2 hts helt hskip ha0 hz fun r G' H' hb m st' => q r hb _ G' H' (st'.set rfl)

/-! ### the simple forms -/
theorem take_succ {k : Nat} {y : α} (h : as[k]? = some y) : as.take (k + 1) = as.take k ++ [y] := by
  have hk : k < as.length := by
    rcases Nat.lt_or_ge k as.length with z | z
    · exact z
    · rw [List.getElem?_eq_none z] at h; cases h
  rw [List.take_succ, h]
  rfl
/-- [elt for x in iter], nothing owned changes -/
theorem ew_map (i : Nat) (f : α → β) (hN : X.N.Nodup) (hi : IT X δ O (.Name x px) iter R as O1) (ok : BlkOk X.N X.env.scope scope own)
    (helt : ∀ y, y ∈ as → ∀ s H C cl fp, E (Blk X scope s H C cl fp) ((wipeD δ (own.map (·.2))).set i (some (R y))) O1 elt (S (f y)) O1) (hz : as.length ≤ sizeLine)
    (hin : i ∈ own.map (·.2) := by decide) (hix : X.N[i]? = some x := by rfl) (hx : ∀ s H C cl fp, Loc (Blk X scope s H C cl fp).env.scope x := by intro _ _ _ _ _; first | exact Or.inl rfl | exact Or.inr rfl)
    (hf : ∀ s H C cl fp, (Blk X scope s H C cl fp).fn x = true ∨ (Blk X scope s H C cl fp).env.scope.names.lookup x = some .local := by intro _ _ _ _ _; first | exact .inl rfl | exact .inr rfl)
    (hc : X.calm = true := by rfl) (hs : noSet iter = true := by rfl) :
    EW X δ O (.ListComp elt [⟨.Name x px, iter, [], 0⟩] scope pos) (fun p => oLst p S (as.map f)) O1 := by
  have h := ew_comp (pos := pos) (S := S) i (fun _ => O1) (fun _ => O1) (fun _ => true) (fun k => (as.take k).map f) hN hi ok (fun k y hy s H C cl fp => ts_nil)
    (fun k y hy _ => ⟨f y, by show (as.take (k + 1)).map f = _; rw [take_succ hy, List.map_append]; rfl, fun s H C cl fp => helt y (List.mem_of_getElem? hy) s H C cl fp⟩) (fun k _ h => by cases h) rfl hz hin hix hx hf (.inl rfl) hc hs
  simpa only [List.take_length] using h
/-- [elt for x in iter if test] -/
theorem ew_filter (i : Nat) (t : α → Bool) (f : α → β) (hN : X.N.Nodup) (hi : IT X δ O (.Name x px) iter R as O1) (ok : BlkOk X.N X.env.scope scope own)
    (htst : ∀ y, y ∈ as → ∀ s H C cl fp, T (Blk X scope s H C cl fp) ((wipeD δ (own.map (·.2))).set i (some (R y))) O1 c (t y) O1)
    (helt : ∀ y, y ∈ as → t y = true → ∀ s H C cl fp, E (Blk X scope s H C cl fp) ((wipeD δ (own.map (·.2))).set i (some (R y))) O1 elt (S (f y)) O1) (hz : as.length ≤ sizeLine)
    (hin : i ∈ own.map (·.2) := by decide) (hix : X.N[i]? = some x := by rfl) (hx : ∀ s H C cl fp, Loc (Blk X scope s H C cl fp).env.scope x := by intro _ _ _ _ _; first | exact Or.inl rfl | exact Or.inr rfl)
    (hf : ∀ s H C cl fp, (Blk X scope s H C cl fp).fn x = true ∨ (Blk X scope s H C cl fp).env.scope.names.lookup x = some .local := by intro _ _ _ _ _; first | exact .inl rfl | exact .inr rfl)
    (hc : X.calm = true := by rfl) (hs : noSet iter = true := by rfl) :
    EW X δ O (.ListComp elt [⟨.Name x px, iter, [c], 0⟩] scope pos) (fun p => oLst p S ((as.filter t).map f)) O1 := by
  have h := ew_comp (pos := pos) (S := S) i (fun _ => O1) (fun _ => O1) (fun k => (as[k]?.map t).getD false) (fun k => ((as.take k).filter t).map f) hN hi ok
    (fun k y hy s H C cl fp => ts_one (by rw [hy]; exact htst y (List.mem_of_getElem? hy) s H C cl fp))
    (fun k y hy ht => by
      rw [hy] at ht
      have ht : t y = true := ht
      refine ⟨f y, ?_, fun s H C cl fp => helt y (List.mem_of_getElem? hy) ht s H C cl fp⟩
      show ((as.take (k + 1)).filter t).map f = _
      rw [take_succ hy, List.filter_append, List.map_append, List.filter_cons_of_pos ht]
      rfl)
    (fun k hk ht => by
      have hy := List.getElem?_eq_getElem hk
      rw [hy] at ht
      have ht : t as[k] = false := ht
      refine ⟨rfl, ?_⟩
      show ((as.take (k + 1)).filter t).map f = _
      rw [take_succ hy, List.filter_append, List.filter_cons_of_neg (by rw [ht]; exact Bool.false_ne_true), List.filter_nil, List.append_nil]) rfl hz hin hix hx hf (.inr ⟨_, rfl⟩) hc hs
  simpa only [List.take_length] using h
/-- [elt for x in iter], turn k leads from Ωs k to Ωs (k + 1) and makes f k -/
theorem ew_mapO (i : Nat) (Ωs : Nat → List Own) (f : Nat → β) (hN : X.N.Nodup) (hi : IT X δ O (.Name x px) iter R as (Ωs 0)) (ok : BlkOk X.N X.env.scope scope own)
    (helt : ∀ k y, as[k]? = some y → ∀ s H C cl fp, E (Blk X scope s H C cl fp) ((wipeD δ (own.map (·.2))).set i (some (R y))) (Ωs k) elt (S (f k)) (Ωs (k + 1))) (hz : as.length ≤ sizeLine)
    (hin : i ∈ own.map (·.2) := by decide) (hix : X.N[i]? = some x := by rfl) (hx : ∀ s H C cl fp, Loc (Blk X scope s H C cl fp).env.scope x := by intro _ _ _ _ _; first | exact Or.inl rfl | exact Or.inr rfl)
    (hf : ∀ s H C cl fp, (Blk X scope s H C cl fp).fn x = true ∨ (Blk X scope s H C cl fp).env.scope.names.lookup x = some .local := by intro _ _ _ _ _; first | exact .inl rfl | exact .inr rfl)
    (hc : X.calm = true := by rfl) (hs : noSet iter = true := by rfl) :
    EW X δ O (.ListComp elt [⟨.Name x px, iter, [], 0⟩] scope pos) (fun p => oLst p S ((List.range as.length).map f)) (Ωs as.length) :=
  ew_comp (pos := pos) (S := S) i Ωs Ωs (fun _ => true) (fun k => (List.range k).map f) hN hi ok (fun k y hy s H C cl fp => ts_nil)
    (fun k y hy _ => ⟨f k, by show (List.range (k + 1)).map f = _; rw [List.range_succ, List.map_append]; rfl, fun s H C cl fp => helt k y hy s H C cl fp⟩) (fun k _ h => by cases h) rfl hz hin hix hx hf (.inl rfl) hc hs

/-! ### a def -/
theorem env_start {K : Fg} {G : Hp} : ∀ {vs : List V} {ss : List Slot} (N : List Str), AllS K G vs ss → EnvOk K G (L2.start N vs) (ss.map some ++ List.replicate (N.length - ss.length) none) := by
  intro vs ss N h i s hs
  have hl := h.length
  unfold L2.start
  by_cases hi : i < ss.length
  · rw [List.getElem?_append_left (by rw [List.length_map]; exact hi), List.getElem?_map] at hs
    cases e : ss[i]? with
    | none => rw [e] at hs; cases hs
    | some t =>
      rw [e] at hs
      cases hs
      obtain ⟨v, h1, h2⟩ := allS_get h e
      refine ⟨v, ?_, h2⟩
      rw [List.getElem?_append_left (by rw [List.length_map, hl]; exact hi), List.getElem?_map, h1]
      rfl
  · rw [List.getElem?_append_right (by rw [List.length_map]; omega), List.getElem?_replicate] at hs
    split at hs <;> cases hs
abbrev cxD (P : Program) (w : World) (K : Fg) (mg : Str → Option Value) (base : Heap) (N : List Str) (qual : Str) (st : Stmt) (f : Addr) (cdv : Value) (A : Around) (outer : List Env) (s : Shared) (H : Hp) (EE : XK) : Cx := (cxOf CX0 P w K mg base N qual (defScope st) f cdv A outer s H EE).nox
/-- what a def's body is to reach at its returns -/
def Fin (K : Fg) (B : Bs) {ι : Type} (S : FS ι) (i : ι) (D : Ends) : Prop := ∀ v G' H', Stp B G' H' → (∀ w ∈ S.own' i, ∃ o, H' w.p = some o ∧ G' w.p = none ∧ w.φ K G' o) → (S.res i).ok K G' v → D.rt v H'
theorem Fin.le {K : Fg} {ι : Type} {S : FS ι} {i : ι} (h : Fin K B S i D) (l : BLe B B1) : Fin K B1 S i D := fun v G' H' t ow hv => h v G' H' (t.le l) ow hv
/-- THE RULE for a def: its body, from its arguments' slots, to its promise -/
theorem fn_ok {P : Program} {w : World} {K : Fg} {mg : Str → Option Value} {base : Heap} {x qual : Str} {st : Stmt} {f : Addr} {fd : FuncData} {N ps : List Str} {k : Nat} {ι : Type} {S : FS ι} {dvs : List V} {ds : List Value} (F : Fun K x qual st f fd) (sc : FnScope N ps (defScope st))
    (hb : Binds K fd ps ds) (hd : Vals dvs ds) (hl : ∀ i, (S.args i).length = ps.length)
    (h : ∀ (i : ι) (cdv : Value) (A : Around) (outer : List Env) (s : Shared) (G H : Hp) (D : Ends) (EE : XK), Room k (cxD P w K mg base N qual st f cdv A outer s H EE).A → S.pre i → Fin K ⟨(S.own i).map (·.p), G, H⟩ S i D → (∀ σ H', D.nx σ H' = D.rt .non H') →
      J (cxD P w K mg base N qual st f cdv A outer s H EE) ⟨(S.own i).map (·.p), G, H⟩ ((S.args i).map some ++ List.replicate (N.length - (S.args i).length) none) (S.own i) (defBody st) D) :
    DefOk P w K mg base (k + 1) f dvs S := by
  refine ⟨⟨fd, ps, ds, F.ok sc (fun vs H Q EE hsp => ?_) (fun cdv A outer s H vs Q EE hr hsp => ?_), hb, hd⟩, F.kp⟩
  · obtain ⟨i, G, _, _, ha, _⟩ := hsp
    rw [ha.length, hl]
  · obtain ⟨i, G, hp, hgh, ha, how, hnd, hq⟩ := hsp
    refine ⟨_, pss_w, ?_⟩
    have hN : ps.length ≤ N.length := by have := congrArg List.length sc.pre; rw [List.length_take] at this; omega
    refine h i cdv A outer s G H { nx := fun _ H' => Q .non H', rt := Q } EE hr hp (fun v G' H' t ow hv => hq v G' H' t ow hv) (fun _ _ => rfl) _ G H ⟨Stp.refl hgh, env_start N ha, ?_, how, fun w hw => .inl (List.mem_map.mpr ⟨w, hw, rfl⟩), hnd⟩
    unfold L2.start
    rw [List.length_append, List.length_append, List.length_map, List.length_map, List.length_replicate, List.length_replicate, ha.length]
/-- THE RULE for a def with defaults: dv those that a call leaves out -/
theorem fn_okD {P : Program} {w : World} {K : Fg} {mg : Str → Option Value} {base : Heap} {x qual : Str} {st : Stmt} {f : Addr} {fd : FuncData} {N ps : List Str} {k : Nat} {ι : Type} {S : FS ι} {dvs dv : List V} {kws : List (Str × V)} (F : FunD K x qual (defArgs st) (defBody st) (defScope st) dvs kws f fd) (sc : FnScope N ps (defScope st))
    (hb : ∃ ds, Vals dv ds ∧ Binds K fd ps ds) (hl : ∀ i, (S.args i).length = ps.length)
    (h : ∀ (i : ι) (cdv : Value) (A : Around) (outer : List Env) (s : Shared) (G H : Hp) (D : Ends) (EE : XK), Room k (cxD P w K mg base N qual st f cdv A outer s H EE).A → S.pre i → Fin K ⟨(S.own i).map (·.p), G, H⟩ S i D → (∀ σ H', D.nx σ H' = D.rt .non H') →
      J (cxD P w K mg base N qual st f cdv A outer s H EE) ⟨(S.own i).map (·.p), G, H⟩ ((S.args i).map some ++ List.replicate (N.length - (S.args i).length) none) (S.own i) (defBody st) D) :
    DefOk P w K mg base (k + 1) f dv S := by
  obtain ⟨ds, hd, hb⟩ := hb
  refine ⟨⟨fd, ps, ds, F.ok sc (fun vs H Q EE hsp => ?_) (fun cdv A outer s H vs Q EE hr hsp => ?_), hb, hd⟩, F.kp⟩
  · obtain ⟨i, G, _, _, ha, _⟩ := hsp
    rw [ha.length, hl]
  · obtain ⟨i, G, hp, hgh, ha, how, hnd, hq⟩ := hsp
    refine ⟨wSs (cxD P w K mg base N qual st f cdv A outer s H EE) (defBody st), PSs.nox pss_w, ?_⟩
    have hN : ps.length ≤ N.length := by have := congrArg List.length sc.pre; rw [List.length_take] at this; omega
    refine h i cdv A outer s G H { nx := fun _ H' => Q .non H', rt := Q } EE hr hp (fun v G' H' t ow hv => hq v G' H' t ow hv) (fun _ _ => rfl) _ G H ⟨Stp.refl hgh, env_start N ha, ?_, how, fun w hw => .inl (List.mem_map.mpr ⟨w, hw, rfl⟩), hnd⟩
    unfold L2.start
    rw [List.length_append, List.length_append, List.length_map, List.length_map, List.length_replicate, List.length_replicate, ha.length]
/-- at a return -/
theorem fin_ret {ι : Type} {S : FS ι} {i : ι} {K : Fg} {O' : List Own} (hf : Fin K B S i D) (ho : ∀ w ∈ S.own' i, w ∈ O') (hs : ∀ G v, s.ok K G v → (S.res i).ok K G v) : ∀ v σ G' H', Sta K B δ O' σ G' H' → s.ok K G' v → D.rt v H' :=
  fun v σ G' H' st hv => hf v G' H' st.stp (fun w hw => st.own w (ho w hw)) (hs _ _ hv)
/-- at the body's end -/
theorem fin_end {ι : Type} {S : FS ι} {i : ι} (hf : Fin X.K B S i D) (hn : ∀ σ H', D.nx σ H' = D.rt .non H') (ho : ∀ w ∈ S.own' i, w ∈ O) (hs : S.res i = sNon := by rfl) : J X B δ O [] D :=
  j_nil fun σ G H st => by
    rw [hn]
    exact hf .non G H st.stp (fun w hw => st.own w (ho w hw)) (by rw [hs]; rfl)
end
end Gd

/-! What an own class's __len__, __bool__, __eq__ (== and !=), __add__ (beside an int), __call__ do -/
namespace Gd
open PySem L2
section
variable {X : Cx} {B : Bs} {δ : List (Option Slot)} {O O1 O2 : List Own} {s s1 s2 s3 : Slot} {ss : List Slot} {ι : Type} {S : FS ι} {k : Nat} {f C : Addr} {tab tab2 : List (Str × Slot)} {pins : List (Addr × Obj)} {σ : SS} {G H : Hp} {sh : Shared} {u v : Bool} {n : Int}
/-- a def's promise, as a raw one -/
theorem DefOk.raw {P : Program} {w : World} {K : Fg} {mg : Str → Option Value} {base : Heap} (F : DefOk P w K mg base k f [] S) : FnR P w K mg base CX0 k f (S.sp K) := by
  obtain ⟨⟨fd, ps, ds, F, hb, hd⟩, hk⟩ := F
  exact (F.raw hb hd).imp fun vs H Q E h => by rwa [List.append_nil]
theorem inst_at {a C dx : Addr} {fs : List (Str × V)} (I : Inv X pins σ H sh) (e : H a = some (.ins C dx fs)) : ∃ od, PySem.W.InstAt sh.heap a (PySem.W.instObj C dx) C (some od) := by
  obtain ⟨mA, J, _⟩ := ins_get I.hok e
  obtain ⟨od, J, _⟩ := J.look
  exact ⟨od, J⟩
/-- a method, run below -/
theorem run_in {A : Around} {Q : VK} {us : List Value} {ws : List V} {sp : Sp} (F : FnR X.prog X.w X.K X.mg X.base CX0 k f sp) (hr : Room k A) (hA : A.frames = X.A.frames) (I : Inv X pins σ H sh) (r : Vals ws us) (h : sp ws H Q E0) :
    wpAny (model X.prog X.w) A (call (.ref f) us) (EP X pins σ Q) X.xe sh := by
  have e := I.env0
  have e0 : Env0 X.prog X.w X.K X.mg X.base A X.stack sh H := ⟨by rw [hA]; exact e.frames, e.mod, e.bs, e.bsz, e.funs, e.frf, e.hok, e.bare⟩
  exact wpAny_call (SlX.run_at (us := us) (ws := ws) F hr e0 pass0 I r h)
theorem sIns_at {K : Fg} {v : V} (h : (sIns C tab).ok K G v) (e : Same G H) : ∃ p dx fs, v = .ref p ∧ H p = some (.ins C dx fs) := by
  obtain ⟨p, o, rfl, hp, dx, fs, rfl, _⟩ := h
  exact ⟨p, dx, fs, rfl, e _ _ hp⟩
/-- a pure promise at a state -/
theorem fs_pure {K : Fg} {Q : VK} {vs : List V} {EE : XK} (j : ι) (hp : S.pre j) (st : Sta K B δ O σ G H) (ha : AllS K G vs (S.args j)) (h1 : S.own j = []) (h2 : S.own' j = [])
    (kk : ∀ v G' H', Same G G' → Sta K B δ O σ G' H' → (S.res j).ok K G' v → Q v H') : S.sp K vs H Q EE :=
  fs_use (O2 := O) j hp (by rw [h1]; exact st) ha (by rw [h1, h2]) fun v G' H' m st' hv => kk v G' H' m (by rw [h2] at st'; exact st') hv

theorem c_lenO (j : ι) (hs : PySem.W.findIn X.K (.ref C) "__len__" = some (some (.ref f))) (hf : PySem.W.isFn X.K (.ref f) = true) (F : DefX X k f [] S) (hr : Room (k + 1) X.A) (hp : S.pre j) (hn : 0 ≤ n ∧ n < 2 ^ 63) (hargs : S.args j = [sIns C tab] := by rfl) (hres : S.res j = sInt n := by rfl)
    (h1 : S.own j = [] := by rfl) (h2 : S.own' j = [] := by rfl) : CallE X (.builtin "len") [sIns C tab] (sInt n) := by
  refine ⟨fun xs H Q => ∃ a dx fs, xs = [.ref a] ∧ H a = some (.ins C dx fs) ∧ S.sp X.K [.ref a] H (fun z H' => z = .int n ∧ Q (.int n) H') E0, ?_, ?_⟩
  · intro pins s σ H xs us Q I r h
    obtain ⟨a, dx, fs, rfl, ha, q⟩ := h
    obtain ⟨u, rfl, ru⟩ := vals1 r
    cases ru
    obtain ⟨od, J⟩ := inst_at I ha
    obtain ⟨m, hF⟩ := I.fr
    refine PySem.W.len_K hF I.ok.mod.kin J hs hf (wpAny_mono (run_in (us := [.ref a]) (ws := [.ref a]) F.raw hr.in1 rfl I (.cons rfl .nil) q) (fun w s' z => ?_) fun _ _ x => x)
    obtain ⟨z', H', I', rz, ez, qz⟩ := z
    subst ez
    obtain ⟨t, rfl⟩ := rz
    exact ⟨hn, .int n, H', I'.tok _, ⟨_, rfl⟩, qz⟩
  · intro B δ O σ G H Q xs st h q
    obtain ⟨v, rfl, hv⟩ := alls1 h
    obtain ⟨p, dx, fs, rfl, hp'⟩ := sIns_at hv st.stp.gh
    refine ⟨p, dx, fs, rfl, hp', fs_pure j hp st (by rw [hargs]; exact .cons hv .nil) h1 h2 fun v G' H' m st' hv' => ?_⟩
    rw [hres] at hv'
    exact ⟨hv', q _ G' H' m st' rfl⟩
theorem bool_new_in {prog : Program} {w : World} (x : Addr) : MeetsIn prog w (Builtin.«bool.__new__» ⟨[.type "bool", .ref x], []⟩) (fun A R s => wpAny (model prog w) A.in1 (truthy (.ref x)) (fun b s2 => R (.ok (.ret (.bool b))) s2) (fun e s2 => R (.error e) s2) s) :=
  .of_wp fun A R s hs => by
    have f1 := F.conv_sub_bool
    obtain ⟨hp, g, d, tk, os⟩ := s
    repeat (any_goals (first | assumption | (with_reducible refine wpAny_mono hs (fun b s2 hb => ?_) fun _ _ z => z) | wp_step))
    all_goals first | exact ⟨_, rfl, hb⟩ | exact hb | skip
/-- bool(x), the instance's own __bool__ -/
theorem bool_own {prog : Program} {w : World} {A : Around} {E : Value → Shared → Prop} {s : Shared} {K : Fg} {x C f : Addr} {L : Addr} {h₀ : Heap} {m : Str → Option Value} {ox : Obj} {od : Option Obj} {Q : Value → Shared → Prop} (Fr : PyProof.Rows.Fr h₀ L s.heap m) (X₀ : K.In h₀) (I : PySem.W.InstAt s.heap x ox C od)
    (hs : PySem.W.findIn K (.ref C) "__bool__" = some (some (.ref f))) (hf : PySem.W.isFn K (.ref f) = true) (h : wpAny (model prog w) A.in1.in1 (call (.ref f) [.ref x]) (fun v s' => ∃ b, v = .bool b ∧ Q (.bool b) s') E s) : wpAny (model prog w) A (call (.type "bool") [.ref x]) Q E s := by
  refine callType_newIn F.called_bool F.newNe_bool (F.typeCall_bool_1 (.ref x)) (F.newCall_bool_1 (.ref x)) (fun obj => F.args_object_init_2 obj (.ref x)) F.entry_bool_new (bool_new_in x) ?_
  refine PySem.W.truthy_K Fr X₀ I hs hf (wpAny_mono h (fun v s' hv => ?_) fun _ _ z => z)
  obtain ⟨b, rfl, hb⟩ := hv
  exact ⟨rfl, hb⟩
theorem c_boolO (j : ι) (hs : PySem.W.findIn X.K (.ref C) "__bool__" = some (some (.ref f))) (hf : PySem.W.isFn X.K (.ref f) = true) (F : DefX X k f [] S) (hr : Room (k + 2) X.A) (hp : S.pre j) (hargs : S.args j = [sIns C tab] := by rfl) (hres : S.res j = sBl u := by rfl)
    (h1 : S.own j = [] := by rfl) (h2 : S.own' j = [] := by rfl) : CallE X (.type "bool") [sIns C tab] (sBl u) := by
  refine ⟨fun xs H Q => ∃ a dx fs, xs = [.ref a] ∧ H a = some (.ins C dx fs) ∧ S.sp X.K [.ref a] H (fun z H' => z = .bl u ∧ Q (.bl u) H') E0, ?_, ?_⟩
  · intro pins s σ H xs us Q I r h
    obtain ⟨a, dx, fs, rfl, ha, q⟩ := h
    obtain ⟨w, rfl, ru⟩ := vals1 r
    cases ru
    obtain ⟨od, J⟩ := inst_at I ha
    obtain ⟨m, hF⟩ := I.fr
    have hr2 : Room k X.A.in1.in1 := (show Room (k + 1) X.A.in1 from Room.in1 hr).in1
    refine bool_own hF I.ok.mod.kin J hs hf (wpAny_mono (run_in (us := [.ref a]) (ws := [.ref a]) F.raw hr2 rfl I (.cons rfl .nil) q) (fun w s' z => ?_) fun _ _ x => x)
    obtain ⟨z', H', I', rz, ez, qz⟩ := z
    subst ez
    cases rz
    exact ⟨u, rfl, .bl u, H', I', rfl, qz⟩
  · intro B δ O σ G H Q xs st h q
    obtain ⟨v, rfl, hv⟩ := alls1 h
    obtain ⟨p, dx, fs, rfl, hp'⟩ := sIns_at hv st.stp.gh
    refine ⟨p, dx, fs, rfl, hp', fs_pure j hp st (by rw [hargs]; exact .cons hv .nil) h1 h2 fun v G' H' m st' hv' => ?_⟩
    rw [hres] at hv'
    exact ⟨hv', q _ G' H' m st' rfl⟩
/-- x == y of two instances of one class, by its own __eq__ -/
theorem o_eqO (j : ι) (hs : PySem.W.findIn X.K (.ref C) "__eq__" = some (some (.ref f))) (hf : PySem.W.isFn X.K (.ref f) = true) (F : DefX X k f [] S) (hr : Room k X.A) (hp : S.pre j) (hargs : S.args j = [sIns C tab, sIns C tab2] := by rfl) (hres : S.res j = sBl u := by rfl)
    (h1 : S.own j = [] := by rfl) (h2 : S.own' j = [] := by rfl) : OpE X (compareOp .Eq) (sIns C tab) (sIns C tab2) (sBl u) := by
  refine ⟨fun x y H Q => ∃ a b dx fs dy gs, x = .ref a ∧ y = .ref b ∧ H a = some (.ins C dx fs) ∧ H b = some (.ins C dy gs) ∧ S.sp X.K [.ref a, .ref b] H (fun z H' => z = .bl u ∧ Q (.bl u) H') E0, ?_, ?_⟩
  · intro pins s σ H x y v w Q I rx ry h
    obtain ⟨a, b, dx, fs, dy, gs, rfl, rfl, ha, hb, q⟩ := h
    cases rx
    cases ry
    obtain ⟨od, J⟩ := inst_at I ha
    obtain ⟨od2, J2⟩ := inst_at I hb
    obtain ⟨m, hF⟩ := I.fr
    show wpAny (model X.prog X.w) X.A (richCompare .Eq (.ref a) (.ref b)) (EP X pins σ Q) X.xe s
    refine PySem.W.cmp_K (op := .Eq) (tb := .ref C) hr.units0 hF I.ok.mod.kin J J2.type (by simp [PySem.W.notFirst]) hs hf (wpAny_mono (run_in (us := [.ref a, .ref b]) (ws := [.ref a, .ref b]) F.raw hr rfl I (.cons rfl (.cons rfl .nil)) q) (fun w s' z => ?_) fun _ _ x => x)
    obtain ⟨z', H', I', rz, ez, qz⟩ := z
    subst ez
    cases rz
    exact ⟨.bl u, H', I', rfl, qz⟩
  · intro B δ O σ G H Q x y st hx hy q
    obtain ⟨p, dx, fs, rfl, hp'⟩ := sIns_at hx st.stp.gh
    obtain ⟨p2, dx2, fs2, rfl, hp2⟩ := sIns_at hy st.stp.gh
    refine ⟨p, p2, dx, fs, dx2, fs2, rfl, rfl, hp', hp2, fs_pure j hp st (by rw [hargs]; exact .cons hx (.cons hy .nil)) h1 h2 fun v G' H' m st' hv' => ?_⟩
    rw [hres] at hv'
    exact ⟨hv', q _ G' H' m st' rfl⟩
/-- what the class's own object must look like (for !=) -/
def ClsO (K : Fg) (C : Addr) : Prop := ∃ nm q N bs bm hd sn sub ab col dd k0 k1 k2 k3 k5 id, K.lookup C = some (excClassObj nm q C N bs bm hd sn sub ab col dd k0 k1 k2 k3 k5 id) ∧ bm.contains (.type "object") = true
/-- !=, the class has an own __eq__ and no own __ne__ -/
theorem ne_K {prog : Program} {w : World} {A : Around} {E : Value → Shared → Prop} {s : Shared} {K : Fg} {x y C f : Addr} {L : Addr} {h₀ : Heap} {m : Str → Option Value} {ox oy : Obj} {od od2 : Option Obj} {Q : Value → Shared → Prop} (hu : A.units + 1 < cLine) (Fr : PyProof.Rows.Fr h₀ L s.heap m) (X₀ : K.In h₀)
    (I : PySem.W.InstAt s.heap x ox C od) (I2 : PySem.W.InstAt s.heap y oy C od2) (hox : s.heap.get? x = some ox) (hoc : ox.cls = .ref C) (hC : ClsO K C) (hne : PySem.W.findIn K (.ref C) "__ne__" = some (some (.builtin "object.__ne__")))
    (hs : PySem.W.findIn K (.ref C) "__eq__" = some (some (.ref f))) (hf : PySem.W.isFn K (.ref f) = true)
    (h : wpAny (model prog w) A.in1 (call (.ref f) [.ref x, .ref y]) (fun v s' => ∃ b, v = .bool b ∧ Q (.bool (!b)) s') E s) : wpAny (model prog w) A (richCompare .NotEq (.ref x) (.ref y)) Q E s := by
  have XK := X₀.keeps Fr.keep
  obtain ⟨nm, q, N, bs, bm, hd, sn, sub, ab, col, dd, k0, k1, k2, k3, k5, id, lC, hob⟩ := hC
  have hCh := XK _ _ lC
  unfold richCompare
  simp only [oneThing_ref]
  refine wpAny_holding (wpAny_bind (wpAny_cRoomFor (Nat.lt_of_succ_lt hu) ?_))
  rw [cmpInfo_NotEq]
  dsimp only
  refine wpAny_bind (I.type.here (wpAny_bind (I2.type.here ?_)))
  rw [show (Value.ref C != Value.ref C) = false from by simp]
  simp only [Bool.false_eq_true, if_false]
  refine wpAny_bind (wpAny_pure ?_)
  simp only [Bool.false_eq_true, if_false]
  have one : wpAny (model prog w) A (tryCompare (.ref x) "__ne__" (.ref y)) (fun r s' => ∃ v, r = some v ∧ Q v s') E s := by
    simp only [tryCompare]
    refine wpAny_bind ?_
    simp only [callSpecialIfBound?, bindSpecialIfBound?]
    refine wpAny_holding (wpAny_bind (wpAny_bind (wpAny_bind (I.type.here ((PySem.W.looks_findIn XK hne).here ?_)))))
    simp only [F.cmp_object.ne.bind]
    have body : wpAny (model prog w) A (call (.builtin "object.__ne__") [.ref x, .ref y]) (fun v s' => ∃ b, v = .bool b ∧ Q (.bool b) s') E s := by
      obtain ⟨hp, g, d, t, os⟩ := s
      refine wpAny_call (codeAny_call_builtin F.cmp_object.ne.plain F.cmpEntry_ne (wpAny_check_slot_inst F.cmpKind_ne F.cmpSplit_ne (F.cmpArgs_ne _ _) hob hox hoc hCh ?_))
      unfold Builtin.«object.__ne__»
      repeat (first
        | with_reducible refine wpAny_cRoomFor (A := A.in1) hu ?_
        | (refine wpAny_bind (m := callSpecialIfBound? (.ref x) (Str.ofString "__eq__") [.ref y])
            (PySem.W.ifBound_K XK I hs hf (wpAny_mono h (fun r s' hr => by
              obtain ⟨b, rfl, hq⟩ := hr
              repeat (first | exact ⟨_, rfl, hq⟩ | exact wpAny_pure ⟨_, rfl, hq⟩ | exact wpAny_pure (wpAny_pure ⟨_, rfl, hq⟩) | (refine wpAny_bind (m := truthy (.bool _)) (wpAny_truthy_bool ?_)) | wp_step)) fun _ _ e => e)))
        | wp_step)
    have fin : wpAny (model prog w) A (call (.builtin "object.__ne__") ([.ref x] ++ [.ref y]) >>= fun v => pure (some v)) (fun r s' => wpAny (model prog w) A (match r with | some .notImplemented | none => pure none | some v => pure (some v)) (fun r s' => ∃ v, r = some v ∧ Q v s') E s') E s :=
      wpAny_bind (wpAny_mono body (fun v s' ⟨b, e, hq⟩ => by subst e; exact wpAny_pure (wpAny_pure ⟨_, rfl, hq⟩)) fun _ _ z => z)
    refine wpAny_bind (wpAny_askSetting (wpAny_ite ?_))
    split
    · exact wpAny_bind (wpAny_pure (wpAny_pure fin))
    · exact wpAny_tryCatch (wpAny_bind (wpAny_pure (wpAny_pure fin)))
  refine wpAny_bind (wpAny_mono one (fun r s' z => ?_) fun _ _ e => e)
  obtain ⟨v, rfl, hq⟩ := z
  first | exact wpAny_pure hq | exact wpAny_pure (wpAny_pure hq)
theorem o_neO (j : ι) (hs : PySem.W.findIn X.K (.ref C) "__eq__" = some (some (.ref f))) (hf : PySem.W.isFn X.K (.ref f) = true) (hC : ClsO X.K C) (hne : PySem.W.findIn X.K (.ref C) "__ne__" = some (some (.builtin "object.__ne__"))) (F : DefX X k f [] S) (hr : Room (k + 1) X.A) (hp : S.pre j)
    (hargs : S.args j = [sIns C tab, sIns C tab2] := by rfl) (hres : S.res j = sBl u := by rfl) (h1 : S.own j = [] := by rfl) (h2 : S.own' j = [] := by rfl) : OpE X (compareOp .NotEq) (sIns C tab) (sIns C tab2) (sBl (!u)) := by
  refine ⟨fun x y H Q => ∃ a b dx fs dy gs, x = .ref a ∧ y = .ref b ∧ H a = some (.ins C dx fs) ∧ H b = some (.ins C dy gs) ∧ S.sp X.K [.ref a, .ref b] H (fun z H' => z = .bl u ∧ Q (.bl (!u)) H') E0, ?_, ?_⟩
  · intro pins s σ H x y v w Q I rx ry h
    obtain ⟨a, b, dx, fs, dy, gs, rfl, rfl, ha, hb, q⟩ := h
    cases rx
    cases ry
    obtain ⟨od, J⟩ := inst_at I ha
    obtain ⟨od2, J2⟩ := inst_at I hb
    obtain ⟨m, hF⟩ := I.fr
    obtain ⟨_, _, _, hga, _⟩ := (show ObjOk X.prog X.w H s.heap a (.ins C dx fs) from I.hok a _ ha)
    show wpAny (model X.prog X.w) X.A (richCompare .NotEq (.ref a) (.ref b)) (EP X pins σ Q) X.xe s
    refine ne_K (by have := hr.units; omega) hF I.ok.mod.kin J J2 hga rfl hC hne hs hf (wpAny_mono (run_in (us := [.ref a, .ref b]) (ws := [.ref a, .ref b]) F.raw hr.in1 rfl I (.cons rfl (.cons rfl .nil)) q) (fun w s' z => ?_) fun _ _ x => x)
    obtain ⟨z', H', I', rz, ez, qz⟩ := z
    subst ez
    cases rz
    exact ⟨u, rfl, .bl (!u), H', I', rfl, qz⟩
  · intro B δ O σ G H Q x y st hx hy q
    obtain ⟨p, dx, fs, rfl, hp'⟩ := sIns_at hx st.stp.gh
    obtain ⟨p2, dx2, fs2, rfl, hp2⟩ := sIns_at hy st.stp.gh
    refine ⟨p, p2, dx, fs, dx2, fs2, rfl, rfl, hp', hp2, fs_pure j hp st (by rw [hargs]; exact .cons hx (.cons hy .nil)) h1 h2 fun v G' H' m st' hv' => ?_⟩
    rw [hres] at hv'
    exact ⟨hv', q _ G' H' m st' rfl⟩
/-- what x + n asks of the class of x, with an own __add__ at f, n an int -/
structure ClsAdd (K : Fg) (C f : Addr) : Prop where
  hc : PySem.W.selfFirst K C = true
  hs : PySem.W.findIn K (.ref C) (PySem.dunder "add") = some (some (.ref f))
  hf : PySem.W.isFn K (.ref f) = true
  hr : PySem.W.findIn K (.ref C) (PySem.dunderR "add") = some none
  h1 : ∃ fo, PySem.W.findIn K (.type "int") (PySem.dunder "add") = some fo
  h2 : ∃ ro, PySem.W.findIn K (.type "int") (PySem.dunderR "add") = some ro
  hsub : PySem.W.subIn K (.type "int") (.ref C) = some false
theorem o_addO {φ : Slot} (j : ι) (c : ClsAdd X.K C f) (F : DefX X k f [] S) (hr : Room k X.A) (hp : S.pre j) (hargs : S.args j = [sIns C tab, sInt n] := by rfl) (hres : S.res j = φ := by rfl) (hni : ∀ (K : Fg) (G : Hp) (v : V) (u : Value), φ.ok K G v → RelV v u → u ≠ .notImplemented)
    (h1 : S.own j = [] := by rfl) (h2 : S.own' j = [] := by rfl) : OpE X (binaryOp .Add) (sIns C tab) (sInt n) φ := by
  refine ⟨fun x y H Q => ∃ a dx fs, x = .ref a ∧ y = .int n ∧ H a = some (.ins C dx fs) ∧ S.sp X.K [.ref a, .int n] H (fun z H' => (∀ u, RelV z u → u ≠ .notImplemented) ∧ Q z H') E0, ?_, ?_⟩
  · intro pins s σ H x y v w Q I rx ry h
    obtain ⟨a, dx, fs, rfl, rfl, ha, q⟩ := h
    cases rx
    obtain ⟨t, rfl⟩ := (show ∃ t, w = Value.int n t from ry)
    obtain ⟨od, J⟩ := inst_at I ha
    obtain ⟨m, hF⟩ := I.fr
    obtain ⟨fo, e1⟩ := c.h1
    obtain ⟨ro, e2⟩ := c.h2
    refine PySem.W.ksp_binT (op := .Add) (T := "int") hF I.ok.mod.kin J rfl c.hc c.hs c.hf c.hr (.inl rfl) e1 e2 c.hsub (wpAny_mono (run_in (us := [.ref a, .int n t]) (ws := [.ref a, .int n]) F.raw hr rfl I (.cons rfl (.cons ⟨t, rfl⟩ .nil)) q) (fun w s' z => ?_) fun _ _ x => x)
    obtain ⟨z', H', I', rz, ni, qz⟩ := z
    have ni := ni w rz
    have fin : EP X pins σ Q w s' := ⟨z', H', I', rz, qz⟩
    cases w <;> first | exact absurd rfl ni | exact fin
  · intro B δ O σ G H Q x y st hx hy q
    obtain ⟨p, dx, fs, rfl, hp'⟩ := sIns_at hx st.stp.gh
    cases hy
    refine ⟨p, dx, fs, rfl, rfl, hp', fs_pure j hp st (by rw [hargs]; exact .cons hx (.cons rfl .nil)) h1 h2 fun v G' H' m st' hv' => ?_⟩
    rw [hres] at hv'
    exact ⟨fun u ru => hni _ _ _ _ hv' ru, q v G' H' m st' hv'⟩
theorem ins_ni {K : Fg} {G : Hp} {v : V} {u : Value} (h : (sIns C tab).ok K G v) (r : RelV v u) : u ≠ .notImplemented := by
  obtain ⟨p, o, rfl, _⟩ := h
  cases r
  intro z
  cases z
/-- f(e, ..), f an instance with an own __call__ -/
theorem e_callO {fe e : Expr} {es : List Expr} {pos : Pos} (j : ι) (c : StX.CallO X.K C f) (F : DefX X k f [] S) (hr : Room k X.A) (hfe : E X δ O fe (sIns C tab) O1) (ha : EA X δ O1 (e :: es) ss O2) (hp : S.pre j) (hargs : S.args j = sIns C tab :: ss := by rfl) (h1 : S.own j = [] := by rfl) (h2 : S.own' j = [] := by rfl)
    (he : noStar e = true := by rfl) (hpl : noStars es = true := by rfl) (ht : eval (.Call fe (e :: es) [] pos) X.env = (do callWith pos (← eval fe X.env) [] (backTo pos (starEach (e :: es) X.env)) (backToKw pos (keywordEach [] X.env))) := by rfl) :
    E X δ O (.Call fe (e :: es) [] pos) (S.res j) O2 := by
  intro B σ G H Q st k
  refine e_of (StX.pe_callO pe_w c F.raw hr (E := E0) pass0 pa_w ht (starEach_plain he) (backTo_plain hpl)) ?_
  refine hfe B σ G H _ st fun v G1 H1 m1 st1 hv => ?_
  have hv0 := hv
  obtain ⟨q, dx, fs, rfl, hq⟩ := sIns_at hv (Same.refl G1)
  refine ⟨q, rfl, ?_⟩
  refine ha B σ G1 H1 _ st1 fun vs G2 H2 m2 st2 hvs => ⟨.inr ⟨dx, fs, st2.stp.gh _ _ (m2 _ _ hq)⟩, ?_⟩
  exact fs_pure j hp st2 (by rw [hargs]; exact .cons ((sIns C tab).mono m2 hv0) hvs) h1 h2 fun v G' H' m st' hv' => k v G' H' (m1.trans (m2.trans m)) st' hv'
end
end Gd

namespace Gd
open PySem L2
section
variable {X : Cx} {B : Bs} {δ : List (Option Slot)} {O O1 O2 : List Own} {s s1 s2 s3 : Slot} {D : Ends} {rest : List Stmt} {a b : Expr}
/-- a, b = x, y -/
theorem j_par {x y : Str} {px py pt pos pt2 : Pos} {kt k2} (i j : Nat) (ha : E X δ O a s1 O1) (hb : E X δ O1 b s2 O2) (q : J X B ((δ.set i (some s1)).set j (some s2)) O2 rest D) (hN : X.N.Nodup) (hi : X.N[i]? = some x := by rfl) (hj : X.N[j]? = some y := by rfl) (hij : i ≠ j := by decide) (hc : X.calm = true := by rfl)
    (hx : X.env.scope.names.lookup x = some .local := by rfl) (hy : X.env.scope.names.lookup y = some .local := by rfl) (h1 : noStar a = true := by rfl) (h2 : noStar b = true := by rfl)
    (hw : swappedStores [.Tuple [.Name x px, .Name y py] kt pt] (.Tuple [a, b] k2 pt2) X.env = pure (some [x, y]) := by rfl) (hs : swapsWithSole [.Tuple [.Name x px, .Name y py] kt pt] (.Tuple [a, b] k2 pt2) pos.line X.env = pure false := by rfl) :
    J X B δ O (.Assign [.Tuple [.Name x px, .Name y py] kt pt] (.Tuple [a, b] k2 pt2) pos :: rest) D :=
  j_cons fun σ G H st => s_of (ps_par hc hN hi hj hij hx hy (pa_cons pe_w (pa_cons pe_w pa_nil (starEach_plain h2)) (starEach_plain h1)) hw hs)
    (ha B σ G H _ st fun v G1 H1 m1 st1 hv => hb B σ G1 H1 _ st1 fun w G2 H2 m2 st2 hw2 => ⟨v, w, rfl, q _ G2 H2 ((st2.set (s1.mono m2 hv)).set hw2)⟩)
/-- a, b = x, a new object -/
theorem j_parW {x y : Str} {px py pt pos pt2 : Pos} {kt k2} {φ : Addr → Own} (i j : Nat) (ha : E X δ O a s1 O1) (hb : EW X δ O1 b φ O2) (q : ∀ r, B.H r = none → J X B ((δ.set i (some s1)).set j (some (sRef r))) (φ r :: O2) rest D) (hN : X.N.Nodup) (hi : X.N[i]? = some x := by rfl) (hj : X.N[j]? = some y := by rfl) (hij : i ≠ j := by decide) (hc : X.calm = true := by rfl)
    (hx : X.env.scope.names.lookup x = some .local := by rfl) (hy : X.env.scope.names.lookup y = some .local := by rfl) (h1 : noStar a = true := by rfl) (h2 : noStar b = true := by rfl)
    (hw : swappedStores [.Tuple [.Name x px, .Name y py] kt pt] (.Tuple [a, b] k2 pt2) X.env = pure (some [x, y]) := by rfl) (hs : swapsWithSole [.Tuple [.Name x px, .Name y py] kt pt] (.Tuple [a, b] k2 pt2) pos.line X.env = pure false := by rfl) :
    J X B δ O (.Assign [.Tuple [.Name x px, .Name y py] kt pt] (.Tuple [a, b] k2 pt2) pos :: rest) D :=
  j_cons fun σ G H st => s_of (ps_par hc hN hi hj hij hx hy (pa_cons pe_w (pa_cons pe_w pa_nil (starEach_plain h2)) (starEach_plain h1)) hw hs)
    (ha B σ G H _ st fun v G1 H1 m1 st1 hv => hb B σ G1 H1 _ st1 fun r G2 H2 hr m2 st2 => ⟨v, .ref r, rfl, q r hr _ G2 H2 ((st2.set (s1.mono m2 hv)).set rfl)⟩)
/-- two owned objects, the other way round -/
theorem j_swap {w1 w2 : Own} {sts : List Stmt} (h : J X B δ [w2, w1] sts D) : J X B δ [w1, w2] sts D :=
  j_perm _ h (fun w hw => by simp only [List.mem_cons, List.not_mem_nil, or_false] at hw ⊢; exact hw.symm) fun nd => by
    simp only [List.map_cons, List.map_nil, List.nodup_cons, List.mem_singleton, List.not_mem_nil, not_false_eq_true, List.nodup_nil, and_true] at nd ⊢
    exact fun e => nd e.symm
/-- two truth values, != -/
theorem neB_dec {u v : Bool} : (!decide (u = v)) = (u != v) := by cases u <;> cases v <;> rfl
/-- THE RULE for the law's own def: as fn_ok, its record kept in sight -/
theorem fn_okF {P : Program} {w : World} {K : Fg} {mg : Str → Option Value} {base : Heap} {x qual : Str} {st : Stmt} {f : Addr} {fd : FuncData} {N ps : List Str} {k : Nat} {ι : Type} {S : FS ι} (F : Fun K x qual st f fd) (sc : FnScope N ps (defScope st))
    (hl : ∀ i, (S.args i).length = ps.length)
    (h : ∀ (i : ι) (cdv : Value) (A : Around) (outer : List Env) (s : Shared) (G H : Hp) (D : Ends) (EE : XK), Room k (cxD P w K mg base N qual st f cdv A outer s H EE).A → S.pre i → Fin K ⟨(S.own i).map (·.p), G, H⟩ S i D → (∀ σ H', D.nx σ H' = D.rt .non H') →
      J (cxD P w K mg base N qual st f cdv A outer s H EE) ⟨(S.own i).map (·.p), G, H⟩ ((S.args i).map some ++ List.replicate (N.length - (S.args i).length) none) (S.own i) (defBody st) D) :
    FnOk P w K mg base CX0 (k + 1) f fd ps (S.sp K) := by
  refine F.ok sc (fun vs H Q EE hsp => ?_) (fun cdv A outer s H vs Q EE hr hsp => ?_)
  · obtain ⟨i, G, _, _, ha, _⟩ := hsp
    rw [ha.length, hl]
  · obtain ⟨i, G, hp, hgh, ha, how, hnd, hq⟩ := hsp
    refine ⟨_, pss_w, ?_⟩
    have hN : ps.length ≤ N.length := by have := congrArg List.length sc.pre; rw [List.length_take] at this; omega
    refine h i cdv A outer s G H { nx := fun _ H' => Q .non H', rt := Q } EE hr hp (fun v G' H' t ow hv => hq v G' H' t ow hv) (fun _ _ => rfl) _ G H ⟨Stp.refl hgh, env_start N ha, ?_, how, fun w hw => .inl (List.mem_map.mpr ⟨w, hw, rfl⟩), hnd⟩
    unfold L2.start
    rw [List.length_append, List.length_append, List.length_map, List.length_map, List.length_replicate, List.length_replicate, ha.length]
end
end Gd

namespace K35
open PySem L2 Gd
def top (i : Nat) : Stmt := PySem.Challenge.pw_typingroom_k35_whole_edit_rows.main.body.getD i (.Pass ⟨0, 0, 0, 0⟩)
abbrev sCell : Stmt := top 20
abbrev sDraw : Stmt := top 21
abbrev sNumber : Stmt := top 22
abbrev sNext : Stmt := top 23
abbrev sPick : Stmt := top 24
/-! ### the draws, as functions -/
def cellAt (ns : List Int) (k : Int) : Int := ns.getD k.toNat 0
structure Bt (mg : Str → Option Value) : Prop where
  len : mg "len" = none
  int : mg "int" = none
  range : mg "range" = none
section
variable {P : Program} {w : World} {K : Fg} {mg : Str → Option Value} {base : Heap}
theorem scCell : FnScope ["_law_script", "_law_k"] ["_law_script", "_law_k"] (defScope sCell) := ⟨rfl, rfl, rfl, by decide +kernel, rfl, by decide +kernel, by decide +kernel⟩
def fsCell : FS (List Int × Int) := { args := fun i => [sLst sInt i.1, sInt i.2], pre := fun i => 0 ≤ i.2, res := fun i => sInt (cellAt i.1 i.2) }
theorem ok_cell {f : Addr} {fd : FuncData} (F : Fun K "_law_cell_at" "_law_cell_at" sCell f fd) (b : Binds K fd ["_law_script", "_law_k"] []) (T : Bt mg) : DefOk P w K mg base 1 f [] fsCell := by
  refine fn_ok F scCell b .nil (fun _ => rfl) fun ⟨ns, k⟩ cdv A outer s G H D EE hr hp hf hn => ?_
  have hp : 0 ≤ k := hp
  refine j_if (t_cmp o_lt (e_name 1) (e_callB c_len T.len PySem.boot_len (ea_cons (e_name 0) ea_nil))) (fun h => ?_) (fun h => ?_)
  · have h : k < (ns.length : Int) := by simpa using h
    have hk : k.toNat < ns.length := by omega
    refine j_ret (e_ix (i_lst (y := ns[k.toNat]) ?_) (e_name 0) (e_name 1)) (fin_ret hf (fun w hw => hw) ?_)
    · have := atI_nat (xs := ns) (j := k.toNat) (v := ns[k.toNat]) (List.getElem?_eq_getElem hk)
      rwa [Int.toNat_of_nonneg hp] at this
    · intro G v hv
      show v = V.int (cellAt ns k)
      unfold cellAt
      rw [List.getD_eq_getElem?_getD, List.getElem?_eq_getElem hk]
      exact hv
  · have h : ¬ k < (ns.length : Int) := by simpa using h
    refine j_on (j_ret e_int (fin_ret hf (fun w hw => hw) fun G v hv => ?_))
    show v = V.int (cellAt ns k)
    unfold cellAt
    rw [List.getD_eq_getElem?_getD, List.getElem?_eq_none (by omega)]
    exact hv
end
end K35

namespace K35
open PySem L2 Gd
def primes : List Int := [1000003, 1000033, 1000037, 1000039, 1000081, 1000099, 1000117, 1000121, 1000133, 1000151, 1000159, 1000171, 1000183, 1000187, 1000193, 1000199]
def prime (k : Int) : Int := primes.getD (k % 16).toNat 1
theorem prime_pos (k : Int) : 0 < prime k := by
  unfold prime
  have h : (k % 16).toNat < 16 := by omega
  generalize (k % 16).toNat = j at h
  match j, h with
  | 0, _ | 1, _ | 2, _ | 3, _ | 4, _ | 5, _ | 6, _ | 7, _ | 8, _ | 9, _ | 10, _ | 11, _ | 12, _ | 13, _ | 14, _ | 15, _ => decide
  | n + 16, h => omega
def drawV (cell k b : Int) : Int := (cell * 48271 + k * 69621) % prime k % b
def remains (cell k : Int) : Int := (cell - 10 ^ 18) / 1009 ^ k.toNat
def small (cell : Int) : Int := cell % 1000003
def numV (cell k b : Int) : Int :=
  if 0 < remains cell k then remains cell k % 1009 % b else drawV ((small cell + 977 * k) * (small cell + 31 * k + 5)) (k % 9 + 1) 999983 % b
def nextV (ns : List Int) (c b : Int) : Int := numV (cellAt ns ((c + 1) / 12) + 31 * ((c + 1) / 12)) ((c + 1) % 12 + 1) b
theorem numV_lo {cell k b : Int} (h : 0 < b) : 0 ≤ numV cell k b := by
  unfold numV
  split
  · exact Int.emod_nonneg _ (by omega)
  · exact Int.emod_nonneg _ (by omega)
theorem numV_hi {cell k b : Int} (h : 0 < b) : numV cell k b < b := by
  unfold numV
  split
  · exact Int.emod_lt_of_pos _ h
  · exact Int.emod_lt_of_pos _ h
theorem nextV_lo {ns : List Int} {c b : Int} (h : 0 < b) : 0 ≤ nextV ns c b := numV_lo h
theorem nextV_hi {ns : List Int} {c b : Int} (h : 0 < b) : nextV ns c b < b := numV_hi h
section
variable {P : Program} {w : World} {K : Fg} {mg : Str → Option Value} {base : Heap}
theorem scDraw : FnScope ["_law_cell", "_law_k", "_law_bound", "_law_primes"] ["_law_cell", "_law_k", "_law_bound"] (defScope sDraw) := ⟨rfl, rfl, rfl, by decide +kernel, rfl, by decide +kernel, by decide +kernel⟩
def fsDraw : FS (Int × Int × Int) := { args := fun i => [sInt i.1, sInt i.2.1, sInt i.2.2], pre := fun i => 0 ≤ i.2.1 ∧ 0 < i.2.2, res := fun i => sInt (drawV i.1 i.2.1 i.2.2) }
theorem ok_draw {f : Addr} {fd : FuncData} (F : Fun K "_law_draw" "_law_draw" sDraw f fd) (b : Binds K fd ["_law_cell", "_law_k", "_law_bound"] []) (T : Bt mg) : DefOk P w K mg base 1 f [] fsDraw := by
  refine fn_ok F scDraw b .nil (fun _ => rfl) fun ⟨cell, k, bd⟩ cdv A outer s G H D EE hr hp hf hn => ?_
  have hp : 0 ≤ k ∧ 0 < bd := hp
  refine j_set 3 (O1 := []) (e_tupl (as := primes) (R := sInt) ?_ (by decide)) ?_ scDraw.nd
  · repeat (first | exact el_nil | refine el_cons e_int ?_)
  refine j_ret (e_bin (o_mod ?_) (e_bin (o_mod ?_) (e_callTy c_int T.int (by decide +kernel) (ea_cons (e_bin o_add (e_bin (o_mul ?_) (e_name 0) e_int) (e_bin (o_mul ?_) (e_name 1) e_int)) ea_nil))
    (e_ix (i_tupl (y := prime k) ?_) (e_name 3) (e_bin (o_mod ?_) (e_callTy c_int T.int (by decide +kernel) (ea_cons (e_name 1) ea_nil)) e_int))) (e_name 2)) (fin_ret hf (fun w hw => hw) fun G v hv => hv)
  · exact hp.2
  · exact prime_pos k
  · exact .inr (by decide)
  · exact .inr (by decide)
  · have h : (k % 16).toNat < 16 := by omega
    have e : primes[(k % 16).toNat]? = some (prime k) := by
      unfold prime
      rw [List.getD_eq_getElem?_getD, List.getElem?_eq_getElem (by exact h)]
      rfl
    have := atI_nat e
    rwa [Int.toNat_of_nonneg (by omega)] at this
  · decide
theorem scNumber : FnScope ["_law_cell", "_law_k", "_law_bound", "_law_power", "_law_lap", "_law_remains", "_law_small"] ["_law_cell", "_law_k", "_law_bound"] (defScope sNumber) := ⟨rfl, rfl, rfl, by decide +kernel, rfl, by decide +kernel, by decide +kernel⟩
def fsNumber : FS (Int × Int × Int) := { args := fun i => [sInt i.1, sInt i.2.1, sInt i.2.2], pre := fun i => (0 ≤ i.2.1 ∧ i.2.1 < 24) ∧ 0 < i.2.2, res := fun i => sInt (numV i.1 i.2.1 i.2.2) }
theorem pow_pos' (n : Nat) : (0 : Int) < 1009 ^ n := Int.pow_pos (by decide)
theorem ok_number {f fD : Addr} {fd : FuncData} (F : Fun K "_law_number" "_law_number" sNumber f fd) (b : Binds K fd ["_law_cell", "_law_k", "_law_bound"] []) (T : Bt mg) (gD : mg "_law_draw" = some (.ref fD)) (FD : DefOk P w K mg base 1 fD [] fsDraw) : DefOk P w K mg base 2 f [] fsNumber := by
  refine fn_ok F scNumber b .nil (fun _ => rfl) fun ⟨cell, k, bd⟩ cdv A outer s G H D EE hr hp hf hn => ?_
  have hp : (0 ≤ k ∧ k < 24) ∧ 0 < bd := hp
  have hk : k % 24 = k := Int.emod_eq_of_lt hp.1.1 hp.1.2
  refine j_set 3 e_int ?_ scNumber.nd
  refine j_for (O1 := []) (R := fun k : Nat => sInt k) (as := List.range (k % 24).toNat) (fun n (g : Nat) => g = n) (fun g => [some (sInt cell), some (sInt k), some (sInt bd), some (sInt (1009 ^ g)), none, none, none]) (fun _ => []) (fun y => [(4, sInt y)])
    (it_range T.range (e_bin (o_mod (by decide)) (e_callTy c_int T.int (by decide +kernel) (ea_cons (e_name 1) ea_nil)) e_int) (by omega) (by omega)) (tg_name 4 scNumber.nd) ⟨0, rfl, fun _ _ _ _ h => by show Sta _ _ [_, _, _, some (sInt (1009 ^ 0)), _, _, _] _ _ _ _; rw [Int.pow_zero]; exact h⟩ ?_ ?_
  · rintro B1 n y g hB hy rfl
    refine j_set 3 (O1 := []) (e_bin (o_mul (.inr (by decide))) (e_name 3) e_int) ?_ scNumber.nd
    refine j_nil fun σ G H st => ⟨g + 1, G, rfl, ?_⟩
    have st : Sta K B1 [some (sInt cell), some (sInt k), some (sInt bd), some (sInt (1009 ^ g * 1009)), some (sInt y), none, none] [] σ G H := st
    show Sta K B1 [_, _, _, some (sInt (1009 ^ (g + 1))), _, _, _] _ σ G H
    rw [Int.pow_succ]
    exact st.wk (.same (.same (.same (.same (.skip (.same (.same .nil)))))))
  · rintro g rfl
    have hlen : (List.range (k % 24).toNat).length = k.toNat := by rw [List.length_range, hk]
    rw [hlen]
    refine j_set 5 (O1 := []) (s := sInt (remains cell k)) (e_bin (o_fdivW ?_) (e_bin o_sub (e_name 0) (e_bin (o_pow ⟨by decide, by decide, by decide⟩) e_int e_int)) (e_name 3)) ?_ scNumber.nd
    · refine wide_div (b := 500) (pow_pos' _) ?_ (by decide) (by decide)
      rw [Int.natAbs_pow]
      exact Nat.lt_of_le_of_lt (Nat.pow_le_pow_right (by decide) (show k.toNat ≤ 24 by omega)) (by decide +kernel)
    refine j_if (t_cmp o_gt (e_name 5) e_int) (fun h => ?_) (fun h => ?_)
    · have h : 0 < remains cell k := by simpa using h
      refine j_ret (e_bin (o_mod hp.2) (e_bin (o_mod (by decide)) (e_callTy c_int T.int (by decide +kernel) (ea_cons (e_name 5) ea_nil)) e_int) (e_name 2)) (fin_ret hf (fun w hw => hw) fun G v hv => ?_)
      show v = V.int (numV cell k bd)
      unfold numV
      rw [if_pos h]
      exact hv
    · have h : ¬ 0 < remains cell k := by simpa using h
      refine j_on ?_
      refine j_set 6 (O1 := []) (s := sInt (small cell)) (e_bin (o_mod (by decide)) (e_callTy c_int T.int (by decide +kernel) (ea_cons (e_name 0) ea_nil)) e_int) ?_ scNumber.nd
      have hs0 : 0 ≤ small cell := Int.emod_nonneg _ (by decide)
      have hs1 : small cell < 1000003 := Int.emod_lt_of_pos _ (by decide)
      refine j_ret (O1 := []) (e_bin (o_mod hp.2) (e_call (O2 := []) (((small cell + 977 * k) * (small cell + 31 * k + 5)), (k % 9 + 1), 999983) FD hr gD (ea_cons (e_bin (o_mul ?_) (e_bin o_add (e_name 6) (e_bin (o_mul ?_) e_int (e_name 1))) (e_bin o_add (e_bin o_add (e_name 6) (e_bin (o_mul ?_) e_int (e_name 1))) e_int))
        (ea_cons (e_bin o_add (e_bin (o_mod (by decide)) (e_callTy c_int T.int (by decide +kernel) (ea_cons (e_name 1) ea_nil)) e_int) e_int) (ea_cons e_int ea_nil))) ?_) (e_name 2)) (fin_ret hf (fun w hw => hw) fun G v hv => ?_)
      · exact .inl (by omega)
      · exact .inl (by decide)
      · exact .inl (by decide)
      · show 0 ≤ k % 9 + 1 ∧ (0 : Int) < 999983
        omega
      · show v = V.int (numV cell k bd)
        unfold numV
        rw [if_neg h]
        exact hv
end
end K35

namespace K35
open PySem L2 Gd
/-- the draws' own list -/
def dO (dr : Addr) (ns : List Int) (c : Int) : Own := oLstS dr [sLst sInt ns, sInt 0, sInt c]
section
variable {P : Program} {w : World} {K : Fg} {mg : Str → Option Value} {base : Heap}
theorem scNext : FnScope ["_law_draw_here", "_law_bound", "_law_at", "_law_cell"] ["_law_draw_here", "_law_bound"] (defScope sNext) := ⟨rfl, rfl, rfl, by decide +kernel, rfl, by decide +kernel, by decide +kernel⟩
def fsNext : FS (Addr × List Int × Int × Int) := { args := fun i => [sRef i.1, sInt i.2.2.2], own := fun i => [dO i.1 i.2.1 i.2.2.1], pre := fun i => 0 ≤ i.2.2.1 ∧ 0 < i.2.2.2, res := fun i => sInt (nextV i.2.1 i.2.2.1 i.2.2.2), own' := fun i => [dO i.1 i.2.1 (i.2.2.1 + 1)] }
theorem ok_next {f fC fN : Addr} {fd : FuncData} (F : Fun K "_law_next" "_law_next" sNext f fd) (b : Binds K fd ["_law_draw_here", "_law_bound"] []) (T : Bt mg) (gC : mg "_law_cell_at" = some (.ref fC)) (FC : DefOk P w K mg base 1 fC [] fsCell)
    (gN : mg "_law_number" = some (.ref fN)) (FN : DefOk P w K mg base 2 fN [] fsNumber) : DefOk P w K mg base 3 f [] fsNext := by
  refine fn_ok F scNext b .nil (fun _ => rfl) fun ⟨dr, ns, c, bd⟩ cdv A outer s G H D EE hr hp hf hn => ?_
  have hp : 0 ≤ c ∧ 0 < bd := hp
  have hr1 : Room 1 _ := hr.mono (by decide)
  refine j_setIx (O1 := [dO dr ns c]) (O2 := [dO dr ns c]) (O3 := [dO dr ns c]) 0 2 (e_bin o_add (e_ixO 0 2 (e_name 0) e_int) e_int) (e_name 0) e_int ?_
  refine j_set 2 (O1 := [dO dr ns (c + 1)]) (s := sInt ((c + 1) / 12)) (e_bin (o_fdiv ⟨by decide, by decide⟩) (e_ixO 0 2 (e_name 0) e_int) e_int) ?_ scNext.nd
  refine j_set 3 (O1 := [dO dr ns (c + 1)]) (s := sInt (cellAt ns ((c + 1) / 12) + 31 * ((c + 1) / 12))) (e_bin o_add (e_eq (e_call (O2 := [dO dr ns (c + 1)]) (ns, 0 + (c + 1) / 12) FC hr1 gC (ea_cons (e_ixO 0 0 (e_name 0) e_int) (ea_cons (e_bin o_add (e_ixO 0 1 (e_name 0) e_int) (e_name 2)) ea_nil)) ?_) ?_)
    (e_bin (o_mul ?_) e_int (e_name 2))) ?_ scNext.nd
  · show 0 ≤ 0 + (c + 1) / 12
    omega
  · show sInt (cellAt ns (0 + (c + 1) / 12)) = _
    rw [Int.zero_add]
  · exact .inl (by decide)
  refine j_ret (e_call (O2 := [dO dr ns (c + 1)]) (cellAt ns ((c + 1) / 12) + 31 * ((c + 1) / 12), (c + 1) % 12 + 1, bd) FN hr gN (ea_cons (e_name 3) (ea_cons (e_bin o_add (e_bin (o_mod (by decide)) (e_callTy c_int T.int (by decide +kernel) (ea_cons (e_ixO 0 2 (e_name 0) e_int) ea_nil)) e_int) e_int)
    (ea_cons (e_name 1) ea_nil))) ?_) (fin_ret hf (fun w hw => hw) fun G v hv => hv)
  show (0 ≤ (c + 1) % 12 + 1 ∧ (c + 1) % 12 + 1 < 24) ∧ 0 < bd
  omega
theorem scPick : FnScope ["_law_draw_here", "_law_things"] ["_law_draw_here", "_law_things"] (defScope sPick) := ⟨rfl, rfl, rfl, by decide +kernel, rfl, by decide +kernel, by decide +kernel⟩
def fsPick {α : Type} (R : α → Slot) : FS (Addr × List Int × Int × List α × α) := { args := fun i => [sRef i.1, sLst R i.2.2.2.1], own := fun i => [dO i.1 i.2.1 i.2.2.1], pre := fun i => 0 ≤ i.2.2.1 ∧ i.2.2.2.1[(nextV i.2.1 i.2.2.1 i.2.2.2.1.length).toNat]? = some i.2.2.2.2, res := fun i => R i.2.2.2.2, own' := fun i => [dO i.1 i.2.1 (i.2.2.1 + 1)] }
theorem ok_pick {f fN : Addr} {fd : FuncData} {α : Type} {R : α → Slot} (F : Fun K "_law_pick" "_law_pick" sPick f fd) (b : Binds K fd ["_law_draw_here", "_law_things"] []) (T : Bt mg)
    (gN : mg "_law_next" = some (.ref fN)) (FN : DefOk P w K mg base 3 fN [] fsNext) : DefOk P w K mg base 4 f [] (fsPick R) := by
  refine fn_ok F scPick b .nil (fun _ => rfl) fun ⟨dr, ns, c, as, y⟩ cdv A outer s G H D EE hr hp hf hn => ?_
  have hp : 0 ≤ c ∧ as[(nextV ns c as.length).toNat]? = some y := hp
  have hl : 0 < as.length := by
    rcases Nat.eq_zero_or_pos as.length with z | z
    · have : as = [] := List.length_eq_zero_iff.mp z
      subst this
      have := hp.2
      simp at this
    · exact z
  refine j_ret (O1 := [dO dr ns (c + 1)]) (e_ix (i_lst (y := y) ?_) (e_name 1) (e_call (O2 := []) (dr, ns, c, (as.length : Int)) FN hr gN (ea_cons (e_name 0) (ea_cons (e_callB c_len T.len PySem.boot_len (ea_cons (e_name 1) ea_nil)) ea_nil)) ?_)) (fin_ret hf (fun w hw => hw) fun G v hv => hv)
  · have := atI_nat hp.2
    rwa [Int.toNat_of_nonneg (nextV_lo (by omega))] at this
  · show 0 ≤ c ∧ (0 : Int) < as.length
    omega
end
end K35

namespace K35
open PySem L2 Gd
abbrev sIsWord : Stmt := top 8
abbrev sIsToken : Stmt := top 13
abbrev sCheck : Stmt := top 14
def keptL : List Str := ["any", "give", "let"]
def signsL : List Str := ["(", ")", "{", "}", ",", ":", ".", ";", "="]
def letters : Str := "abcdefghijklmnopqrstuvwxyz"
def isWord (t : Str) : Bool := if (1 ≤ (t.length : Int) ∧ (t.length : Int) ≤ 10) ∧ t ∉ keptL then t.cps.toList.all fun n => decide (n ∈ letters.cps.toList) else false
def isToken (t : Str) : Bool := isWord t || (decide (t ∈ (["give", "let"] : List Str)) || decide (t ∈ signsL))
/-- the constants of the top -/
structure Cs (K : Fg) (mg : Str → Option Value) : Prop where
  letters : ∃ t, mg "LETTERS" = some (.str letters t)
  longest : ∃ t, mg "LONGEST" = some (.int 10 t)
  kept : ∃ u, mg "KEPT" = some u ∧ ∃ v, RelV v u ∧ ∀ G, (sTupl sStr keptL).ok K G v
  signs : ∃ u, mg "SIGNS" = some u ∧ ∃ v, RelV v u ∧ ∀ G, (sTupl sStr signsL).ok K G v
  all : mg "all" = none
  int : mg "int" = none
  isi : mg "isinstance" = none
  str : mg "str" = none
  list : mg "list" = none
  tuple : mg "tuple" = none
  bool : mg "bool" = none
  min : mg "min" = none
section
variable {P : Program} {w : World} {K : Fg} {mg : Str → Option Value} {base : Heap}
theorem scIsWord : FnScope ["thing", "sign"] ["thing"] (defScope sIsWord) := ⟨rfl, rfl, rfl, by decide +kernel, rfl, by decide +kernel, by decide +kernel⟩
def fsIsWord : FS Str := { args := fun t => [sStr t], pre := fun t => t.length ≤ 100000, res := fun t => sBl (isWord t) }
theorem len_toList (t : Str) : t.cps.toList.length = t.length := by
  show t.cps.toList.length = t.cps.size
  exact Array.length_toList
theorem ok_isWord {f : Addr} {fd : FuncData} (F : Fun K "is_word" "is_word" sIsWord f fd) (b : Binds K fd ["thing"] []) (T : Bt mg) (C : Cs K mg) : DefOk P w K mg base 1 f [] fsIsWord := by
  obtain ⟨uk, gk, vk, rk, hk⟩ := C.kept
  obtain ⟨tl, gl⟩ := C.letters
  obtain ⟨tn, gn⟩ := C.longest
  refine fn_ok F scIsWord b .nil (fun _ => rfl) fun t cdv A outer s G H D EE hr hp hf hn => ?_
  have hp : t.length ≤ 100000 := hp
  have hz : t.length ≤ sizeLine := Nat.le_trans hp (by decide)
  refine j_if (O1 := []) (t_w (tw_or (t_not (t_val (e_callB (c_isi (n := "str") (k := true) ty_str (kit_ty (by decide +kernel))) C.isi (by decide +kernel) (ea_cons (e_name 0) (ea_cons (e_ty "str" C.str (by decide +kernel)) ea_nil)))))
    fun _ => tw_or (t_not (t_chain o_le (fun _ => o_le) e_int (e_callB (c_lenS hz) T.len PySem.boot_len (ea_cons (e_name 0) ea_nil)) (e_gint gn))) fun _ => tw_or1 (t_cmp o_inT (e_name 0) (e_glob gk rk hk)))) (fun h => ?_) (fun h => ?_)
  · have h : ¬ ((1 ≤ (t.length : Int) ∧ (t.length : Int) ≤ 10) ∧ t ∉ keptL) := by
      intro z
      simp [z.1.1, z.1.2, z.2] at h
    refine j_ret (s := sBl false) e_bl (fin_ret hf (fun w hw => hw) fun G v hv => ?_)
    show v = V.bl (isWord t)
    unfold isWord
    rw [if_neg h]
    exact hv
  · have h : (1 ≤ (t.length : Int) ∧ (t.length : Int) ≤ 10) ∧ t ∉ keptL := by
      simp only [Bool.or_eq_false_iff, Bool.not_eq_false', Bool.not_true, Bool.and_eq_true, decide_eq_true_eq, decide_eq_false_iff_not] at h
      exact ⟨h.2.1, h.2.2⟩
    refine j_on (j_ret (O1 := []) (e_callB c_all C.all (by decide +kernel) (ea_cons (e_lst (ew_map (R := fun n : Nat => sStr ⟨#[n]⟩) (S := sBl) (as := t.cps.toList) 1 (fun n => decide (n ∈ letters.cps.toList)) scIsWord.nd (it_str (e_name 0)) (blkOk_by (own := [("sign", 1)]) (N := ["thing", "sign"]) (sc := defScope sIsWord) (by decide +kernel))
      (fun y hy s H C cl fp => e_cmp o_inC (e_name 1) (e_gstr gl)) (by rw [len_toList]; exact hz))) ea_nil)) (fin_ret hf (fun w hw => hw) fun G v hv => ?_))
    show v = V.bl (isWord t)
    unfold isWord
    rw [if_pos h]
    have hv : v = V.bl ((t.cps.toList.map fun n => decide (n ∈ letters.cps.toList)).all id) := hv
    rw [hv, List.all_map]
    rfl
end
end K35

namespace K35
open PySem L2 Gd
section
variable {P : Program} {w : World} {K : Fg} {mg : Str → Option Value} {base : Heap}
theorem scIsToken : FnScope ["thing"] ["thing"] (defScope sIsToken) := ⟨rfl, rfl, rfl, by decide +kernel, rfl, by decide +kernel, by decide +kernel⟩
def fsIsToken : FS Str := { args := fun t => [sStr t], pre := fun t => t.length ≤ 100000, res := fun t => sBl (isToken t) }
theorem ok_isToken {f fW : Addr} {fd : FuncData} (F : Fun K "is_token" "is_token" sIsToken f fd) (b : Binds K fd ["thing"] []) (C : Cs K mg) (gW : mg "is_word" = some (.ref fW)) (FW : DefOk P w K mg base 1 fW [] fsIsWord) : DefOk P w K mg base 2 f [] fsIsToken := by
  obtain ⟨us, gs, vs, rs, hs⟩ := C.signs
  refine fn_ok F scIsToken b .nil (fun _ => rfl) fun t cdv A outer s G H D EE hr hp hf hn => ?_
  refine j_ret (O1 := []) (e_and2 (e_callB (c_isi (n := "str") (k := true) ty_str (kit_ty (by decide +kernel))) C.isi (by decide +kernel) (ea_cons (e_name 0) (ea_cons (e_ty "str" C.str (by decide +kernel)) ea_nil)))
    (e_one (e_or2 (e_call (O2 := []) t FW hr gW (ea_cons (e_name 0) ea_nil) (by exact hp)) (e_or2 (e_cmp o_inT (e_name 0) (e_tupl (as := ["give", "let"]) (R := sStr) (el_cons e_str (el_cons e_str el_nil)) (by decide))) (e_one (e_cmp o_inT (e_name 0) (e_glob gs rs hs))))))) (fin_ret hf (fun w hw => hw) fun G v hv => hv)
/-- words that are right ones -/
def okWords (ws : List Str) : Prop := ∀ t ∈ ws, isToken t = true ∧ t.length ≤ 100000
/-- words, in a list or a tuple -/
def sWs (tup : Bool) (ws : List Str) : Slot := if tup then sTupl sStr ws else sLst sStr ws
theorem scCheck : FnScope ["words", "hole", "most", "word"] ["words", "hole", "most"] (defScope sCheck) := ⟨rfl, rfl, rfl, by decide +kernel, rfl, by decide +kernel, by decide +kernel⟩
def fsCheck : FS (Bool × List Str) := { args := fun i => [sWs i.1 i.2, sBl false, sInt 200], pre := fun i => okWords i.2 ∧ i.2.length ≤ 200, res := fun _ => sNon }
def kwsCheck : List (Str × V) := [("hole", .bl false), ("most", .int 200)]
theorem ok_check {f fT : Addr} {fd : FuncData} (F : FunD K "check_words" "check_words" (defArgs sCheck) (defBody sCheck) (defScope sCheck) [] kwsCheck f fd) (b : ∃ ds, Vals [.bl false, .int 200] ds ∧ Binds K fd ["words", "hole", "most"] ds) (T : Bt mg) (C : Cs K mg) (gT : mg "is_token" = some (.ref fT)) (FT : DefOk P w K mg base 2 fT [] fsIsToken) :
    DefOk P w K mg base 3 f [.bl false, .int 200] fsCheck := by
  refine fn_okD F scCheck b (fun _ => rfl) fun ⟨tup, ws⟩ cdv A outer s G H D EE hr hp hf hn => ?_
  have hp : okWords ws ∧ ws.length ≤ 200 := hp
  have hr2 : Room 2 _ := hr
  have isl : CallE (cxD P w K mg base ["words", "hole", "most", "word"] "check_words" sCheck f cdv A outer s H EE) (.builtin "isinstance") [sWs tup ws, sTupX [sVal (.ty "list"), sVal (.ty "tuple")]] (sBl true) := by
    cases tup with
    | false => exact c_isi2 ty_lst (kitAny_cons (b := true) (kit_ty (by decide +kernel)) (fun h => nomatch h) fun _ => rfl)
    | true => exact c_isi2 ty_tupl (kitAny_cons (b := false) (kit_ty (by decide +kernel)) (fun _ => kitAny_cons (b := true) (kit_ty (by decide +kernel)) (fun h => nomatch h) fun _ => rfl) fun h => nomatch h)
  have len : CallE (cxD P w K mg base ["words", "hole", "most", "word"] "check_words" sCheck f cdv A outer s H EE) (.builtin "len") [sWs tup ws] (sInt ws.length) := by
    cases tup with
    | false => exact c_len
    | true => exact c_lenT
  refine j_if (O1 := []) (u := false) (t_eq (t_w (tw_or2 (t_not (t_val (e_callB isl C.isi (by decide +kernel) (ea_cons (e_name 0) (ea_cons (e_tupX (ea_cons (e_ty "list" C.list (by decide +kernel)) (ea_cons (e_ty "tuple" C.tuple (by decide +kernel)) ea_nil)) (by decide)) ea_nil)))))
    (tw_or1 (t_w (tw_and2 (t_cmp o_notI (e_name 2) e_non) (tw_and1 (t_cmp o_gt (e_callB len T.len PySem.boot_len (ea_cons (e_name 0) ea_nil)) (e_name 2)))))))) (by simp; omega)) (fun h => nomatch h) (fun _ => j_on ?_)
  refine j_for (O1 := []) (R := sStr) (as := ws) (fun n (g : Unit) => True) (fun _ => [some (sWs tup ws), some (sBl false), some (sInt 200), none]) (fun _ => []) (fun y => [(3, sStr y)]) ?_ (tg_name 3 scCheck.nd) ⟨(), trivial, fun _ _ _ _ h => h⟩ ?_ ?_
  · cases tup with
    | false => exact it_lst (e_name 0)
    | true => exact it_tupl (e_name 0)
  · rintro B1 n y ⟨⟩ hB hy -
    have hm : y ∈ ws := List.mem_of_getElem? hy
    have ht := hp.1 y hm
    refine j_if (O1 := []) (u := false) (t_w (tw_andF (t_eq (t_not (t_val (e_call (O2 := []) y FT hr2 gT (ea_cons (e_name 3) ea_nil) (by exact ht.2)))) ?_))) (fun h => nomatch h) (fun _ => j_on (j_nil fun σ G H st => ⟨(), G, trivial, st.wk (.same (.same (.same (.skip .nil))))⟩))
    show (!isToken y) = false
    rw [ht.1]
    rfl
  · rintro ⟨⟩ -
    exact fin_end hf hn fun w hw => hw
end
end K35

namespace K35
open PySem L2 Gd
abbrev sInit : Stmt := inClass (top 16) 0
abbrev sEq : Stmt := inClass (top 16) 1
abbrev sLen : Stmt := inClass (top 16) 2
abbrev sBool : Stmt := inClass (top 16) 3
abbrev sCall : Stmt := inClass (top 16) 4
abbrev sAdd : Stmt := inClass (top 16) 5
abbrev sGrowth : Stmt := inClass (top 16) 6
abbrev sUndone : Stmt := inClass (top 16) 7
/-- an edit -/
structure Ed where
  first : Int
  last : Int
  words : List Str
  deriving DecidableEq
abbrev edTab (e : Ed) : List (Str × Slot) := [("first", sInt e.first), ("last", sInt e.last), ("words", sTupl sStr e.words)]
abbrev sEd (C : Addr) (e : Ed) : Slot := sIns C (edTab e)
def Ed.ok (e : Ed) : Prop := (0 ≤ e.first ∧ e.first ≤ e.last) ∧ okWords e.words ∧ e.words.length ≤ 100000
/-- what the class's own facts are -/
structure EdC (K : Fg) (mg : Str → Option Value) (C : Addr) : Prop where
  cl : Cls K C
  nF : NoAttr K C "first"
  nL : NoAttr K C "last"
  nW : NoAttr K C "words"
  gC : mg "Edit" = some (.ref C)
section
variable {P : Program} {w : World} {K : Fg} {mg : Str → Option Value} {base : Heap} {C : Addr}
theorem scInit : FnScope ["self", "first", "last", "words", "one", "word"] ["self", "first", "last", "words"] (defScope sInit) := ⟨rfl, rfl, rfl, by decide +kernel, rfl, by decide +kernel, by decide +kernel⟩
def fsInit (C : Addr) : FS (Addr × Ed × Bool) := { args := fun i => [sRef i.1, sInt i.2.1.first, sInt i.2.1.last, sWs i.2.2 i.2.1.words], pre := fun i => i.2.1.ok, own := fun i => [oIns i.1 C []], res := fun _ => sNon, own' := fun i => [oIns i.1 C (edTab i.2.1)] }
theorem ok_init {f fT : Addr} {fd : FuncData} (F : Fun K "__init__" "Edit.__init__" sInit f fd) (b : Binds K fd ["self", "first", "last", "words"] []) (Cc : Cs K mg) (EC : EdC K mg C) (gT : mg "is_token" = some (.ref fT)) (FT : DefOk P w K mg base 2 fT [] fsIsToken) : DefOk P w K mg base 3 f [] (fsInit C) := by
  refine fn_ok F scInit b .nil (fun _ => rfl) fun ⟨x, e, tup⟩ cdv A outer s G H D EE hr hp hf hn => ?_
  have hp : e.ok := hp
  have hr2 : Room 2 _ := hr
  have hz : e.words.length ≤ sizeLine := Nat.le_trans hp.2.2 (by decide)
  have isl : CallE (cxD P w K mg base ["self", "first", "last", "words", "one", "word"] "Edit.__init__" sInit f cdv A outer s H EE) (.builtin "isinstance") [sWs tup e.words, sTupX [sVal (.ty "list"), sVal (.ty "tuple")]] (sBl true) := by
    cases tup with
    | false => exact c_isi2 ty_lst (kitAny_cons (b := true) (kit_ty (by decide +kernel)) (fun h => nomatch h) fun _ => rfl)
    | true => exact c_isi2 ty_tupl (kitAny_cons (b := false) (kit_ty (by decide +kernel)) (fun _ => kitAny_cons (b := true) (kit_ty (by decide +kernel)) (fun h => nomatch h) fun _ => rfl) fun h => nomatch h)
  -- not all([isinstance(one, int) and not isinstance(one, bool) ..])
  refine j_if (O1 := [oIns x C []]) (u := false) (t_eq (t_not (t_val (e_callB c_all Cc.all (by decide +kernel) (ea_cons (e_lst (ew_map (R := sInt) (S := sBl) (as := [e.first, e.last]) 4 (fun _ => true) scInit.nd (it_tupl (e_tupl (el_cons (e_name 1) (el_cons (e_name 2) el_nil)) (szl (by simp))))
    (blkOk_by (own := [("one", 4)]) (N := ["self", "first", "last", "words", "one", "word"]) (sc := defScope sInit) (by decide +kernel)) (fun y hy _ _ _ _ _ => ?_) (szl (by simp)))) ea_nil)))) (by rfl)) (fun h => nomatch h) (fun _ => j_on ?_)
  · exact e_and2 (e_callB (c_isi (n := "int") (k := true) ty_int (kit_ty (by decide +kernel))) Cc.isi (by decide +kernel) (ea_cons (e_name 4) (ea_cons (e_ty "int" Cc.int (by decide +kernel)) ea_nil)))
      (e_one (e_not (e_callB (c_isi (n := "bool") (k := false) ty_int (kit_ty (by decide +kernel))) Cc.isi (by decide +kernel) (ea_cons (e_name 4) (ea_cons (e_ty "bool" Cc.bool (by decide +kernel)) ea_nil)))))
  -- not 0 <= first <= last or ..
  refine j_if (O1 := [oIns x C []]) (u := false) (t_eq (t_w (tw_or2 (t_not (t_chain o_le (fun _ => o_le) e_int (e_name 1) (e_name 2))) (tw_or1 (t_not (t_val (e_callB isl Cc.isi (by decide +kernel) (ea_cons (e_name 3) (ea_cons (e_tupX (ea_cons (e_ty "list" Cc.list (by decide +kernel)) (ea_cons (e_ty "tuple" Cc.tuple (by decide +kernel)) ea_nil)) (by decide)) ea_nil)))))))) (by
    simp [hp.1.1, hp.1.2])) (fun h => nomatch h) (fun _ => j_on ?_)
  -- not all([is_token(word) ..])
  refine j_if (O1 := [oIns x C []]) (u := false) (t_eq (t_not (t_val (e_callB c_all Cc.all (by decide +kernel) (ea_cons (e_lst (ew_map (R := sStr) (S := sBl) (as := e.words) 5 (fun t => isToken t) scInit.nd ?_
    (blkOk_by (own := [("word", 5)]) (N := ["self", "first", "last", "words", "one", "word"]) (sc := defScope sInit) (by decide +kernel)) (fun y hy _ _ _ _ _ => ?_) hz)) ea_nil)))) ?_) (fun h => nomatch h) (fun _ => j_on ?_)
  · cases tup with
    | false => exact it_lst (e_name 3)
    | true => exact it_tupl (e_name 3)
  · exact e_callR (S := fsIsToken) (O2 := [oIns x C []]) y FT hr2 gT (ea_cons (e_name 5) ea_nil) (by exact (hp.2.1 y hy).2)
  · have : (List.map (fun t => isToken t) e.words).all id = true := by
      rw [List.all_map, List.all_eq_true]
      exact fun t ht => (hp.2.1 t ht).1
    rw [this]
    rfl
  refine j_fld (O1 := [oIns x C []]) (O2 := [oIns x C []]) 0 (e_name 1) (e_name 0) EC.cl EC.nF ?_
  refine j_fld (O1 := [oIns x C [("first", sInt e.first)]]) (O2 := [oIns x C [("first", sInt e.first)]]) 0 (e_name 2) (e_name 0) EC.cl EC.nL ?_
  refine j_fld (s := sTupl sStr e.words) (O1 := [oIns x C [("first", sInt e.first), ("last", sInt e.last)]]) (O2 := [oIns x C [("first", sInt e.first), ("last", sInt e.last)]]) 0 (e_callTy (id := "tuple") (ss := [sWs tup e.words]) ?_ Cc.tuple (by decide +kernel) (ea_cons (e_name 3) ea_nil)) (e_name 0) EC.cl EC.nW ?_
  · cases tup with
    | false => exact c_tuple
    | true => exact c_tupleT
  exact fin_end hf hn fun w hw => hw
end
end K35

namespace K35
open PySem L2 Gd
/-! ### the edits, as functions -/
def Ed.growth (e : Ed) : Int := e.words.length - (e.last - e.first)
def Ed.run (e : Ed) (ws : List Str) : List Str := ws.take e.first.toNat ++ e.words ++ ws.drop e.last.toNat
def Ed.plus (e : Ed) (n : Int) : Ed := ⟨e.first + n, e.last + n, e.words⟩
def Ed.undone (e : Ed) (ws : List Str) : Ed := ⟨e.first, e.first + e.words.length, (ws.drop e.first.toNat).take (e.last.toNat - e.first.toNat)⟩
theorem cutA_take {α : Type} (xs : List α) {a : Int} (h : 0 ≤ a) : cutA xs none (some a) = xs.take a.toNat := by
  unfold cutA
  obtain ⟨n, rfl⟩ := Int.eq_ofNat_of_zero_le h
  rw [HT.sIx_none, HT.sIx_nat, List.drop_zero, Nat.sub_zero]
  show List.take (min n xs.length) xs = List.take n xs
  rw [Nat.min_comm, ← List.take_take]
  exact List.take_of_length_le (by rw [List.length_take]; omega)
theorem cutA_drop {α : Type} (xs : List α) {a : Int} (h : 0 ≤ a) : cutA xs (some a) none = xs.drop a.toNat := by
  unfold cutA
  obtain ⟨n, rfl⟩ := Int.eq_ofNat_of_zero_le h
  rw [HT.sIx_none, HT.sIx_nat]
  show List.take (xs.length - min n xs.length) (xs.drop (min n xs.length)) = xs.drop n
  rcases Nat.le_total n xs.length with z | z
  · rw [Nat.min_eq_left z]
    exact List.take_of_length_le (by rw [List.length_drop]; exact Nat.le_refl _)
  · rw [Nat.min_eq_right z, List.drop_length, List.drop_of_length_le z, List.take_nil]
theorem cutA_mid {α : Type} (xs : List α) {a b : Int} (h : 0 ≤ a) (h1 : 0 ≤ b) : cutA xs (some a) (some b) = (xs.drop a.toNat).take (b.toNat - a.toNat) := by
  unfold cutA
  obtain ⟨n, rfl⟩ := Int.eq_ofNat_of_zero_le h
  obtain ⟨m, rfl⟩ := Int.eq_ofNat_of_zero_le h1
  rw [HT.sIx_nat, HT.sIx_nat]
  show List.take (min m xs.length - min n xs.length) (xs.drop (min n xs.length)) = (xs.drop n).take (m - n)
  rcases Nat.le_total n xs.length with z | z
  · rw [Nat.min_eq_left z]
    rcases Nat.le_total m xs.length with y | y
    · rw [Nat.min_eq_left y]
    · rw [Nat.min_eq_right y, List.take_of_length_le (by rw [List.length_drop]; exact Nat.le_refl _), List.take_of_length_le (by rw [List.length_drop]; omega)]
  · rw [Nat.min_eq_right z, List.drop_length, List.drop_of_length_le z, List.take_nil, List.take_nil]
theorem isToken_ok {t : Str} (h : isToken t = true) : PyData.strOk t = true := by
  unfold isToken at h
  simp only [Bool.or_eq_true, decide_eq_true_eq] at h
  rcases h with h | h | h
  · unfold isWord at h
    split at h
    · unfold PyData.strOk
      rw [← Array.all_toList, List.all_eq_true]
      rw [List.all_eq_true] at h
      intro n hn
      have := h n hn
      simp only [decide_eq_true_eq] at this
      have hl : ∀ m ∈ letters.cps.toList, decide (m < 0x110000) = true := by decide +kernel
      exact hl n this
    · cases h
  · have : ∀ t ∈ (["give", "let"] : List Str), PyData.strOk t = true := by decide +kernel
    exact this t h
  · have : ∀ t ∈ signsL, PyData.strOk t = true := by decide +kernel
    exact this t h
theorem okWords.str {ws : List Str} (h : okWords ws) : okStrs ws := fun t ht => isToken_ok (h t ht).1
section
variable {P : Program} {w : World} {K : Fg} {mg : Str → Option Value} {base : Heap} {C : Addr}
theorem scEq : FnScope ["self", "other"] ["self", "other"] (defScope sEq) := ⟨rfl, rfl, rfl, by decide +kernel, rfl, by decide +kernel, by decide +kernel⟩
def fsEq (C : Addr) : FS (Ed × Ed) := { args := fun i => [sEd C i.1, sEd C i.2], pre := fun i => i.1.ok ∧ i.2.ok, res := fun i => sBl (decide (i.1 = i.2)) }
theorem ok_eq {f : Addr} {fd : FuncData} (F : Fun K "__eq__" "Edit.__eq__" sEq f fd) (b : Binds K fd ["self", "other"] []) (Cc : Cs K mg) (EC : EdC K mg C) (CI : ClsI K C) : DefOk P w K mg base 1 f [] (fsEq C) := by
  refine fn_ok F scEq b .nil (fun _ => rfl) fun ⟨e, e'⟩ cdv A outer s G H D EE hr hp hf hn => ?_
  have hp : e.ok ∧ e'.ok := hp
  refine j_if (O1 := []) (u := false) (t_eq (t_not (t_val (e_callB (c_isiC (k := true) (ty_ins CI) kit_self) Cc.isi (by decide +kernel) (ea_cons (e_name 1) (ea_cons (e_gref EC.gC) ea_nil))))) rfl) (fun h => nomatch h) (fun _ => j_on ?_)
  refine j_ret (O1 := []) (e_and2 (e_cmp o_eq (e_fld 0 EC.cl EC.nF (e_name 0)) (e_fld 0 EC.cl EC.nF (e_name 1))) (e_and2 (e_cmp o_eq (e_fld 1 EC.cl EC.nL (e_name 0)) (e_fld 1 EC.cl EC.nL (e_name 1)))
    (e_one (e_cmp (o_eqT hr hp.1.2.1.str hp.2.2.1.str) (e_fld 2 EC.cl EC.nW (e_name 0)) (e_fld 2 EC.cl EC.nW (e_name 1)))))) (fin_ret hf (fun w hw => hw) fun G v hv => ?_)
  have hv : v = V.bl (decide (e.first = e'.first) && (decide (e.last = e'.last) && decide (e.words = e'.words))) := hv
  show v = V.bl (decide (e = e'))
  rw [hv]
  congr 1
  rw [Bool.eq_iff_iff]
  simp only [Bool.and_eq_true, decide_eq_true_eq]
  cases e
  cases e'
  simp
theorem scLen : FnScope ["self"] ["self"] (defScope sLen) := ⟨rfl, rfl, rfl, by decide +kernel, rfl, by decide +kernel, by decide +kernel⟩
def fsLen (C : Addr) : FS Ed := { args := fun i => [sEd C i], pre := fun _ => True, res := fun i => sInt i.words.length }
theorem ok_len {f : Addr} {fd : FuncData} (F : Fun K "__len__" "Edit.__len__" sLen f fd) (b : Binds K fd ["self"] []) (T : Bt mg) (EC : EdC K mg C) : DefOk P w K mg base 1 f [] (fsLen C) := by
  refine fn_ok F scLen b .nil (fun _ => rfl) fun e cdv A outer s G H D EE hr hp hf hn => ?_
  exact j_ret (O1 := []) (e_callB c_lenT T.len PySem.boot_len (ea_cons (e_fld 2 EC.cl EC.nW (e_name 0)) ea_nil)) (fin_ret hf (fun w hw => hw) fun G v hv => hv)
theorem scBool : FnScope ["self"] ["self"] (defScope sBool) := ⟨rfl, rfl, rfl, by decide +kernel, rfl, by decide +kernel, by decide +kernel⟩
def Ed.truth (e : Ed) : Bool := !(decide (e.first = e.last) && decide ((e.words.length : Int) = 0))
def fsBool (C : Addr) : FS Ed := { args := fun i => [sEd C i], pre := fun _ => True, res := fun i => sBl i.truth }
theorem ok_bool {f : Addr} {fd : FuncData} (F : Fun K "__bool__" "Edit.__bool__" sBool f fd) (b : Binds K fd ["self"] []) (T : Bt mg) (EC : EdC K mg C) : DefOk P w K mg base 1 f [] (fsBool C) := by
  refine fn_ok F scBool b .nil (fun _ => rfl) fun e cdv A outer s G H D EE hr hp hf hn => ?_
  exact j_ret (O1 := []) (e_not (e_and2 (e_cmp o_eq (e_fld 0 EC.cl EC.nF (e_name 0)) (e_fld 1 EC.cl EC.nL (e_name 0))) (e_one (e_cmp o_eq (e_callB c_lenT T.len PySem.boot_len (ea_cons (e_fld 2 EC.cl EC.nW (e_name 0)) ea_nil)) e_int)))) (fin_ret hf (fun w hw => hw) fun G v hv => hv)
theorem scGrowth : FnScope ["self"] ["self"] (defScope sGrowth) := ⟨rfl, rfl, rfl, by decide +kernel, rfl, by decide +kernel, by decide +kernel⟩
def fsGrowth (C : Addr) : FS Ed := { args := fun i => [sEd C i], pre := fun _ => True, res := fun i => sInt i.growth }
theorem ok_growth {f : Addr} {fd : FuncData} (F : Fun K "growth" "Edit.growth" sGrowth f fd) (b : Binds K fd ["self"] []) (T : Bt mg) (EC : EdC K mg C) : DefOk P w K mg base 1 f [] (fsGrowth C) := by
  refine fn_ok F scGrowth b .nil (fun _ => rfl) fun e cdv A outer s G H D EE hr hp hf hn => ?_
  exact j_ret (O1 := []) (e_bin o_sub (e_callB c_lenT T.len PySem.boot_len (ea_cons (e_fld 2 EC.cl EC.nW (e_name 0)) ea_nil)) (e_bin o_sub (e_fld 1 EC.cl EC.nL (e_name 0)) (e_fld 0 EC.cl EC.nF (e_name 0)))) (fin_ret hf (fun w hw => hw) fun G v hv => hv)
end
end K35

namespace K35
open PySem L2 Gd
section
variable {P : Program} {w : World} {K : Fg} {mg : Str → Option Value} {base : Heap} {C : Addr}
theorem scCall : FnScope ["self", "words"] ["self", "words"] (defScope sCall) := ⟨rfl, rfl, rfl, by decide +kernel, rfl, by decide +kernel, by decide +kernel⟩
/-- an edit that can be done on words -/
def Ed.fits (e : Ed) (ws : List Str) : Prop := e.ok ∧ okWords ws ∧ ws.length ≤ 200 ∧ e.last ≤ ws.length ∧ e.words.length ≤ 1000
def fsCall (C : Addr) : FS (Ed × List Str) := { args := fun i => [sEd C i.1, sLst sStr i.2], pre := fun i => i.1.fits i.2, res := fun i => sLst sStr (i.1.run i.2) }
theorem run_eq {e : Ed} {ws : List Str} (h : e.ok) : cutA ws none (some e.first) ++ (e.words ++ (cutA ws (some e.last) none ++ [])) = e.run ws := by
  rw [cutA_take ws h.1.1, cutA_drop ws (Int.le_trans h.1.1 h.1.2), List.append_nil, ← List.append_assoc]
  rfl
theorem run_len {e : Ed} {ws : List Str} (h : e.fits ws) : (e.run ws).length ≤ 2000 := by
  unfold Ed.run
  simp only [List.length_append, List.length_take, List.length_drop]
  have := h.2.2.1
  have := h.2.2.2.2
  omega
theorem ok_call {f fK : Addr} {fd : FuncData} (F : Fun K "__call__" "Edit.__call__" sCall f fd) (b : Binds K fd ["self", "words"] []) (T : Bt mg) (EC : EdC K mg C) (gK : mg "check_words" = some (.ref fK)) (FK : DefOk P w K mg base 3 fK [.bl false, .int 200] fsCheck) : DefOk P w K mg base 4 f [] (fsCall C) := by
  refine fn_ok F scCall b .nil (fun _ => rfl) fun ⟨e, ws⟩ cdv A outer s G H D EE hr hp hf hn => ?_
  have hp : e.fits ws := hp
  refine j_expr (O1 := []) (e_call (O2 := []) (S := fsCheck) (false, ws) FK hr gK (ea_cons (e_name 1) ea_nil) ⟨hp.2.1, hp.2.2.1⟩) ?_
  refine j_if (O1 := []) (u := false) (t_eq (t_cmp o_gt (e_fld 1 EC.cl EC.nL (e_name 0)) (e_callB c_len T.len PySem.boot_len (ea_cons (e_name 1) ea_nil))) ?_) (fun h => nomatch h) (fun _ => j_on ?_)
  · have := hp.2.2.2.1
    simp
    omega
  have h := run_eq (ws := ws) hp.1
  refine j_ret (O1 := []) (s := sLst sStr (e.run ws)) (e_lst (ew_lst (as := e.run ws) (by
    rw [← h]
    exact el_star (e_lst (ew_slice (e_name 1) po_n (po_s (e_fld 0 EC.cl EC.nF (e_name 0))))) (el_starT (e_fld 2 EC.cl EC.nW (e_name 0)) (el_star (e_lst (ew_slice (e_name 1) (po_s (e_fld 1 EC.cl EC.nL (e_name 0))) po_n)) el_nil))) (szl (by have := run_len hp; omega)))) (fin_ret hf (fun w hw => hw) fun G v hv => hv)
/-- Edit(e, e, ws): a frozen edit -/
theorem e_edit {X : Cx} {δ : List (Option Slot)} {O O1 : List Own} {a1 a2 a3 : Expr} {f : Addr} {p pos : Pos} {i j : Int} {ws : List Str} (tup : Bool) (M : Mk X.K C f) (FI : DefX X 3 f [] (fsInit C)) (hr : Room 4 X.A) (gC : X.mg "Edit" = some (.ref C)) (hp : (Ed.mk i j ws).ok)
    (ha : EA X δ O [a1, a2, a3] [sInt i, sInt j, sWs tup ws] O1) (hg : Gl X "Edit" := by rfl) (h1 : noStar a1 = true := by rfl) (h2 : noStars [a2, a3] = true := by rfl) : E X δ O (.Call (.Name "Edit" p) [a1, a2, a3] [] pos) (sEd C ⟨i, j, ws⟩) O1 :=
  e_ins (ew_make (S := fsInit C) (fun q => (q, ⟨i, j, ws⟩, tup)) M FI hr gC ha (fun q => hp) (fun _ => rfl) (fun _ => rfl) (fun _ => rfl) (fun _ => rfl) (fun _ => rfl) hg (by decide) h1 h2)
theorem scAdd : FnScope ["self", "many"] ["self", "many"] (defScope sAdd) := ⟨rfl, rfl, rfl, by decide +kernel, rfl, by decide +kernel, by decide +kernel⟩
def fsAdd (C : Addr) : FS (Ed × Int) := { args := fun i => [sEd C i.1, sInt i.2], pre := fun i => i.1.ok ∧ 0 ≤ i.1.first + i.2, res := fun i => sEd C (i.1.plus i.2) }
theorem ok_add {f fI : Addr} {fd : FuncData} (F : Fun K "__add__" "Edit.__add__" sAdd f fd) (b : Binds K fd ["self", "many"] []) (Cc : Cs K mg) (EC : EdC K mg C) (M : Mk K C fI) (FI : DefOk P w K mg base 3 fI [] (fsInit C)) : DefOk P w K mg base 5 f [] (fsAdd C) := by
  refine fn_ok F scAdd b .nil (fun _ => rfl) fun ⟨e, n⟩ cdv A outer s G H D EE hr hp hf hn => ?_
  have hp : e.ok ∧ 0 ≤ e.first + n := hp
  refine j_if (O1 := []) (u := false) (t_eq (t_not (t_val (e_callB (c_isi (n := "int") (k := true) ty_int (kit_ty (by decide +kernel))) Cc.isi (by decide +kernel) (ea_cons (e_name 1) (ea_cons (e_ty "int" Cc.int (by decide +kernel)) ea_nil))))) rfl) (fun h => nomatch h) (fun _ => j_on ?_)
  exact j_ret (O1 := []) (e_edit true M FI hr EC.gC ⟨⟨hp.2, Int.add_le_add_right hp.1.1.2 n⟩, hp.1.2⟩ (ea_cons (e_bin o_add (e_fld 0 EC.cl EC.nF (e_name 0)) (e_name 1)) (ea_cons (e_bin o_add (e_fld 1 EC.cl EC.nL (e_name 0)) (e_name 1)) (ea_cons (e_fld 2 EC.cl EC.nW (e_name 0)) ea_nil)))) (fin_ret hf (fun w hw => hw) fun G v hv => hv)
theorem scUndone : FnScope ["self", "words"] ["self", "words"] (defScope sUndone) := ⟨rfl, rfl, rfl, by decide +kernel, rfl, by decide +kernel, by decide +kernel⟩
def fsUndone (C : Addr) : FS (Ed × List Str) := { args := fun i => [sEd C i.1, sLst sStr i.2], pre := fun i => i.1.fits i.2, res := fun i => sEd C (i.1.undone i.2) }
theorem undone_ok {e : Ed} {ws : List Str} (h : e.fits ws) : (e.undone ws).ok := by
  refine ⟨⟨h.1.1.1, by show e.first ≤ e.first + (e.words.length : Int); omega⟩, fun t ht => h.2.1 t ?_, ?_⟩
  · exact List.mem_of_mem_drop (List.mem_of_mem_take ht)
  · show ((ws.drop e.first.toNat).take (e.last.toNat - e.first.toNat)).length ≤ 100000
    have := h.2.2.1
    simp only [List.length_take, List.length_drop]
    omega
theorem ok_undone {f fI fC : Addr} {fd : FuncData} (F : Fun K "undone" "Edit.undone" sUndone f fd) (b : Binds K fd ["self", "words"] []) (T : Bt mg) (EC : EdC K mg C) (CC : StX.CallO K C fC) (FC : DefOk P w K mg base 4 fC [] (fsCall C)) (M : Mk K C fI) (FI : DefOk P w K mg base 3 fI [] (fsInit C)) : DefOk P w K mg base 5 f [] (fsUndone C) := by
  refine fn_ok F scUndone b .nil (fun _ => rfl) fun ⟨e, ws⟩ cdv A outer s G H D EE hr hp hf hn => ?_
  have hp : e.fits ws := hp
  refine j_expr (O1 := []) (e_callO (S := fsCall C) (O1 := []) (e, ws) CC FC hr (e_name 0) (ea_cons (e_name 1) ea_nil) hp) ?_
  refine j_ret (O1 := []) (e_edit (ws := cutA ws (some e.first) (some e.last)) false M FI hr EC.gC ?_ (ea_cons (e_fld 0 EC.cl EC.nF (e_name 0)) (ea_cons (e_bin o_add (e_fld 0 EC.cl EC.nF (e_name 0)) (e_callB c_lenT T.len PySem.boot_len (ea_cons (e_fld 2 EC.cl EC.nW (e_name 0)) ea_nil))) (ea_cons (e_lst (ew_slice (e_name 1) (po_s (e_fld 0 EC.cl EC.nF (e_name 0))) (po_s (e_fld 1 EC.cl EC.nL (e_name 0))))) ea_nil)))) (fin_ret hf (fun w hw => hw) fun G v hv => ?_)
  · rw [cutA_mid ws hp.1.1.1 (Int.le_trans hp.1.1.1 hp.1.1.2)]
    exact undone_ok hp
  · rw [cutA_mid ws hp.1.1.1 (Int.le_trans hp.1.1.1 hp.1.1.2)] at hv
    exact hv
end
end K35

namespace K35
open PySem L2 Gd
abbrev sCarried : Stmt := top 17
abbrev sShrunk : Stmt := top 18
def carriedV (e o : Ed) : Option Ed :=
  if e.last ≤ o.first ∧ ¬ (e.first = e.last ∧ o.first = o.last ∧ e.first = o.first) then some e
  else if o.last ≤ e.first then some (e.plus o.growth) else none
/-- how many first words are the same -/
def lcp : List Str → List Str → Nat
  | x :: xs, y :: ys => if x = y then lcp xs ys + 1 else 0
  | _, _ => 0
theorem lcp_le : ∀ xs ys : List Str, lcp xs ys ≤ xs.length ∧ lcp xs ys ≤ ys.length
  | [], ys => by simp [lcp]
  | x :: xs, [] => by simp [lcp]
  | x :: xs, y :: ys => by
    have := lcp_le xs ys
    unfold lcp
    split
    · simp; omega
    · simp
theorem lcp_same : ∀ (xs ys : List Str) (g : Nat), g < lcp xs ys → xs[g]? = ys[g]?
  | [], ys, g, h => by simp [lcp] at h
  | x :: xs, [], g, h => by simp [lcp] at h
  | x :: xs, y :: ys, g, h => by
    unfold lcp at h
    split at h
    · rename_i e
      cases g with
      | zero => simp [e]
      | succ g => simpa using lcp_same xs ys g (by omega)
    · omega
theorem lcp_stop : ∀ (xs ys : List Str), lcp xs ys < xs.length → lcp xs ys < ys.length → xs[lcp xs ys]? ≠ ys[lcp xs ys]?
  | [], ys, h, _ => by simp at h
  | x :: xs, [], _, h => by simp at h
  | x :: xs, y :: ys, h1, h2 => by
    unfold lcp at h1 h2 ⊢
    split
    · rename_i e
      rw [if_pos e] at h1 h2
      have := lcp_stop xs ys (by simpa using h1) (by simpa using h2)
      simpa using this
    · rename_i e
      simp [e]
/-- the loop's test, up to the place where it ends -/
theorem lcp_test {xs ys : List Str} {g : Nat} (h : g ≤ lcp xs ys) (h1 : g < xs.length) (h2 : g < ys.length) : decide (xs[g] = ys[g]) = decide (g < lcp xs ys) := by
  rw [decide_eq_decide]
  constructor
  · intro e
    rcases Nat.lt_or_ge g (lcp xs ys) with z | z
    · exact z
    · have e2 : g = lcp xs ys := by omega
      subst e2
      refine absurd ?_ (lcp_stop xs ys h1 h2)
      rw [List.getElem?_eq_getElem h1, List.getElem?_eq_getElem h2, e]
  · intro z
    have := lcp_same xs ys g z
    rw [List.getElem?_eq_getElem h1, List.getElem?_eq_getElem h2] at this
    exact Option.some.inj this
def tailN (ws more : List Str) : Nat := lcp (ws.drop (lcp ws more)).reverse (more.drop (lcp ws more)).reverse
def shrunkV (ws more : List Str) : Ed := ⟨lcp ws more, (ws.length : Int) - tailN ws more, (more.drop (lcp ws more)).take (more.length - tailN ws more - lcp ws more)⟩
theorem tailN_le (ws more : List Str) : lcp ws more + tailN ws more ≤ ws.length ∧ lcp ws more + tailN ws more ≤ more.length := by
  have h := lcp_le (ws.drop (lcp ws more)).reverse (more.drop (lcp ws more)).reverse
  have h2 := lcp_le ws more
  simp only [List.length_reverse, List.length_drop] at h
  unfold tailN
  omega
section
variable {P : Program} {w : World} {K : Fg} {mg : Str → Option Value} {base : Heap} {C : Addr}
theorem scCarried : FnScope ["one", "other", "is_same"] ["one", "other"] (defScope sCarried) := ⟨rfl, rfl, rfl, by decide +kernel, rfl, by decide +kernel, by decide +kernel⟩
def fsCarried (C : Addr) : FS (Ed × Ed) := { args := fun i => [sEd C i.1, sEd C i.2], pre := fun i => i.1.ok ∧ i.2.ok, res := fun i => sOpt (sEd C) (carriedV i.1 i.2) }
theorem ok_carried {f fA fG : Addr} {fd : FuncData} (F : Fun K "carried" "carried" sCarried f fd) (b : Binds K fd ["one", "other"] []) (EC : EdC K mg C) (CA : ClsAdd K C fA) (FA : DefOk P w K mg base 5 fA [] (fsAdd C)) (mG : Meth K C "growth" fG) (FG : DefOk P w K mg base 1 fG [] (fsGrowth C)) : DefOk P w K mg base 6 f [] (fsCarried C) := by
  refine fn_ok F scCarried b .nil (fun _ => rfl) fun ⟨e, o⟩ cdv A outer s G H D EE hr hp hf hn => ?_
  have hp : e.ok ∧ o.ok := hp
  have hr1 : Room 1 _ := hr.mono (by decide)
  refine j_set 2 (O1 := []) (e_and2 (e_cmp o_eq (e_fld 0 EC.cl EC.nF (e_name 0)) (e_fld 1 EC.cl EC.nL (e_name 0))) (e_and2 (e_cmp o_eq (e_fld 0 EC.cl EC.nF (e_name 1)) (e_fld 1 EC.cl EC.nL (e_name 1))) (e_one (e_cmp o_eq (e_fld 0 EC.cl EC.nF (e_name 0)) (e_fld 0 EC.cl EC.nF (e_name 1)))))) ?_ scCarried.nd
  refine j_if (O1 := []) (t_w (tw_and2 (t_cmp o_le (e_fld 1 EC.cl EC.nL (e_name 0)) (e_fld 0 EC.cl EC.nF (e_name 1))) (tw_and1 (t_not (t_val (e_name 2)))))) (fun h => ?_) (fun h => j_on ?_)
  · simp only [Bool.and_eq_true, Bool.not_eq_true', decide_eq_true_eq, Bool.and_eq_false_iff, decide_eq_false_iff_not] at h
    have h' : e.last ≤ o.first ∧ ¬ (e.first = e.last ∧ o.first = o.last ∧ e.first = o.first) := ⟨h.1, fun z => by rcases h.2 with q | q | q <;> simp_all⟩
    refine j_ret (O1 := []) (e_name 0) (fin_ret hf (fun w hw => hw) fun G v hv => ?_)
    show (sOpt (sEd C) (carriedV e o)).ok _ _ _
    unfold carriedV
    rw [if_pos h']
    exact hv
  · have h' : ¬ (e.last ≤ o.first ∧ ¬ (e.first = e.last ∧ o.first = o.last ∧ e.first = o.first)) := by
      rintro ⟨h1, h2⟩
      simp only [h1, decide_true, Bool.true_and, Bool.not_eq_false', Bool.and_eq_true, decide_eq_true_eq] at h
      exact h2 ⟨h.1, h.2.1, h.2.2⟩
    refine j_if (O1 := []) (t_cmp o_le (e_fld 1 EC.cl EC.nL (e_name 1)) (e_fld 0 EC.cl EC.nF (e_name 0))) (fun h2 => ?_) (fun h2 => j_on ?_)
    · have h2 : o.last ≤ e.first := by simpa using h2
      have hg : 0 ≤ e.first + o.growth := by
        unfold Ed.growth
        have := hp.2.1.1
        omega
      refine j_ret (O1 := []) (e_bin (s3 := sEd C (e.plus o.growth)) (o_addO (S := fsAdd C) (e, o.growth) CA FA hr ⟨hp.1, hg⟩ rfl rfl (fun K G v u => ins_ni)) (e_name 0) (e_meth0 (S := fsGrowth C) (O2 := []) o FG hr1 EC.cl mG (e_name 1) trivial)) (fin_ret hf (fun w hw => hw) fun G v hv => ?_)
      show (sOpt (sEd C) (carriedV e o)).ok _ _ _
      unfold carriedV
      rw [if_neg h', if_pos h2]
      exact hv
    · have h2 : ¬ o.last ≤ e.first := by simpa using h2
      refine j_ret (O1 := []) e_non (fin_ret hf (fun w hw => hw) fun G v hv => ?_)
      show (sOpt (sEd C) (carriedV e o)).ok _ _ _
      unfold carriedV
      rw [if_neg h', if_neg h2]
      exact hv
end
end K35

namespace K35
open PySem L2 Gd
theorem min2 (a b : Int) : ∃ m, m ∈ [a, b] ∧ (∀ y ∈ [a, b], m ≤ y) ∧ m = min a b := by
  rcases Int.le_total a b with h | h
  · exact ⟨a, by simp, by simp [h], by omega⟩
  · exact ⟨b, by simp, by simp [h], by omega⟩
section
variable {X : Cx}
theorem c_min2 {a b : Int} (hc : X.calm = true := by rfl) : CallE X (.builtin "min") [sLst sInt [a, b]] (sInt (min a b)) := by
  obtain ⟨m, h1, h2, h3⟩ := min2 a b
  rw [← h3]
  exact c_min h1 h2 hc
end
theorem atI_neg {α : Type} {xs : List α} {g : Nat} (h : g < xs.length) : atI xs (-1 - (g : Int)) = some (xs.reverse[g]'(by simpa using h)) := by
  unfold atI
  have e : ixN xs.length (-1 - (g : Int)) = some (xs.length - 1 - g) := by
    unfold ixN
    rw [if_neg (by omega), if_pos (by omega)]
    congr 1
    omega
  rw [e]
  show xs[xs.length - 1 - g]? = _
  rw [List.getElem_reverse, List.getElem?_eq_getElem (by omega)]
section
variable {P : Program} {w : World} {K : Fg} {mg : Str → Option Value} {base : Heap} {C : Addr}
theorem scShrunk : FnScope ["words", "more", "first", "last"] ["words", "more"] (defScope sShrunk) := ⟨rfl, rfl, rfl, by decide +kernel, rfl, by decide +kernel, by decide +kernel⟩
def fsShrunk (C : Addr) : FS (List Str × List Str) := { args := fun i => [sLst sStr i.1, sLst sStr i.2], pre := fun i => (okWords i.1 ∧ i.1.length ≤ 200) ∧ (okWords i.2 ∧ i.2.length ≤ 200), res := fun i => sEd C (shrunkV i.1 i.2) }
theorem shrunk_ok {ws more : List Str} (h : okWords more) (hl : more.length ≤ 200) : (shrunkV ws more).ok := by
  have ht := tailN_le ws more
  refine ⟨⟨by show (0 : Int) ≤ (lcp ws more : Nat); omega, by show ((lcp ws more : Nat) : Int) ≤ (ws.length : Int) - (tailN ws more : Nat); omega⟩, fun t hm => h t (List.mem_of_mem_drop (List.mem_of_mem_take hm)), ?_⟩
  show ((more.drop (lcp ws more)).take (more.length - tailN ws more - lcp ws more)).length ≤ 100000
  simp only [List.length_take, List.length_drop]
  omega
theorem ok_shrunk {f fK fI : Addr} {fd : FuncData} (F : Fun K "shrunk" "shrunk" sShrunk f fd) (b : Binds K fd ["words", "more"] []) (T : Bt mg) (Cc : Cs K mg) (EC : EdC K mg C) (gK : mg "check_words" = some (.ref fK)) (FK : DefOk P w K mg base 3 fK [.bl false, .int 200] fsCheck) (M : Mk K C fI) (FI : DefOk P w K mg base 3 fI [] (fsInit C)) : DefOk P w K mg base 5 f [] (fsShrunk C) := by
  refine fn_ok F scShrunk b .nil (fun _ => rfl) fun ⟨ws, more⟩ cdv A outer s G H D EE hr hp hf hn => ?_
  have hp : (okWords ws ∧ ws.length ≤ 200) ∧ (okWords more ∧ more.length ≤ 200) := hp
  have hr3 : Room 3 _ := hr.mono (by decide)
  refine j_expr (O1 := []) (e_call (O2 := []) (S := fsCheck) (false, ws) FK hr3 gK (ea_cons (e_name 0) ea_nil) hp.1) ?_
  refine j_expr (O1 := []) (e_call (O2 := []) (S := fsCheck) (false, more) FK hr3 gK (ea_cons (e_name 1) ea_nil) hp.2) ?_
  refine j_set 2 (O1 := []) e_int ?_ scShrunk.nd
  refine j_while (fun g : Nat => g ≤ lcp ws more) (fun g => lcp ws more - g) (fun g => decide (g < lcp ws more)) (fun g => [some (sLst sStr ws), some (sLst sStr more), some (sInt g), none]) (fun _ => []) ⟨0, Nat.zero_le _, fun _ _ _ _ h => h⟩ (fun g hg => ?_) (fun g hg hb => ?_) (fun g hg hb => ?_)
  · have hle := lcp_le ws more
    refine t_eq (t_w (tw_and (u := decide ((g : Int) < min (ws.length : Int) (more.length : Int))) (v := decide (g < lcp ws more)) (t_cmp o_lt (e_name 2) (e_callB c_min2 Cc.min (by decide +kernel) (ea_cons (e_lst (ew_lst (R := sInt) (el_cons (e_callB c_len T.len PySem.boot_len (ea_cons (e_name 0) ea_nil)) (el_cons (e_callB c_len T.len PySem.boot_len (ea_cons (e_name 1) ea_nil)) el_nil)) (szl (by simp)))) ea_nil))) (fun h => tw_and1 ?_))) ?_
    · have h : (g : Int) < min (ws.length : Int) (more.length : Int) := by simpa using h
      have h1 : g < ws.length := by omega
      have h2 : g < more.length := by omega
      rw [← lcp_test hg h1 h2]
      exact t_cmp o_eqS (e_ix (i_lst (y := ws[g]) (atI_nat (List.getElem?_eq_getElem h1))) (e_name 0) (e_name 2)) (e_ix (i_lst (y := more[g]) (atI_nat (List.getElem?_eq_getElem h2))) (e_name 1) (e_name 2))
    · rw [Bool.eq_iff_iff]
      simp only [Bool.and_eq_true, decide_eq_true_eq]
      omega
  · have hb : g < lcp ws more := by simpa using hb
    refine j_aug 2 (O1 := []) rfl e_int (j_nil fun σ G H st => ⟨g + 1, G, ⟨hb, by omega⟩, ?_⟩) scShrunk.nd
    show Sta K _ [_, _, some (sInt ((g + 1 : Nat) : Int)), _] _ σ G H
    rw [Int.natCast_add]
    exact st
  · have hb : ¬ g < lcp ws more := by simpa using hb
    have hg : g = lcp ws more := by omega
    subst hg
    refine j_set 3 (O1 := []) e_int ?_ scShrunk.nd
    have ht := tailN_le ws more
    refine j_while (fun t : Nat => t ≤ tailN ws more) (fun t => tailN ws more - t) (fun t => decide (t < tailN ws more)) (fun t => [some (sLst sStr ws), some (sLst sStr more), some (sInt (lcp ws more : Nat)), some (sInt t)]) (fun _ => []) ⟨0, Nat.zero_le _, fun _ _ _ _ h => h⟩ (fun t ht' => ?_) (fun t ht' hb => ?_) (fun t ht' hb => ?_)
    · refine t_eq (t_w (tw_and (u := decide ((t : Int) < min (ws.length : Int) (more.length : Int) - (lcp ws more : Nat))) (v := decide (t < tailN ws more)) (t_cmp o_lt (e_name 3) (e_bin o_sub (e_callB c_min2 Cc.min (by decide +kernel) (ea_cons (e_lst (ew_lst (R := sInt) (el_cons (e_callB c_len T.len PySem.boot_len (ea_cons (e_name 0) ea_nil)) (el_cons (e_callB c_len T.len PySem.boot_len (ea_cons (e_name 1) ea_nil)) el_nil)) (szl (by simp)))) ea_nil)) (e_name 2))) (fun h => tw_and1 ?_))) ?_
      · have h : (t : Int) < min (ws.length : Int) (more.length : Int) - (lcp ws more : Nat) := by simpa using h
        have h1 : t < (ws.drop (lcp ws more)).reverse.length := by simp only [List.length_reverse, List.length_drop]; omega
        have h2 : t < (more.drop (lcp ws more)).reverse.length := by simp only [List.length_reverse, List.length_drop]; omega
        have q1 : t < ws.length := by omega
        have q2 : t < more.length := by omega
        have e1 : ws.reverse[t]'(by simpa using q1) = (ws.drop (lcp ws more)).reverse[t] := by
          simp only [List.getElem_reverse, List.getElem_drop, List.length_drop]
          congr 1
          simp only [List.length_reverse, List.length_drop] at h1
          omega
        have e2 : more.reverse[t]'(by simpa using q2) = (more.drop (lcp ws more)).reverse[t] := by
          simp only [List.getElem_reverse, List.getElem_drop, List.length_drop]
          congr 1
          simp only [List.length_reverse, List.length_drop] at h2
          omega
        have := lcp_test (xs := (ws.drop (lcp ws more)).reverse) (ys := (more.drop (lcp ws more)).reverse) ht' h1 h2
        show Gd.T _ _ _ _ (decide (t < tailN ws more)) _
        unfold tailN
        rw [← this, ← e1, ← e2]
        exact t_cmp o_eqS (e_ix (i_lst (atI_neg q1)) (e_name 0) (e_bin o_sub (e_neg e_int) (e_name 3))) (e_ix (i_lst (atI_neg q2)) (e_name 1) (e_bin o_sub (e_neg e_int) (e_name 3)))
      · rw [Bool.eq_iff_iff]
        simp only [Bool.and_eq_true, decide_eq_true_eq]
        omega
    · have hb : t < tailN ws more := by simpa using hb
      refine j_aug 3 (O1 := []) rfl e_int (j_nil fun σ G H st => ⟨t + 1, G, ⟨hb, by omega⟩, ?_⟩) scShrunk.nd
      show Sta K _ [_, _, _, some (sInt ((t + 1 : Nat) : Int))] _ σ G H
      rw [Int.natCast_add]
      exact st
    · have hb : ¬ t < tailN ws more := by simpa using hb
      have hg : t = tailN ws more := by omega
      subst hg
      have cut : cutA more (some ((lcp ws more : Nat) : Int)) (some ((more.length : Int) - (tailN ws more : Nat))) = (more.drop (lcp ws more)).take (more.length - tailN ws more - lcp ws more) := by
        rw [cutA_mid more (by omega) (by omega)]
        congr 1
        omega
      refine j_ret (O1 := []) (e_edit (ws := cutA more (some ((lcp ws more : Nat) : Int)) (some ((more.length : Int) - (tailN ws more : Nat)))) false M FI hr EC.gC ?_ (ea_cons (e_name 2) (ea_cons (e_bin o_sub (e_callB c_len T.len PySem.boot_len (ea_cons (e_name 0) ea_nil)) (e_name 3))
        (ea_cons (e_lst (ew_slice (e_name 1) (po_s (e_name 2)) (po_s (e_bin o_sub (e_callB c_len T.len PySem.boot_len (ea_cons (e_name 1) ea_nil)) (e_name 3))))) ea_nil)))) (fin_ret hf (fun w hw => hw) fun G v hv => ?_)
      · rw [cut]
        exact shrunk_ok hp.2.1 hp.2.2
      · rw [cut] at hv
        exact hv
end
end K35

namespace K35
open PySem L2 Gd
abbrev sEdit : Stmt := top 25
def five : List Str := ["x", "p", ".", ";", "f"]
def six : List Str := ["x", "p", ".", ";", "f", "("]
def pickV (ws : List Str) (ns : List Int) (c : Int) : Str := ws.getD (nextV ns c ws.length).toNat ""
theorem pick_some {ws : List Str} {ns : List Int} {c : Int} (h : 0 < ws.length) : ws[(nextV ns c ws.length).toNat]? = some (pickV ws ns c) := by
  have h1 : nextV ns c ws.length < ws.length := nextV_hi (by omega)
  have h0 : 0 ≤ nextV ns c ws.length := nextV_lo (by omega)
  unfold pickV
  rw [List.getD_eq_getElem?_getD, List.getElem?_eq_getElem (by omega)]
  rfl
theorem pick_mem {ws : List Str} {ns : List Int} {c : Int} (h : 0 < ws.length) : pickV ws ns c ∈ ws := List.mem_of_getElem? (pick_some h)
theorem ok_six : okWords six := by
  have h : (six.all fun t => isToken t && decide (t.length ≤ 100000)) = true := by decide +kernel
  intro t ht
  have := List.all_eq_true.mp h t ht
  simpa using this
theorem five_six : ∀ t ∈ five, t ∈ six := by decide +kernel
def edM (ns : List Int) (c : Int) : Int := nextV ns (c + 1 + 1) 3
def edFirst (ns : List Int) (c : Int) (n : Nat) : Int := nextV ns c ((n : Int) + 1)
def edLast (ns : List Int) (c : Int) (n : Nat) : Int := edFirst ns c n + nextV ns (c + 1) (min 3 ((n : Int) - edFirst ns c n) + 1)
def editV (ns : List Int) (c : Int) (n : Nat) : Ed := ⟨edFirst ns c n, edLast ns c n, (List.range (edM ns c).toNat).map fun k : Nat => pickV five ns (c + 1 + 1 + 1 + k)⟩
def editC (ns : List Int) (c : Int) : Int := c + 1 + 1 + 1 + ((edM ns c).toNat : Nat)
theorem edFirst_lo {ns : List Int} {c : Int} {n : Nat} : 0 ≤ edFirst ns c n := nextV_lo (by omega)
theorem edFirst_hi {ns : List Int} {c : Int} {n : Nat} : edFirst ns c n ≤ n := by
  have : edFirst ns c n < (n : Int) + 1 := nextV_hi (by omega)
  omega
theorem edLast_lo {ns : List Int} {c : Int} {n : Nat} : edFirst ns c n ≤ edLast ns c n := by
  have h := edFirst_hi (ns := ns) (c := c) (n := n)
  have : 0 ≤ nextV ns (c + 1) (min 3 ((n : Int) - edFirst ns c n) + 1) := nextV_lo (by omega)
  unfold edLast
  omega
theorem edLast_hi {ns : List Int} {c : Int} {n : Nat} : edLast ns c n ≤ n := by
  have h := edFirst_hi (ns := ns) (c := c) (n := n)
  have : nextV ns (c + 1) (min 3 ((n : Int) - edFirst ns c n) + 1) < min 3 ((n : Int) - edFirst ns c n) + 1 := nextV_hi (by omega)
  unfold edLast
  omega
theorem edM_lo {ns : List Int} {c : Int} : 0 ≤ edM ns c := nextV_lo (by decide)
theorem edM_hi {ns : List Int} {c : Int} : edM ns c < 3 := nextV_hi (by decide)
theorem editV_len {ns : List Int} {c : Int} {n : Nat} : (editV ns c n).words.length ≤ 2 := by
  show ((List.range (edM ns c).toNat).map _).length ≤ 2
  rw [List.length_map, List.length_range]
  have := edM_lo (ns := ns) (c := c)
  have := edM_hi (ns := ns) (c := c)
  omega
theorem editV_ok {ns : List Int} {c : Int} {n : Nat} : (editV ns c n).ok := by
  refine ⟨⟨edFirst_lo, edLast_lo⟩, fun t ht => ?_, Nat.le_trans editV_len (by decide)⟩
  obtain ⟨k, _, rfl⟩ := List.mem_map.mp ht
  exact ok_six _ (five_six _ (pick_mem (by decide)))
theorem editC_lo {ns : List Int} {c : Int} (h : 0 ≤ c) : 0 ≤ editC ns c := by
  unfold editC
  omega
section
variable {P : Program} {w : World} {K : Fg} {mg : Str → Option Value} {base : Heap} {C : Addr}
theorem scEdit : FnScope ["_law_draw_here", "_law_words", "_law_first", "_law_last", "_law_turn"] ["_law_draw_here", "_law_words"] (defScope sEdit) := ⟨rfl, rfl, rfl, by decide +kernel, rfl, by decide +kernel, by decide +kernel⟩
def fsEdit (C : Addr) : FS (Addr × List Int × Int × List Str) := { args := fun i => [sRef i.1, sLst sStr i.2.2.2], own := fun i => [dO i.1 i.2.1 i.2.2.1], pre := fun i => 0 ≤ i.2.2.1, res := fun i => sEd C (editV i.2.1 i.2.2.1 i.2.2.2.length), own' := fun i => [dO i.1 i.2.1 (editC i.2.1 i.2.2.1)] }
theorem ew_mapN {X : Cx} {δ : List (Option Slot)} {O : List Own} {x : Str} {px pos : Pos} {elt iter : Expr} {scope : Scope} {own : List (Str × Nat)} {α β : Type} {R : α → Slot} {S : β → Slot} {as : List α} (i n : Nat) (Ωs : Nat → List Own) (f : Nat → β) (hn : as.length = n) (hN : X.N.Nodup) (hi : IT X δ O (.Name x px) iter R as (Ωs 0)) (ok : BlkOk X.N X.env.scope scope own)
    (helt : ∀ k y, as[k]? = some y → ∀ s H C cl fp, E (Blk X scope s H C cl fp) ((wipeD δ (own.map (·.2))).set i (some (R y))) (Ωs k) elt (S (f k)) (Ωs (k + 1))) (hz : n ≤ sizeLine)
    (hin : i ∈ own.map (·.2) := by decide) (hix : X.N[i]? = some x := by rfl) (hx : ∀ s H C cl fp, Loc (Blk X scope s H C cl fp).env.scope x := by intro _ _ _ _ _; first | exact Or.inl rfl | exact Or.inr rfl)
    (hf : ∀ s H C cl fp, (Blk X scope s H C cl fp).fn x = true ∨ (Blk X scope s H C cl fp).env.scope.names.lookup x = some .local := by intro _ _ _ _ _; first | exact .inl rfl | exact .inr rfl)
    (hc : X.calm = true := by rfl) (hs : noSet iter = true := by rfl) :
    EW X δ O (.ListComp elt [⟨.Name x px, iter, [], 0⟩] scope pos) (fun p => oLst p S ((List.range n).map f)) (Ωs n) := by
  subst hn
  exact ew_mapO i Ωs f hN hi ok helt hz hin hix hx hf hc hs
theorem ok_edit {f fN fP fI : Addr} {fd : FuncData} (F : Fun K "_law_edit" "_law_edit" sEdit f fd) (b : Binds K fd ["_law_draw_here", "_law_words"] []) (T : Bt mg) (Cc : Cs K mg) (EC : EdC K mg C)
    (gN : mg "_law_next" = some (.ref fN)) (FN : DefOk P w K mg base 3 fN [] fsNext) (gP : mg "_law_pick" = some (.ref fP)) (FP : DefOk P w K mg base 4 fP [] (fsPick sStr)) (M : Mk K C fI) (FI : DefOk P w K mg base 3 fI [] (fsInit C)) : DefOk P w K mg base 5 f [] (fsEdit C) := by
  refine fn_ok F scEdit b .nil (fun _ => rfl) fun ⟨dr, ns, c, ws⟩ cdv A outer s G H D EE hr hp hf hn => ?_
  have hp : 0 ≤ c := hp
  have hr3 : Room 3 _ := hr.mono (by decide)
  refine j_set 2 (O1 := [dO dr ns (c + 1)]) (s := sInt (edFirst ns c ws.length)) (e_call (S := fsNext) (O2 := []) (dr, ns, c, (ws.length : Int) + 1) FN hr3 gN (ea_cons (e_name 0) (ea_cons (e_bin o_add (e_callB c_len T.len PySem.boot_len (ea_cons (e_name 1) ea_nil)) e_int) ea_nil)) ?_) ?_ scEdit.nd
  · show 0 ≤ c ∧ (0 : Int) < (ws.length : Int) + 1
    omega
  have hhi := edFirst_hi (ns := ns) (c := c) (n := ws.length)
  refine j_set 3 (O1 := [dO dr ns (c + 1 + 1)]) (s := sInt (edLast ns c ws.length)) (e_bin o_add (e_name 2) (e_call (S := fsNext) (O2 := []) (dr, ns, c + 1, min 3 ((ws.length : Int) - edFirst ns c ws.length) + 1) FN hr3 gN (ea_cons (e_name 0) (ea_cons (e_bin o_add (e_callB c_min2 Cc.min (by decide +kernel) (ea_cons (e_lst (ew_lst (R := sInt) (el_cons e_int (el_cons (e_bin o_sub (e_callB c_len T.len PySem.boot_len (ea_cons (e_name 1) ea_nil)) (e_name 2)) el_nil)) (szl (by simp)))) ea_nil)) e_int) ea_nil)) ?_)) ?_ scEdit.nd
  · show 0 ≤ c + 1 ∧ (0 : Int) < min 3 ((ws.length : Int) - edFirst ns c ws.length) + 1
    omega
  have hm := edM_lo (ns := ns) (c := c)
  have hm2 := edM_hi (ns := ns) (c := c)
  have hlr : (List.range (edM ns c).toNat).length = (edM ns c).toNat := List.length_range
  refine j_ret (O1 := [dO dr ns (editC ns c)]) (s := sEd C (editV ns c ws.length)) (e_edit (ws := (editV ns c ws.length).words) false M FI hr EC.gC editV_ok (ea_cons (e_name 2) (ea_cons (e_name 3) (ea_cons (e_lst ?_) ea_nil)))) (fin_ret hf (fun w hw => hw) fun G v hv => hv)
  exact ew_mapN (S := sStr) (R := fun k : Nat => sInt k) (as := List.range (edM ns c).toNat) 4 (edM ns c).toNat (fun k => [dO dr ns (c + 1 + 1 + 1 + k)]) (fun k => pickV five ns (c + 1 + 1 + 1 + k)) hlr scEdit.nd
    (it_range (O1 := [dO dr ns (c + 1 + 1 + 1 + (0 : Nat))]) T.range (e_callR (S := fsNext) (O2 := []) (dr, ns, c + 1 + 1, 3) FN hr3 gN (ea_cons (e_name 0) (ea_cons e_int ea_nil)) (by show 0 ≤ c + 1 + 1 ∧ (0 : Int) < 3; omega) rfl (by show [dO dr ns (c + 1 + 1 + 1)] = [dO dr ns (c + 1 + 1 + 1 + 0)]; rw [Int.add_zero])) (by omega) (by omega))
    (blkOk_by (own := [("_law_turn", 4)]) (N := ["_law_draw_here", "_law_words", "_law_first", "_law_last", "_law_turn"]) (sc := defScope sEdit) (by decide +kernel))
    (fun k y hy s H _ cl fp => e_callR (S := fsPick sStr) (O2 := []) (dr, ns, c + 1 + 1 + 1 + k, five, pickV five ns (c + 1 + 1 + 1 + k)) FP hr gP (ea_cons (e_name 0) (ea_cons (e_lst (ew_lst (R := sStr) (el_cons e_str (el_cons e_str (el_cons e_str (el_cons e_str (el_cons e_str el_nil))))) (szl (by simp)))) ea_nil)) (by
      show 0 ≤ c + 1 + 1 + 1 + (k : Int) ∧ _
      exact ⟨by omega, pick_some (ws := five) (by decide)⟩) rfl (by
      show [dO dr ns (c + 1 + 1 + 1 + k + 1)] = [dO dr ns (c + 1 + 1 + 1 + ((k + 1 : Nat) : Int))]
      rw [Int.natCast_add, Int.add_assoc (c + 1 + 1 + 1)]
      rfl)) (szl (by omega))
end
end K35

namespace K35
open PySem L2 Gd
/-! ### what the law asks, of the functions alone -/
theorem run_split {e : Ed} {x y z : List Str} (h1 : e.first = (x.length : Int)) (h2 : e.last = (x.length : Int) + y.length) : e.run (x ++ y ++ z) = x ++ e.words ++ z := by
  unfold Ed.run
  have e1 : e.first.toNat = x.length := by omega
  have e2 : e.last.toNat = (x ++ y).length := by rw [List.length_append]; omega
  rw [e1, e2, List.append_assoc x y z, List.take_left, ← List.append_assoc x y z, List.drop_left]
/-- words in three parts: before, within and behind an edit -/
theorem parts {ws : List Str} {a b : Nat} (h1 : a ≤ b) (h2 : b ≤ ws.length) : ∃ x y z, ws = x ++ y ++ z ∧ x.length = a ∧ x.length + y.length = b := by
  refine ⟨ws.take a, (ws.drop a).take (b - a), ws.drop b, ?_, ?_, ?_⟩
  · rw [List.append_assoc]
    have : (ws.drop a).take (b - a) ++ ws.drop b = ws.drop a := by
      have e : ws.drop b = (ws.drop a).drop (b - a) := by rw [List.drop_drop]; congr 1; omega
      rw [e, List.take_append_drop]
    rw [this, List.take_append_drop]
  · rw [List.length_take]; omega
  · rw [List.length_take, List.length_take, List.length_drop]; omega
theorem Ed.parts {e : Ed} {ws : List Str} (h : e.ok) (hl : e.last ≤ ws.length) : ∃ x y z, ws = x ++ y ++ z ∧ e.first = (x.length : Int) ∧ e.last = (x.length : Int) + y.length := by
  obtain ⟨x, y, z, h1, h2, h3⟩ := K35.parts (ws := ws) (a := e.first.toNat) (b := e.last.toNat) (by have := h.1.1; have := h.1.2; omega) (by have := h.1.1; have := h.1.2; omega)
  have := h.1.1
  have := h.1.2
  exact ⟨x, y, z, h1, by omega, by omega⟩
theorem run_length {e : Ed} {ws : List Str} (h : e.ok) (hl : e.last ≤ ws.length) : ((e.run ws).length : Int) = ws.length + e.growth := by
  obtain ⟨x, y, z, rfl, h1, h2⟩ := e.parts h hl
  rw [run_split h1 h2]
  unfold Ed.growth
  simp only [List.length_append]
  omega
theorem okWords.app {a b : List Str} (h1 : okWords a) (h2 : okWords b) : okWords (a ++ b) := fun t ht => (List.mem_append.mp ht).elim (h1 t) (h2 t)
theorem okWords.tk {a : List Str} (h : okWords a) (n : Nat) : okWords (a.take n) := fun t ht => h t (List.mem_of_mem_take ht)
theorem okWords.dr {a : List Str} (h : okWords a) (n : Nat) : okWords (a.drop n) := fun t ht => h t (List.mem_of_mem_drop ht)
theorem run_words {e : Ed} {ws : List Str} (h : e.ok) (hw : okWords ws) : okWords (e.run ws) := ((hw.tk _).app h.2.1).app (hw.dr _)
theorem undone_run {e : Ed} {ws : List Str} (h : e.ok) (hl : e.last ≤ ws.length) : (e.undone ws).run (e.run ws) = ws := by
  obtain ⟨x, y, z, rfl, h1, h2⟩ := e.parts h hl
  rw [run_split h1 h2]
  have hw : (e.undone (x ++ y ++ z)).words = y := by
    show ((x ++ y ++ z).drop e.first.toNat).take (e.last.toNat - e.first.toNat) = y
    rw [show e.first.toNat = x.length by omega, show e.last.toNat - x.length = y.length by omega, List.append_assoc, List.drop_left, List.take_left]
  rw [run_split (e := e.undone (x ++ y ++ z)) h1 (by show e.first + (e.words.length : Int) = _; rw [h1]), hw]
theorem undone_fits {e : Ed} {ws : List Str} (h : e.fits ws) (hn : (e.run ws).length ≤ 200) : (e.undone ws).fits (e.run ws) := by
  refine ⟨undone_ok h, run_words h.1 h.2.1, hn, ?_, ?_⟩
  · have := run_length h.1 h.2.2.2.1
    show e.first + (e.words.length : Int) ≤ _
    unfold Ed.growth at this
    have := h.2.2.2.1
    have := h.1.1.2
    omega
  · show ((ws.drop e.first.toNat).take (e.last.toNat - e.first.toNat)).length ≤ 1000
    rw [List.length_take, List.length_drop]
    have := h.2.2.1
    omega
theorem lcp_take : ∀ xs ys : List Str, xs.take (lcp xs ys) = ys.take (lcp xs ys)
  | [], ys => by simp [lcp]
  | x :: xs, [] => by simp [lcp]
  | x :: xs, y :: ys => by
    unfold lcp
    split
    · rename_i e
      rw [List.take_succ_cons, List.take_succ_cons, lcp_take xs ys, e]
    · simp
theorem lcp_self : ∀ xs : List Str, lcp xs xs = xs.length
  | [] => rfl
  | x :: xs => by rw [lcp, if_pos rfl, lcp_self xs]; rfl
theorem tail_drop (ws more : List Str) : ws.drop (ws.length - tailN ws more) = more.drop (more.length - tailN ws more) := by
  have h := tailN_le ws more
  have e := lcp_take (ws.drop (lcp ws more)).reverse (more.drop (lcp ws more)).reverse
  rw [show lcp (ws.drop (lcp ws more)).reverse (more.drop (lcp ws more)).reverse = tailN ws more from rfl, List.take_reverse, List.take_reverse, List.reverse_inj, List.drop_drop, List.drop_drop, List.length_drop, List.length_drop] at e
  rw [show lcp ws more + (ws.length - lcp ws more - tailN ws more) = ws.length - tailN ws more by omega, show lcp ws more + (more.length - lcp ws more - tailN ws more) = more.length - tailN ws more by omega] at e
  exact e
theorem shrunk_run (ws more : List Str) : (shrunkV ws more).run ws = more := by
  have h := tailN_le ws more
  unfold Ed.run shrunkV
  show ws.take ((lcp ws more : Nat) : Int).toNat ++ (more.drop (lcp ws more)).take (more.length - tailN ws more - lcp ws more) ++ ws.drop ((ws.length : Int) - (tailN ws more : Nat)).toNat = more
  rw [Int.toNat_natCast, show ((ws.length : Int) - (tailN ws more : Nat)).toNat = ws.length - tailN ws more by omega, lcp_take, tail_drop]
  have e : more.drop (more.length - tailN ws more) = (more.drop (lcp ws more)).drop (more.length - tailN ws more - lcp ws more) := by
    rw [List.drop_drop]
    congr 1
    omega
  rw [e, List.append_assoc, List.take_append_drop, List.take_append_drop]
theorem shrunk_same (ws : List Str) : shrunkV ws ws = ⟨ws.length, ws.length, []⟩ := by
  have ht : tailN ws ws = 0 := by
    have := tailN_le ws ws
    rw [lcp_self] at this
    omega
  unfold shrunkV
  rw [ht, lcp_self, List.drop_length, List.take_nil]
  simp
theorem shrunk_fits {ws more : List Str} (h1 : okWords ws) (h2 : okWords more) (l1 : ws.length ≤ 200) (l2 : more.length ≤ 200) : (shrunkV ws more).fits ws := by
  refine ⟨shrunk_ok h2 l2, h1, l1, ?_, ?_⟩
  · show (ws.length : Int) - (tailN ws more : Nat) ≤ _
    omega
  · show ((more.drop (lcp ws more)).take (more.length - tailN ws more - lcp ws more)).length ≤ 1000
    rw [List.length_take, List.length_drop]
    omega
theorem shrunk_size (ws more : List Str) : ((shrunkV ws more).words.length : Int) + (shrunkV ws more).last - (shrunkV ws more).first ≤ (ws.length : Int) + more.length := by
  have h := tailN_le ws more
  show (((more.drop (lcp ws more)).take (more.length - tailN ws more - lcp ws more)).length : Int) + ((ws.length : Int) - (tailN ws more : Nat)) - (lcp ws more : Nat) ≤ _
  rw [List.length_take, List.length_drop]
  omega
theorem shrunk_truth (ws more : List Str) : (shrunkV ws more).truth = !decide (ws = more) := by
  by_cases h : ws = more
  · subst h
    rw [shrunk_same]
    simp [Ed.truth]
  · have : (shrunkV ws more).truth = true := by
      cases e : (shrunkV ws more).truth with
      | true => rfl
      | false =>
        refine absurd ?_ h
        unfold Ed.truth at e
        simp only [Bool.not_eq_false', Bool.and_eq_true, decide_eq_true_eq] at e
        have hw : (shrunkV ws more).words = [] := List.length_eq_zero_iff.mp (by omega)
        have r := shrunk_run ws more
        unfold Ed.run at r
        rw [hw, ← e.1, List.append_nil, List.take_append_drop] at r
        exact r
    rw [this]
    simp [h]
theorem apart {a b : Ed} {ws : List Str} (ha : a.ok) (hb : b.ok) (hl : b.last ≤ ws.length) (h : a.last ≤ b.first) : a.run (b.run ws) = (b.plus a.growth).run (a.run ws) := by
  obtain ⟨xy, y2, z, rfl, h1, h2⟩ := b.parts hb hl
  obtain ⟨x, y, m, rfl, h3, h4⟩ := a.parts (ws := xy) ha (by omega)
  rw [run_split h1 h2]
  rw [show x ++ y ++ m ++ b.words ++ z = x ++ y ++ (m ++ b.words ++ z) by simp, show x ++ y ++ m ++ y2 ++ z = x ++ y ++ (m ++ y2 ++ z) by simp, run_split h3 h4, run_split h3 h4]
  rw [show x ++ a.words ++ (m ++ y2 ++ z) = (x ++ a.words ++ m) ++ y2 ++ z by simp, run_split (e := b.plus a.growth) (x := x ++ a.words ++ m) (y := y2) (z := z)]
  · show _ = (x ++ a.words ++ m) ++ b.words ++ z
    simp
  · show b.first + a.growth = _
    unfold Ed.growth
    simp only [List.length_append] at h1 ⊢
    omega
  · show b.last + a.growth = _
    unfold Ed.growth
    simp only [List.length_append] at h1 h2 ⊢
    omega
theorem plus_growth (e : Ed) (n : Int) : (e.plus n).growth = e.growth := by
  unfold Ed.growth Ed.plus
  simp
  omega
theorem plus_zero (e : Ed) : e.plus 0 = e := by cases e; simp [Ed.plus]
theorem carried_first {a b : Ed} (ha : a.ok) (h : a.last < b.first) : carriedV a b = some a := by
  unfold carriedV
  rw [if_pos ⟨Int.le_of_lt h, fun z => by have := ha.1.2; omega⟩]
theorem carried_last {a b : Ed} (ha : a.ok) (hb : b.ok) (h : b.last < a.first) : carriedV a b = some (a.plus b.growth) := by
  unfold carriedV
  rw [if_neg (fun z => by have := ha.1.2; have := hb.1.2; have := z.1; omega), if_pos (Int.le_of_lt h)]
theorem carried_none {a b : Ed} (h1 : a.first < b.last) (h2 : b.first < a.last) : carriedV a b = none := by
  unfold carriedV
  rw [if_neg (fun z => by have := z.1; omega), if_neg (by omega)]
theorem carried_kept {a b m : Ed} (h : carriedV a b = some m) : m.words = a.words ∧ m.growth = a.growth := by
  unfold carriedV at h
  split at h
  · cases h; exact ⟨rfl, rfl⟩
  · split at h
    · cases h; exact ⟨rfl, plus_growth _ _⟩
    · cases h
theorem carried_nil {m : Ed} (h : m.ok) : carriedV m ⟨0, 0, []⟩ = some m := by
  unfold carriedV
  split
  · rfl
  · rw [if_pos (show (0 : Int) ≤ m.first from h.1.1)]
    show some (m.plus (0 - (0 - 0))) = some m
    rw [show (0 : Int) - (0 - 0) = 0 from rfl, plus_zero]
/-- the two edits apart: each behind the other -/
theorem carried_apart {a b : Ed} {ws : List Str} (ha : a.ok) (hb : b.ok) (la : a.last ≤ ws.length) (lb : b.last ≤ ws.length) (h : a.last < b.first ∨ b.last < a.first) :
    ∃ m y, carriedV a b = some m ∧ carriedV b a = some y ∧ m.ok ∧ y.ok ∧ m.run (b.run ws) = y.run (a.run ws) ∧ m.last ≤ (b.run ws).length ∧ y.last ≤ (a.run ws).length := by
  rcases h with h | h
  · refine ⟨a, b.plus a.growth, carried_first ha h, carried_last hb ha h, ha, ⟨⟨?_, ?_⟩, hb.2⟩, apart ha hb lb (Int.le_of_lt h), ?_, ?_⟩
    · show 0 ≤ b.first + a.growth
      unfold Ed.growth
      have := ha.1.1
      have := ha.1.2
      omega
    · show b.first + a.growth ≤ b.last + a.growth
      have := hb.1.2
      omega
    · rw [run_length hb lb]
      unfold Ed.growth
      have := hb.1.2
      omega
    · rw [run_length ha la]
      show b.last + a.growth ≤ _
      omega
  · refine ⟨a.plus b.growth, b, carried_last ha hb h, carried_first hb h, ⟨⟨?_, ?_⟩, ha.2⟩, hb, (apart hb ha la (Int.le_of_lt h)).symm, ?_, ?_⟩
    · show 0 ≤ a.first + b.growth
      unfold Ed.growth
      have := hb.1.1
      have := hb.1.2
      omega
    · show a.first + b.growth ≤ a.last + b.growth
      have := ha.1.2
      omega
    · rw [run_length hb lb]
      show a.last + b.growth ≤ _
      omega
    · rw [run_length ha la]
      unfold Ed.growth
      have := ha.1.2
      omega
/-- the law's four turns -/
def lsAt (ns : List Int) (c : Int) (ws : List Str) : Nat → Int × List Str
  | 0 => (c, ws)
  | k + 1 => (editC ns (lsAt ns c ws k).1, (editV ns (lsAt ns c ws k).1 (lsAt ns c ws k).2.length).run (lsAt ns c ws k).2)
def edAt (ns : List Int) (c : Int) (ws : List Str) (k : Nat) : Ed := editV ns (lsAt ns c ws k).1 (lsAt ns c ws k).2.length
def backAt (ns : List Int) (c : Int) (ws : List Str) (k : Nat) : List Ed := (List.range k).map fun i => (edAt ns c ws i).undone (lsAt ns c ws i).2
theorem editV_fits {ns : List Int} {c : Int} {ws : List Str} (h : okWords ws) (hl : ws.length ≤ 200) : (editV ns c ws.length).fits ws := ⟨editV_ok, h, hl, edLast_hi, Nat.le_trans editV_len (by decide)⟩
theorem editV_run {ns : List Int} {c : Int} {ws : List Str} : ((editV ns c ws.length).run ws).length ≤ ws.length + 2 := by
  have h := run_length (e := editV ns c ws.length) (ws := ws) editV_ok edLast_hi
  have h2 := editV_len (ns := ns) (c := c) (n := ws.length)
  have h3 := (editV_ok (ns := ns) (c := c) (n := ws.length)).1.2
  unfold Ed.growth at h
  omega
theorem lsAt_ok {ns : List Int} {c : Int} {ws : List Str} (h0 : 0 ≤ c) (h : okWords ws) (hl : ws.length ≤ 8) : ∀ k, 0 ≤ (lsAt ns c ws k).1 ∧ okWords (lsAt ns c ws k).2 ∧ (lsAt ns c ws k).2.length ≤ 8 + 2 * k
  | 0 => ⟨h0, h, hl⟩
  | k + 1 => by
    obtain ⟨h1, h2, h3⟩ := lsAt_ok h0 h hl k
    refine ⟨editC_lo h1, run_words editV_ok h2, ?_⟩
    have := editV_run (ns := ns) (c := (lsAt ns c ws k).1) (ws := (lsAt ns c ws k).2)
    show ((editV ns (lsAt ns c ws k).1 (lsAt ns c ws k).2.length).run (lsAt ns c ws k).2).length ≤ _
    omega
theorem backAt_succ {ns : List Int} {c : Int} {ws : List Str} {k : Nat} : backAt ns c ws (k + 1) = backAt ns c ws k ++ [(edAt ns c ws k).undone (lsAt ns c ws k).2] := by
  unfold backAt
  rw [List.range_succ, List.map_append]
  rfl
theorem backAt_rev {ns : List Int} {c : Int} {ws : List Str} {n k : Nat} {y : Ed} (h : (backAt ns c ws n).reverse[k]? = some y) : k < n ∧ y = (edAt ns c ws (n - 1 - k)).undone (lsAt ns c ws (n - 1 - k)).2 := by
  have hl : (backAt ns c ws n).length = n := by unfold backAt; rw [List.length_map, List.length_range]
  have hk : k < n := by
    rcases Nat.lt_or_ge k n with z | z
    · exact z
    · rw [List.getElem?_eq_none (by rw [List.length_reverse, hl]; exact z)] at h; cases h
  refine ⟨hk, ?_⟩
  rw [List.getElem?_reverse (by rw [hl]; exact hk), hl] at h
  unfold backAt at h
  rw [List.getElem?_map, List.getElem?_range (by omega)] at h
  exact (Option.some.inj h).symm
end K35

namespace K35
open PySem L2 Gd
abbrev sLaw : Stmt := top 26
section
variable {P : Program} {w : World} {K : Fg} {mg : Str → Option Value} {base : Heap} {C : Addr}
abbrev lawN : List Str := ["_law_script", "_law_draw_here", "_law_turn", "_law_words", "_law_now", "_law_back", "_law_edit_here", "_law_gap", "_law_last", "_law_one", "_law_two", "_law_mine", "_law_yours", "_law_three"]
theorem scLaw : FnScope lawN ["_law_script"] (defScope sLaw) := ⟨rfl, rfl, rfl, by decide +kernel, rfl, by decide +kernel, by decide +kernel⟩
def fsLaw : FS (List Int) := { args := fun i => [sLstK sInt i], pre := fun _ => True, res := fun _ => sBl true }
/-- all that the law's body rests on -/
structure LawC (P : Program) (w : World) (K : Fg) (mg : Str → Option Value) (base : Heap) (C : Addr) where
  T : Bt mg
  Cc : Cs K mg
  EC : EdC K mg C
  fN : Addr
  gN : mg "_law_next" = some (.ref fN)
  FN : DefOk P w K mg base 3 fN [] fsNext
  fP : Addr
  gP : mg "_law_pick" = some (.ref fP)
  FP : DefOk P w K mg base 4 fP [] (fsPick sStr)
  fE : Addr
  gE : mg "_law_edit" = some (.ref fE)
  FE : DefOk P w K mg base 5 fE [] (fsEdit C)
  fS : Addr
  gS : mg "shrunk" = some (.ref fS)
  FS : DefOk P w K mg base 5 fS [] (fsShrunk C)
  fR : Addr
  gR : mg "carried" = some (.ref fR)
  FR : DefOk P w K mg base 6 fR [] (fsCarried C)
  fC : Addr
  mC : StX.CallO K C fC
  FC : DefOk P w K mg base 4 fC [] (fsCall C)
  fU : Addr
  mU : Meth K C "undone" fU
  FU : DefOk P w K mg base 5 fU [] (fsUndone C)
  fG : Addr
  mG : Meth K C "growth" fG
  FG : DefOk P w K mg base 1 fG [] (fsGrowth C)
  fI : Addr
  M : Mk K C fI
  FI : DefOk P w K mg base 3 fI [] (fsInit C)
  fQ : Addr
  sQ : PySem.W.findIn K (.ref C) "__eq__" = some (some (.ref fQ))
  nQ : PySem.W.isFn K (.ref fQ) = true
  FQ : DefOk P w K mg base 1 fQ [] (fsEq C)
  hO : ClsO K C
  hne : PySem.W.findIn K (.ref C) "__ne__" = some (some (.builtin "object.__ne__"))
  fL : Addr
  sL : PySem.W.findIn K (.ref C) "__len__" = some (some (.ref fL))
  nL : PySem.W.isFn K (.ref fL) = true
  FL : DefOk P w K mg base 1 fL [] (fsLen C)
  fB : Addr
  sB : PySem.W.findIn K (.ref C) "__bool__" = some (some (.ref fB))
  nB : PySem.W.isFn K (.ref fB) = true
  FB : DefOk P w K mg base 1 fB [] (fsBool C)
def lawNs (xs : List Int) : List Int := cutA xs none (some 63)
def lawM (ns : List Int) : Int := nextV ns 0 9
def lawWs (ns : List Int) : List Str := (List.range (lawM ns).toNat).map fun k : Nat => pickV six ns (0 + 1 + k)
def lawC1 (ns : List Int) : Int := 0 + 1 + ((lawM ns).toNat : Nat)
theorem lawWs_ok {ns : List Int} : okWords (lawWs ns) := fun t ht => by
  obtain ⟨k, _, rfl⟩ := List.mem_map.mp ht
  exact ok_six _ (pick_mem (by decide))
theorem lawM_hi {ns : List Int} : 0 ≤ lawM ns ∧ lawM ns < 9 := ⟨nextV_lo (by decide), nextV_hi (by decide)⟩
theorem lawWs_len {ns : List Int} : (lawWs ns).length ≤ 8 := by
  have := lawM_hi (ns := ns)
  unfold lawWs
  rw [List.length_map, List.length_range]
  omega
theorem ok_law {f : Addr} {fd : FuncData} (F : Fun K "law" "law" sLaw f fd) (L : LawC P w K mg base C) : FnOk P w K mg base CX0 7 f fd ["_law_script"] (fsLaw.sp K) := by
  refine fn_okF F scLaw (fun _ => rfl) fun xs cdv A outer s G H D EE hr hp hf hn => ?_
  have hr5 : Room 5 _ := hr.mono (by decide)
  have hr4 : Room 4 _ := hr.mono (by decide)
  have hr3 : Room 3 _ := hr.mono (by decide)
  have hr2 : Room 2 _ := hr.mono (by decide)
  have hr1 : Room 1 _ := hr.mono (by decide)
  refine j_setW (O1 := []) 1 (ew_lstS (ss := [sLst sInt (lawNs xs), sInt 0, sInt 0]) (ea_cons (e_lst (ew_sliceK (e_name 0) po_n (po_s e_int))) (ea_cons e_int (ea_cons e_int ea_nil))) (szl (by simp))) (fun dr hdr => ?_) scLaw.nd
  generalize lawNs xs = ns
  have hm := lawM_hi (ns := ns)
  have hlr : (List.range (lawM ns).toNat).length = (lawM ns).toNat := List.length_range
  refine j_setComp (S := sStr) (R := fun k : Nat => sInt k) (as := List.range (lawM ns).toNat) 3 2 (fun k => [dO dr ns (0 + 1 + (k : Nat))]) (fun k => [dO dr ns (0 + 1 + (k : Nat))]) (fun _ => true) (fun n => (List.range n).map fun k : Nat => pickV six ns (0 + 1 + k)) scLaw.nd
    (it_range (O1 := [dO dr ns (0 + 1 + (0 : Nat))]) L.T.range (e_callR (S := fsNext) (O2 := []) (dr, ns, 0, 9) L.FN hr3 L.gN (ea_cons (e_name 1) (ea_cons e_int ea_nil)) (by show (0 : Int) ≤ 0 ∧ (0 : Int) < 9; omega) rfl rfl) (by omega) (by omega))
    (blkOk_by (own := [("_law_turn", 2)]) (N := lawN) (sc := defScope sLaw) (by decide +kernel))
    (fun k y hy s H _ cl fp => ts_nil)
    (fun k y hy _ => ⟨pickV six ns (0 + 1 + k), by rw [List.range_succ, List.map_append]; rfl, fun s H _ cl fp => e_callR (S := fsPick sStr) (O2 := []) (dr, ns, 0 + 1 + (k : Int), six, pickV six ns (0 + 1 + k)) L.FP hr4 L.gP (ea_cons (e_name 1) (ea_cons (e_lst (ew_lst (R := sStr) (el_cons e_str (el_cons e_str (el_cons e_str (el_cons e_str (el_cons e_str (el_cons e_str el_nil)))))) (szl (by simp)))) ea_nil)) (by
      show 0 ≤ 0 + 1 + (k : Int) ∧ _
      exact ⟨by omega, pick_some (ws := six) (by decide)⟩) rfl (by
      show [dO dr ns (0 + 1 + (k : Int) + 1)] = [dO dr ns (0 + 1 + ((k + 1 : Nat) : Int))]
      rw [Int.natCast_add, ← Int.add_assoc]
      rfl)⟩) (fun k _ h => by cases h) rfl (szl (by rw [hlr]; omega)) (fun wr hwr => ?_)
  rw [hlr]
  show J _ _ _ [oLst wr sStr (lawWs ns), dO dr ns (lawC1 ns)] _ _
  refine j_freeze 3 (s := sLst sStr (lawWs ns)) rfl hwr (fun K G o => frz_lst K G wr o) ?_
  have hws := lawWs_ok (ns := ns)
  have hwl := lawWs_len (ns := ns)
  have hc1 : 0 ≤ lawC1 ns := by unfold lawC1; omega
  generalize lawWs ns = ws at hws hwl
  generalize lawC1 ns = c at hc1
  have hls := lsAt_ok (ns := ns) hc1 hws hwl
  have hlen : ∀ k, k ≤ 4 → (lsAt ns c ws k).2.length ≤ 16 := fun k hk => by have := (hls k).2.2; omega
  refine j_parW (O1 := [dO dr ns c]) 4 5 (e_name 3) (ew_lst (R := sEd C) el_nil (szl (by simp))) (fun bk hbk => ?_) scLaw.nd
  refine j_swap ?_
  refine j_for (O1 := [dO dr ns c, oLst bk (sEd C) []]) (R := fun k : Nat => sInt k) (as := List.range (4 : Int).toNat) (fun n (g : Nat) => g = n) (fun g => [some (sLstK sInt xs), some (sRef dr), none, some (sLst sStr ws), some (sLst sStr (lsAt ns c ws g).2), some (sRef bk), none, none, none, none, none, none, none, none]) (fun g => [dO dr ns (lsAt ns c ws g).1, oLst bk (sEd C) (backAt ns c ws g)]) (fun y => [(2, sInt y)])
    (it_range L.T.range e_int (by decide) (by decide)) (tg_name 2 scLaw.nd) ⟨0, rfl, fun _ _ _ _ h => h.wk (.same (.same (.skip (.same (.same (.same (.same (.same (.same (.same (.same (.same (.same (.same .nil))))))))))))))⟩ ?_ ?_
  · rintro B1 n y g hB hy rfl
    have hg : g < 4 := by
      rcases Nat.lt_or_ge g 4 with z | z
      · exact z
      · rw [List.getElem?_eq_none (by rw [List.length_range]; exact z)] at hy; cases hy
    obtain ⟨i1, i2, i3⟩ := hls g
    have hl := hlen g (by omega)
    have hft : (edAt ns c ws g).fits (lsAt ns c ws g).2 := editV_fits i2 (by omega)
    refine j_set 6 (O1 := [dO dr ns (lsAt ns c ws (g + 1)).1, oLst bk (sEd C) (backAt ns c ws g)]) (s := sEd C (edAt ns c ws g)) (e_call (S := fsEdit C) (O2 := [oLst bk (sEd C) (backAt ns c ws g)]) (dr, ns, (lsAt ns c ws g).1, (lsAt ns c ws g).2) L.FE hr5 L.gE (ea_cons (e_name 1) (ea_cons (e_name 4) ea_nil)) i1) ?_ scLaw.nd
    refine j_expr (e_append (R := sEd C) (as := backAt ns c ws g) (y := (edAt ns c ws g).undone (lsAt ns c ws g).2) 1 (e_name 5) (e_meth (S := fsUndone C) (O2 := [dO dr ns (lsAt ns c ws (g + 1)).1, oLst bk (sEd C) (backAt ns c ws g)]) (edAt ns c ws g, (lsAt ns c ws g).2) L.FU hr5 L.EC.cl L.mU (e_name 6) (ea_cons (e_name 4) ea_nil) hft) ?_) ?_
    · unfold backAt
      rw [List.length_map, List.length_range]
      exact Nat.lt_of_lt_of_le hg (by decide)
    refine j_set 4 (O1 := [dO dr ns (lsAt ns c ws (g + 1)).1, oLst bk (sEd C) (backAt ns c ws g ++ [(edAt ns c ws g).undone (lsAt ns c ws g).2])]) (s := sLst sStr (lsAt ns c ws (g + 1)).2) (e_callO (S := fsCall C) (edAt ns c ws g, (lsAt ns c ws g).2) L.mC L.FC hr4 (e_name 6) (ea_cons (e_name 4) ea_nil) hft) ?_ scLaw.nd
    refine j_nil fun σ G H st => ⟨g + 1, G, rfl, ?_⟩
    show Sta K B1 _ [dO dr ns (lsAt ns c ws (g + 1)).1, oLst bk (sEd C) (backAt ns c ws (g + 1))] σ G H
    rw [backAt_succ]
    have st : Sta K B1 [some (sLstK sInt xs), some (sRef dr), some (sInt y), some (sLst sStr ws), some (sLst sStr (lsAt ns c ws (g + 1)).2), some (sRef bk), some (sEd C (edAt ns c ws g)), none, none, none, none, none, none, none] [dO dr ns (lsAt ns c ws (g + 1)).1, oLst bk (sEd C) (backAt ns c ws g ++ [(edAt ns c ws g).undone (lsAt ns c ws g).2])] σ G H := st
    exact st.wk (.same (.same (.skip (.same (.same (.same (.skip (.same (.same (.same (.same (.same (.same (.same .nil))))))))))))))
  · rintro g rfl
    show J _ _ [some (sLstK sInt xs), some (sRef dr), none, some (sLst sStr ws), some (sLst sStr (lsAt ns c ws 4).2), some (sRef bk), none, none, none, none, none, none, none, none] [dO dr ns (lsAt ns c ws 4).1, oLst bk (sEd C) (backAt ns c ws 4)] _ _
    refine j_swap ?_
    refine j_freeze 5 (s := sLst (sEd C) (backAt ns c ws 4)) rfl hbk (fun K G o => frz_lst K G bk o) ?_
    obtain ⟨q1, q2, -⟩ := hls 4
    have q3 := hlen 4 (Nat.le_refl 4)
    have key : ∀ k y, (backAt ns c ws 4).reverse[k]? = some y → y.fits (lsAt ns c ws (4 - k)).2 ∧ y.run (lsAt ns c ws (4 - k)).2 = (lsAt ns c ws (4 - (k + 1))).2 := by
      intro k y hy
      obtain ⟨hk, rfl⟩ := backAt_rev hy
      have e1 : 4 - k = (4 - 1 - k) + 1 := by omega
      have e2 : 4 - (k + 1) = 4 - 1 - k := by omega
      have hi : 4 - 1 - k ≤ 3 := by omega
      rw [e1, e2]
      generalize 4 - 1 - k = i at hi
      obtain ⟨i1, i2, i3⟩ := hls i
      have hft : (edAt ns c ws i).fits (lsAt ns c ws i).2 := editV_fits i2 (by omega)
      have hl2 : ((edAt ns c ws i).run (lsAt ns c ws i).2).length ≤ 200 := by
        have := hlen (i + 1) (by omega)
        show (lsAt ns c ws (i + 1)).2.length ≤ 200
        omega
      exact ⟨undone_fits hft hl2, undone_run hft.1 hft.2.2.2.1⟩
    have hbl : (backAt ns c ws 4).reverse.length = 4 := by
      unfold backAt
      rw [List.length_reverse, List.length_map, List.length_range]
    generalize hnow : (lsAt ns c ws 4).2 = now at q2 q3
    generalize (lsAt ns c ws 4).1 = cc at q1
    generalize hback : backAt ns c ws 4 = back at key hbl
    have hgf : (shrunkV ws now).fits ws := shrunk_fits hws q2 (by omega) (by omega)
    have hgr := shrunk_run ws now
    refine j_par (s1 := sEd C (shrunkV ws now)) (s2 := sLst sStr now) (O1 := [dO dr ns cc]) (O2 := [dO dr ns cc]) 7 8 (e_call (S := fsShrunk C) (O2 := [dO dr ns cc]) (ws, now) L.FS hr5 L.gS (ea_cons (e_name 3) (ea_cons (e_name 4) ea_nil)) ⟨⟨hws, by show ws.length ≤ 200; omega⟩, ⟨q2, by show now.length ≤ 200; omega⟩⟩) (e_name 4) ?_ scLaw.nd
    refine j_for (O1 := [dO dr ns cc]) (R := sEd C) (as := back.reverse) (fun n (g : Nat) => g = n) (fun g => [some (sLstK sInt xs), some (sRef dr), none, some (sLst sStr ws), some (sLst sStr now), some (sLst (sEd C) back), none, some (sEd C (shrunkV ws now)), some (sLst sStr (lsAt ns c ws (4 - g)).2), none, none, none, none, none]) (fun _ => [dO dr ns cc]) (fun y => [(6, sEd C y)])
      (it_lst (e_lst (ew_rev (e_name 5)))) (tg_name 6 scLaw.nd) ⟨0, rfl, fun B σ G H h => by
        show Sta K B [_, _, _, _, _, _, _, _, some (sLst sStr (lsAt ns c ws 4).2), _, _, _, _, _] _ _ _ _
        rw [hnow]
        exact h⟩ ?_ ?_
    · rintro B1 n y g hB hy rfl
      obtain ⟨k1, k2⟩ := key g y hy
      refine j_set 8 (O1 := [dO dr ns cc]) (s := sLst sStr (lsAt ns c ws (4 - (g + 1))).2) (e_eq (e_callO (S := fsCall C) (y, (lsAt ns c ws (4 - g)).2) L.mC L.FC hr4 (e_name 6) (ea_cons (e_name 8) ea_nil) k1) (by
        show sLst sStr (y.run (lsAt ns c ws (4 - g)).2) = _
        rw [k2])) ?_ scLaw.nd
      refine j_nil fun σ G H st => ⟨g + 1, G, rfl, ?_⟩
      have st : Sta K B1 [some (sLstK sInt xs), some (sRef dr), none, some (sLst sStr ws), some (sLst sStr now), some (sLst (sEd C) back), some (sEd C y), some (sEd C (shrunkV ws now)), some (sLst sStr (lsAt ns c ws (4 - (g + 1))).2), none, none, none, none, none] [dO dr ns cc] σ G H := st
      exact st.wk (.same (.same (.same (.same (.same (.same (.skip (.same (.same (.same (.same (.same (.same (.same .nil))))))))))))))
    · rintro g rfl
      rw [hbl]
      show J _ _ [some (sLstK sInt xs), some (sRef dr), none, some (sLst sStr ws), some (sLst sStr now), some (sLst (sEd C) back), none, some (sEd C (shrunkV ws now)), some (sLst sStr ws), none, none, none, none, none] _ _ _
      have hgf2 : ((shrunkV ws now).undone ws).fits now := by
        have := undone_fits hgf (by rw [hgr]; omega)
        rwa [hgr] at this
      have hgr2 : ((shrunkV ws now).undone ws).run now = ws := by
        have := undone_run hgf.1 hgf.2.2.2.1
        rwa [hgr] at this
      have hem : (Ed.mk ws.length ws.length []).ok := ⟨⟨by show (0 : Int) ≤ ws.length; omega, Int.le_refl _⟩, fun t ht => (by cases ht), by show 0 ≤ 100000; omega⟩
      refine j_if (O1 := [dO dr ns cc]) (u := false) (t_eq (t_w (tw_or2 (t_cmp (o_neL hr hws.str hws.str) (e_name 8) (e_name 3))
        (tw_or2 (t_cmp (o_neL (ts := (shrunkV ws now).run ws) hr (by rw [hgr]; exact q2.str) q2.str) (e_callO (S := fsCall C) (shrunkV ws now, ws) L.mC L.FC hr4 (e_name 7) (ea_cons (e_name 3) ea_nil) hgf) (e_name 4))
        (tw_or2 (t_cmp (o_neL (ts := ((shrunkV ws now).undone ws).run now) hr (by rw [hgr2]; exact hws.str) hws.str) (e_callO (S := fsCall C) ((shrunkV ws now).undone ws, now) L.mC L.FC hr4 (e_meth (S := fsUndone C) (O2 := [dO dr ns cc]) (shrunkV ws now, ws) L.FU hr5 L.EC.cl L.mU (e_name 7) (ea_cons (e_name 3) ea_nil) hgf) (ea_cons (e_name 4) ea_nil) hgf2) (e_name 3))
        (tw_or1 (t_cmp (o_neO (S := fsEq C) (shrunkV ws ws, ⟨ws.length, ws.length, []⟩) L.sQ L.nQ L.hO L.hne L.FQ hr2 ⟨by rw [shrunk_same]; exact hem, hem⟩) (e_call (S := fsShrunk C) (O2 := [dO dr ns cc]) (ws, ws) L.FS hr5 L.gS (ea_cons (e_name 3) (ea_cons (e_name 3) ea_nil)) ⟨⟨hws, by show ws.length ≤ 200; omega⟩, ⟨hws, by show ws.length ≤ 200; omega⟩⟩)
          (e_edit (ws := []) false L.M L.FI hr4 L.EC.gC hem (ea_cons (e_callB c_len L.T.len PySem.boot_len (ea_cons (e_name 3) ea_nil)) (ea_cons (e_callB c_len L.T.len PySem.boot_len (ea_cons (e_name 3) ea_nil)) (ea_cons (e_lst (ew_lst el_nil (szl (by simp)))) ea_nil)))))))))) (by
        rw [hgr, hgr2, shrunk_same]
        simp)) (fun h => nomatch h) (fun _ => j_on ?_)
      have hgl := hgf.2.2.2.2
      have hsz := shrunk_size ws now
      refine j_if (O1 := [dO dr ns cc]) (u := false) (t_eq (t_w (tw_or2 (t_cmp o_gt (e_bin o_sub (e_bin o_add (e_callB (c_lenO (S := fsLen C) (n := ((shrunkV ws now).words.length : Int)) (shrunkV ws now) L.sL L.nL L.FL hr2 trivial (by omega)) L.T.len PySem.boot_len (ea_cons (e_name 7) ea_nil)) (e_fld 1 L.EC.cl L.EC.nL (e_name 7))) (e_fld 0 L.EC.cl L.EC.nF (e_name 7)))
          (e_bin o_add (e_callB c_len L.T.len PySem.boot_len (ea_cons (e_name 3) ea_nil)) (e_callB c_len L.T.len PySem.boot_len (ea_cons (e_name 4) ea_nil))))
        (tw_or2 (t_cmp o_neB (e_callTy (c_boolO (S := fsBool C) (u := (shrunkV ws now).truth) (shrunkV ws now) L.sB L.nB L.FB hr3 trivial) L.Cc.bool (by decide +kernel) (ea_cons (e_name 7) ea_nil)) (e_cmp (o_neL hr hws.str q2.str) (e_name 3) (e_name 4)))
        (tw_or1 (t_cmp o_neB (e_callTy (c_boolO (S := fsBool C) (u := (shrunkV now ws).truth) (shrunkV now ws) L.sB L.nB L.FB hr3 trivial) L.Cc.bool (by decide +kernel) (ea_cons (e_call (S := fsShrunk C) (O2 := [dO dr ns cc]) (now, ws) L.FS hr5 L.gS (ea_cons (e_name 4) (ea_cons (e_name 3) ea_nil)) ⟨⟨q2, by show now.length ≤ 200; omega⟩, ⟨hws, by show ws.length ≤ 200; omega⟩⟩) ea_nil)) (e_cmp (o_neL hr hws.str q2.str) (e_name 3) (e_name 4))))))) (by
        rw [shrunk_truth, shrunk_truth]
        have hz : decide ((ws.length : Int) + now.length < ((shrunkV ws now).words.length : Int) + (shrunkV ws now).last - (shrunkV ws now).first) = false := decide_eq_false (by omega)
        rw [hz]
        by_cases e : ws = now
        · subst e; simp
        · have e' : now ≠ ws := fun z => e z.symm
          simp [e, e'])) (fun h => nomatch h) (fun _ => j_on ?_)
      clear key hback hbl hsz hgl hgr2 hgf2 hgr hgf
      refine j_par (s1 := sEd C (editV ns cc ws.length)) (s2 := sEd C (editV ns (editC ns cc) ws.length)) (O1 := [dO dr ns (editC ns cc)]) (O2 := [dO dr ns (editC ns (editC ns cc))]) 9 10 (e_call (S := fsEdit C) (O2 := []) (dr, ns, cc, ws) L.FE hr5 L.gE (ea_cons (e_name 1) (ea_cons (e_name 3) ea_nil)) q1) (e_call (S := fsEdit C) (O2 := []) (dr, ns, editC ns cc, ws) L.FE hr5 L.gE (ea_cons (e_name 1) (ea_cons (e_name 3) ea_nil)) (editC_lo q1)) ?_ scLaw.nd
      have f1 : (editV ns cc ws.length).fits ws := editV_fits hws (by omega)
      have f2 : (editV ns (editC ns cc) ws.length).fits ws := editV_fits hws (by omega)
      have g1 : ((editV ns cc ws.length).run ws).length ≤ ws.length + 2 := editV_run
      have g2 : ((editV ns (editC ns cc) ws.length).run ws).length ≤ ws.length + 2 := editV_run
      generalize editV ns cc ws.length = one at f1 g1
      generalize editV ns (editC ns cc) ws.length = two at f2 g2
      generalize editC ns (editC ns cc) = c3
      refine j_par (s1 := sOpt (sEd C) (carriedV one two)) (s2 := sOpt (sEd C) (carriedV two one)) (O1 := [dO dr ns c3]) (O2 := [dO dr ns c3]) 11 12 (e_call (S := fsCarried C) (O2 := [dO dr ns c3]) (one, two) L.FR hr L.gR (ea_cons (e_name 9) (ea_cons (e_name 10) ea_nil)) ⟨f1.1, f2.1⟩) (e_call (S := fsCarried C) (O2 := [dO dr ns c3]) (two, one) L.FR hr L.gR (ea_cons (e_name 10) (ea_cons (e_name 9) ea_nil)) ⟨f2.1, f1.1⟩) ?_ scLaw.nd
      have notN : ∀ (m : Ed) (K : Fg) (G : Hp) (v : V), (sEd C m).ok K G v → decide (v = V.non) = false := fun m K G v h => decide_eq_false (ins_notN h)
      refine j_if (O1 := [dO dr ns c3]) (t_w (tw_or2 (t_cmp o_lt (e_fld 1 L.EC.cl L.EC.nL (e_name 9)) (e_fld 0 L.EC.cl L.EC.nF (e_name 10))) (tw_or1 (t_cmp o_lt (e_fld 1 L.EC.cl L.EC.nL (e_name 10)) (e_fld 0 L.EC.cl L.EC.nF (e_name 9)))))) (fun h => ?_) (fun h => j_on ?_)
      · have h : one.last < two.first ∨ two.last < one.first := by simpa using h
        obtain ⟨m, y, e1, e2, mo, yo, hrun, ml, yl⟩ := carried_apart f1.1 f2.1 f1.2.2.2.1 f2.2.2.2.1 h
        have k1 := carried_kept e1
        have k2 := carried_kept e2
        have w2 : okWords (two.run ws) := run_words f2.1 hws
        have w1 : okWords (one.run ws) := run_words f1.1 hws
        have fm : m.fits (two.run ws) := ⟨mo, w2, by omega, ml, by rw [k1.1]; exact f1.2.2.2.2⟩
        have fy : y.fits (one.run ws) := ⟨yo, w1, by omega, yl, by rw [k2.1]; exact f2.2.2.2.2⟩
        rw [e1, e2]
        show J _ _ [some (sLstK sInt xs), some (sRef dr), none, some (sLst sStr ws), some (sLst sStr now), some (sLst (sEd C) back), none, some (sEd C (shrunkV ws now)), some (sLst sStr ws), some (sEd C one), some (sEd C two), some (sEd C m), some (sEd C y), none] _ _ _
        refine j_if (O1 := [dO dr ns c3]) (u := false) (t_eq (t_w (tw_or2 (t_cmp (o_isN (k := false) (notN m)) (e_name 11) e_non) (tw_or2 (t_cmp (o_isN (k := false) (notN y)) (e_name 12) e_non)
          (tw_or2 (t_cmp (o_neL (ts := m.run (two.run ws)) (us := y.run (one.run ws)) hr (run_words mo w2).str (run_words yo w1).str)
            (e_callO (S := fsCall C) (m, two.run ws) L.mC L.FC hr4 (e_name 11) (ea_cons (e_callO (S := fsCall C) (two, ws) L.mC L.FC hr4 (e_name 10) (ea_cons (e_name 3) ea_nil) f2) ea_nil) fm)
            (e_callO (S := fsCall C) (y, one.run ws) L.mC L.FC hr4 (e_name 12) (ea_cons (e_callO (S := fsCall C) (one, ws) L.mC L.FC hr4 (e_name 9) (ea_cons (e_name 3) ea_nil) f1) ea_nil) fy))
          (tw_or1 (t_cmp (o_neT hr mo.2.1.str f1.1.2.1.str) (e_fld 2 L.EC.cl L.EC.nW (e_name 11)) (e_fld 2 L.EC.cl L.EC.nW (e_name 9)))))))) (by
            rw [hrun, k1.1]
            simp)) (fun h => nomatch h) (fun _ => j_on ?_)
        have h0 : (Ed.mk 0 0 []).ok := ⟨⟨Int.le_refl _, Int.le_refl _⟩, fun t ht => (by cases ht), by show 0 ≤ 100000; omega⟩
        refine j_set 13 (s := sEd C m) (O1 := [dO dr ns c3]) (e_callR (S := fsCarried C) (O2 := [dO dr ns c3]) (m, ⟨0, 0, []⟩) L.FR hr L.gR (ea_cons (e_callR (s := sEd C m) (S := fsCarried C) (O2 := [dO dr ns c3]) (one, two) L.FR hr L.gR (ea_cons (e_name 9) (ea_cons (e_name 10) ea_nil)) ⟨f1.1, f2.1⟩ (by show sOpt (sEd C) (carriedV one two) = _; rw [e1]; rfl))
          (ea_cons (e_edit (ws := []) false L.M L.FI hr4 L.EC.gC h0 (ea_cons e_int (ea_cons e_int (ea_cons (e_lst (ew_lst el_nil (szl (by simp)))) ea_nil)))) ea_nil)) ⟨mo, h0⟩ (by show sOpt (sEd C) (carriedV m ⟨0, 0, []⟩) = _; rw [carried_nil mo]; rfl)) ?_ scLaw.nd
        refine j_ret (O1 := [dO dr ns c3]) (e_and2 (e_cmp (o_eqL (ts := m.run (two.run ws)) (us := m.run (two.run ws)) hr (run_words mo w2).str (run_words mo w2).str)
            (e_callO (S := fsCall C) (m, two.run ws) L.mC L.FC hr4 (e_name 13) (ea_cons (e_callO (S := fsCall C) (two, ws) L.mC L.FC hr4 (e_name 10) (ea_cons (e_name 3) ea_nil) f2) ea_nil) fm)
            (e_callO (S := fsCall C) (m, two.run ws) L.mC L.FC hr4 (e_name 11) (ea_cons (e_callO (S := fsCall C) (two, ws) L.mC L.FC hr4 (e_name 10) (ea_cons (e_name 3) ea_nil) f2) ea_nil) fm))
          (e_one (e_cmp o_eq (e_meth0 (S := fsGrowth C) (O2 := [dO dr ns c3]) m L.FG hr1 L.EC.cl L.mG (e_name 11) trivial) (e_meth0 (S := fsGrowth C) (O2 := [dO dr ns c3]) one L.FG hr1 L.EC.cl L.mG (e_name 9) trivial)))) (fin_ret hf (fun w hw => nomatch hw) fun G v hv => ?_)
        have hv : v = V.bl (decide (m.run (two.run ws) = m.run (two.run ws)) && decide (m.growth = one.growth)) := hv
        show v = V.bl true
        rw [hv, k1.2]
        simp
      · have h : ¬ (one.last < two.first ∨ two.last < one.first) := by simpa using h
        refine j_if (O1 := [dO dr ns c3]) (t_w (tw_and2 (t_cmp o_lt (e_fld 0 L.EC.cl L.EC.nF (e_name 9)) (e_fld 1 L.EC.cl L.EC.nL (e_name 10))) (tw_and1 (t_cmp o_lt (e_fld 0 L.EC.cl L.EC.nF (e_name 10)) (e_fld 1 L.EC.cl L.EC.nL (e_name 9)))))) (fun h => ?_) (fun h => j_on ?_)
        · have h : one.first < two.last ∧ two.first < one.last := by simpa using h
          refine j_ret (O1 := [dO dr ns c3]) (e_and2 (e_cmp (o_isO fun a K G v q => ins_notN q) (e_name 11) e_non) (e_one (e_cmp (o_isO fun a K G v q => ins_notN q) (e_name 12) e_non))) (fin_ret hf (fun w hw => nomatch hw) fun G v hv => ?_)
          have hv : v = V.bl ((carriedV one two).isNone && (carriedV two one).isNone) := hv
          show v = V.bl true
          rw [hv, carried_none h.1 h.2, carried_none h.2 h.1]
          rfl
        · cases e1 : carriedV one two with
          | none =>
            refine j_ret (O1 := [dO dr ns c3]) (s := sBl true) (e_orT (e_cmp (o_isN (k := true) (s := sNon) fun K G v q => decide_eq_true q) (e_name 11) e_non)) (fin_ret hf (fun w hw => nomatch hw) fun G v hv => hv)
          | some m =>
            have k1 := carried_kept e1
            refine j_ret (O1 := [dO dr ns c3]) (e_or2 (e_cmp (o_isN (k := false) (s := sEd C m) (notN m)) (e_name 11) e_non) (e_one (e_and2 (e_cmp (o_eqT hr (ts := m.words) (by rw [k1.1]; exact f1.1.2.1.str) f1.1.2.1.str) (e_fld 2 L.EC.cl L.EC.nW (e_name (s := sEd C m) 11)) (e_fld 2 L.EC.cl L.EC.nW (e_name 9)))
              (e_one (e_cmp o_eq (e_meth0 (S := fsGrowth C) (O2 := [dO dr ns c3]) m L.FG hr1 L.EC.cl L.mG (e_name (s := sEd C m) 11) trivial) (e_meth0 (S := fsGrowth C) (O2 := [dO dr ns c3]) one L.FG hr1 L.EC.cl L.mG (e_name 9) trivial)))))) (fin_ret hf (fun w hw => nomatch hw) fun G v hv => ?_)
            have hv : v = V.bl (false || (decide (m.words = one.words) && decide (m.growth = one.growth))) := hv
            show v = V.bl true
            rw [hv, k1.1, k1.2]
            simp
end
end K35

namespace K35
open PySem L2 Gd
theorem all_mk {l : PySem.W.OpenLaw} {w : World} {K : PySem.W.Frag} {h : Heap} {mg : Str → Option Value} {fa : Addr} (X : K.In h) (G : h.Ns mainGlobals mg) (hfa : mg "law" = some (.ref fa))
    {fw : Addr} {odw anw : Option Addr} {slw : Array (Option Value)} {ocw kVw dcw pmw cdw ctw : Value}
    {ftk : Addr} {odtk antk : Option Addr} {sltk : Array (Option Value)} {octk kVtk dctk pmtk cdtk cttk : Value}
    {fk : Addr} {odk ank : Option Addr} {slk : Array (Option Value)} {ock dck pmk cdk ctk : Value}
    {fc : Addr} {odc anc : Option Addr} {slc : Array (Option Value)} {occ kVc dcc pmc cdc ctc : Value}
    {fsh : Addr} {odsh ansh : Option Addr} {slsh : Array (Option Value)} {ocsh kVsh dcsh pmsh cdsh ctsh : Value}
    {fce : Addr} {odce ance : Option Addr} {slce : Array (Option Value)} {occe kVce dcce pmce cdce ctce : Value}
    {fdr : Addr} {oddr andr : Option Addr} {sldr : Array (Option Value)} {ocdr kVdr dcdr pmdr cddr ctdr : Value}
    {fnu : Addr} {odnu annu : Option Addr} {slnu : Array (Option Value)} {ocnu kVnu dcnu pmnu cdnu ctnu : Value}
    {fne : Addr} {odne anne : Option Addr} {slne : Array (Option Value)} {ocne kVne dcne pmne cdne ctne : Value}
    {fpi : Addr} {odpi anpi : Option Addr} {slpi : Array (Option Value)} {ocpi kVpi dcpi pmpi cdpi ctpi : Value}
    {fed : Addr} {oded aned : Option Addr} {sled : Array (Option Value)} {oced kVed dced pmed cded cted : Value}
    {fla : Addr} {odla anla : Option Addr} {slla : Array (Option Value)} {ocla kVla dcla pmla cdla ctla : Value}
    {fI : Addr} {odI anI : Option Addr} {slI : Array (Option Value)} {ocI kVI dcI pmI cdI ctI : Value}
    {fQ : Addr} {odQ anQ : Option Addr} {slQ : Array (Option Value)} {ocQ kVQ dcQ pmQ cdQ ctQ : Value}
    {fL : Addr} {odL anL : Option Addr} {slL : Array (Option Value)} {ocL kVL dcL pmL cdL ctL : Value}
    {fB : Addr} {odB anB : Option Addr} {slB : Array (Option Value)} {ocB kVB dcB pmB cdB ctB : Value}
    {fC : Addr} {odC anC : Option Addr} {slC : Array (Option Value)} {ocC kVC dcC pmC cdC ctC : Value}
    {fA : Addr} {odA anA : Option Addr} {slA : Array (Option Value)} {ocA kVA dcA pmA cdA ctA : Value}
    {fG : Addr} {odG anG : Option Addr} {slG : Array (Option Value)} {ocG kVG dcG pmG cdG ctG : Value}
    {fU : Addr} {odU anU : Option Addr} {slU : Array (Option Value)} {ocU kVU dcU pmU cdU ctU : Value}
    {C Dk aK aS : Addr} {odK odS : Option Addr} {slK slS : Array (Option Value)} {itK itS : Array Value} {nK nS : Nat} {tL tN tM : _}
    {nm : Str} {q : Str} {NN : Addr} {bs bm : List Value} {hd0 sn sub ab col dd k0 k1 k2 k3 k5 id0 : _}
    {fo1 ro1 : _}
    (na_w : PySem.W.nsIn K mainGlobals "is_word" = some (some (.ref fw)))
    (nl_w : K.lookup fw = some ⟨ocw, odw, .func (PySem.W.fnOf "is_word" "is_word" (defArgs sIsWord) (defBody sIsWord) (defScope sIsWord) .none kVw dcw pmw anw cdw ctw), slw⟩)
    (nc_w : PySem.W.codeIn K cdw "is_word" = true)
    (nk_w : PySem.W.keepIn K (.ref fw) = true)
    (na_tk : PySem.W.nsIn K mainGlobals "is_token" = some (some (.ref ftk)))
    (nl_tk : K.lookup ftk = some ⟨octk, odtk, .func (PySem.W.fnOf "is_token" "is_token" (defArgs sIsToken) (defBody sIsToken) (defScope sIsToken) .none kVtk dctk pmtk antk cdtk cttk), sltk⟩)
    (nc_tk : PySem.W.codeIn K cdtk "is_token" = true)
    (nk_tk : PySem.W.keepIn K (.ref ftk) = true)
    (na_k : PySem.W.nsIn K mainGlobals "check_words" = some (some (.ref fk)))
    (nl_k : K.lookup fk = some ⟨ock, odk, .func (PySem.W.fnOf "check_words" "check_words" (defArgs sCheck) (defBody sCheck) (defScope sCheck) .none (.ref Dk) dck pmk ank cdk ctk), slk⟩)
    (nc_k : PySem.W.codeIn K cdk "check_words" = true)
    (nk_k : PySem.W.keepIn K (.ref fk) = true)
    (na_c : PySem.W.nsIn K mainGlobals "carried" = some (some (.ref fc)))
    (nl_c : K.lookup fc = some ⟨occ, odc, .func (PySem.W.fnOf "carried" "carried" (defArgs sCarried) (defBody sCarried) (defScope sCarried) .none kVc dcc pmc anc cdc ctc), slc⟩)
    (nc_c : PySem.W.codeIn K cdc "carried" = true)
    (nk_c : PySem.W.keepIn K (.ref fc) = true)
    (na_sh : PySem.W.nsIn K mainGlobals "shrunk" = some (some (.ref fsh)))
    (nl_sh : K.lookup fsh = some ⟨ocsh, odsh, .func (PySem.W.fnOf "shrunk" "shrunk" (defArgs sShrunk) (defBody sShrunk) (defScope sShrunk) .none kVsh dcsh pmsh ansh cdsh ctsh), slsh⟩)
    (nc_sh : PySem.W.codeIn K cdsh "shrunk" = true)
    (nk_sh : PySem.W.keepIn K (.ref fsh) = true)
    (na_ce : PySem.W.nsIn K mainGlobals "_law_cell_at" = some (some (.ref fce)))
    (nl_ce : K.lookup fce = some ⟨occe, odce, .func (PySem.W.fnOf "_law_cell_at" "_law_cell_at" (defArgs sCell) (defBody sCell) (defScope sCell) .none kVce dcce pmce ance cdce ctce), slce⟩)
    (nc_ce : PySem.W.codeIn K cdce "_law_cell_at" = true)
    (nk_ce : PySem.W.keepIn K (.ref fce) = true)
    (na_dr : PySem.W.nsIn K mainGlobals "_law_draw" = some (some (.ref fdr)))
    (nl_dr : K.lookup fdr = some ⟨ocdr, oddr, .func (PySem.W.fnOf "_law_draw" "_law_draw" (defArgs sDraw) (defBody sDraw) (defScope sDraw) .none kVdr dcdr pmdr andr cddr ctdr), sldr⟩)
    (nc_dr : PySem.W.codeIn K cddr "_law_draw" = true)
    (nk_dr : PySem.W.keepIn K (.ref fdr) = true)
    (na_nu : PySem.W.nsIn K mainGlobals "_law_number" = some (some (.ref fnu)))
    (nl_nu : K.lookup fnu = some ⟨ocnu, odnu, .func (PySem.W.fnOf "_law_number" "_law_number" (defArgs sNumber) (defBody sNumber) (defScope sNumber) .none kVnu dcnu pmnu annu cdnu ctnu), slnu⟩)
    (nc_nu : PySem.W.codeIn K cdnu "_law_number" = true)
    (nk_nu : PySem.W.keepIn K (.ref fnu) = true)
    (na_ne : PySem.W.nsIn K mainGlobals "_law_next" = some (some (.ref fne)))
    (nl_ne : K.lookup fne = some ⟨ocne, odne, .func (PySem.W.fnOf "_law_next" "_law_next" (defArgs sNext) (defBody sNext) (defScope sNext) .none kVne dcne pmne anne cdne ctne), slne⟩)
    (nc_ne : PySem.W.codeIn K cdne "_law_next" = true)
    (nk_ne : PySem.W.keepIn K (.ref fne) = true)
    (na_pi : PySem.W.nsIn K mainGlobals "_law_pick" = some (some (.ref fpi)))
    (nl_pi : K.lookup fpi = some ⟨ocpi, odpi, .func (PySem.W.fnOf "_law_pick" "_law_pick" (defArgs sPick) (defBody sPick) (defScope sPick) .none kVpi dcpi pmpi anpi cdpi ctpi), slpi⟩)
    (nc_pi : PySem.W.codeIn K cdpi "_law_pick" = true)
    (nk_pi : PySem.W.keepIn K (.ref fpi) = true)
    (na_ed : PySem.W.nsIn K mainGlobals "_law_edit" = some (some (.ref fed)))
    (nl_ed : K.lookup fed = some ⟨oced, oded, .func (PySem.W.fnOf "_law_edit" "_law_edit" (defArgs sEdit) (defBody sEdit) (defScope sEdit) .none kVed dced pmed aned cded cted), sled⟩)
    (nc_ed : PySem.W.codeIn K cded "_law_edit" = true)
    (nk_ed : PySem.W.keepIn K (.ref fed) = true)
    (na_la : PySem.W.nsIn K mainGlobals "law" = some (some (.ref fla)))
    (nl_la : K.lookup fla = some ⟨ocla, odla, .func (PySem.W.fnOf "law" "law" (defArgs sLaw) (defBody sLaw) (defScope sLaw) .none kVla dcla pmla anla cdla ctla), slla⟩)
    (nc_la : PySem.W.codeIn K cdla "law" = true)
    (nk_la : PySem.W.keepIn K (.ref fla) = true)
    (aC : PySem.W.nsIn K mainGlobals "Edit" = some (some (.ref C)))
    (na_I : PySem.W.findIn K (.ref C) "__init__" = some (some (.ref fI)))
    (ni_I : PySem.W.isFn K (.ref fI) = true)
    (nl_I : K.lookup fI = some ⟨ocI, odI, .func (PySem.W.fnOf "__init__" "Edit.__init__" (defArgs sInit) (defBody sInit) (defScope sInit) .none kVI dcI pmI anI cdI ctI), slI⟩)
    (nc_I : PySem.W.codeIn K cdI "Edit.__init__" = true)
    (nk_I : PySem.W.keepIn K (.ref fI) = true)
    (na_Q : PySem.W.findIn K (.ref C) "__eq__" = some (some (.ref fQ)))
    (ni_Q : PySem.W.isFn K (.ref fQ) = true)
    (nl_Q : K.lookup fQ = some ⟨ocQ, odQ, .func (PySem.W.fnOf "__eq__" "Edit.__eq__" (defArgs sEq) (defBody sEq) (defScope sEq) .none kVQ dcQ pmQ anQ cdQ ctQ), slQ⟩)
    (nc_Q : PySem.W.codeIn K cdQ "Edit.__eq__" = true)
    (nk_Q : PySem.W.keepIn K (.ref fQ) = true)
    (na_L : PySem.W.findIn K (.ref C) "__len__" = some (some (.ref fL)))
    (ni_L : PySem.W.isFn K (.ref fL) = true)
    (nl_L : K.lookup fL = some ⟨ocL, odL, .func (PySem.W.fnOf "__len__" "Edit.__len__" (defArgs sLen) (defBody sLen) (defScope sLen) .none kVL dcL pmL anL cdL ctL), slL⟩)
    (nc_L : PySem.W.codeIn K cdL "Edit.__len__" = true)
    (nk_L : PySem.W.keepIn K (.ref fL) = true)
    (na_B : PySem.W.findIn K (.ref C) "__bool__" = some (some (.ref fB)))
    (ni_B : PySem.W.isFn K (.ref fB) = true)
    (nl_B : K.lookup fB = some ⟨ocB, odB, .func (PySem.W.fnOf "__bool__" "Edit.__bool__" (defArgs sBool) (defBody sBool) (defScope sBool) .none kVB dcB pmB anB cdB ctB), slB⟩)
    (nc_B : PySem.W.codeIn K cdB "Edit.__bool__" = true)
    (nk_B : PySem.W.keepIn K (.ref fB) = true)
    (na_C : PySem.W.findIn K (.ref C) "__call__" = some (some (.ref fC)))
    (ni_C : PySem.W.isFn K (.ref fC) = true)
    (nl_C : K.lookup fC = some ⟨ocC, odC, .func (PySem.W.fnOf "__call__" "Edit.__call__" (defArgs sCall) (defBody sCall) (defScope sCall) .none kVC dcC pmC anC cdC ctC), slC⟩)
    (nc_C : PySem.W.codeIn K cdC "Edit.__call__" = true)
    (nk_C : PySem.W.keepIn K (.ref fC) = true)
    (na_A : PySem.W.findIn K (.ref C) "__add__" = some (some (.ref fA)))
    (ni_A : PySem.W.isFn K (.ref fA) = true)
    (nl_A : K.lookup fA = some ⟨ocA, odA, .func (PySem.W.fnOf "__add__" "Edit.__add__" (defArgs sAdd) (defBody sAdd) (defScope sAdd) .none kVA dcA pmA anA cdA ctA), slA⟩)
    (nc_A : PySem.W.codeIn K cdA "Edit.__add__" = true)
    (nk_A : PySem.W.keepIn K (.ref fA) = true)
    (na_G : PySem.W.findIn K (.ref C) "growth" = some (some (.ref fG)))
    (ni_G : PySem.W.isFn K (.ref fG) = true)
    (nl_G : K.lookup fG = some ⟨ocG, odG, .func (PySem.W.fnOf "growth" "Edit.growth" (defArgs sGrowth) (defBody sGrowth) (defScope sGrowth) .none kVG dcG pmG anG cdG ctG), slG⟩)
    (nc_G : PySem.W.codeIn K cdG "Edit.growth" = true)
    (nk_G : PySem.W.keepIn K (.ref fG) = true)
    (na_U : PySem.W.findIn K (.ref C) "undone" = some (some (.ref fU)))
    (ni_U : PySem.W.isFn K (.ref fU) = true)
    (nl_U : K.lookup fU = some ⟨ocU, odU, .func (PySem.W.fnOf "undone" "Edit.undone" (defArgs sUndone) (defBody sUndone) (defScope sUndone) .none kVU dcU pmU anU cdU ctU), slU⟩)
    (nc_U : PySem.W.codeIn K cdU "Edit.undone" = true)
    (nk_U : PySem.W.keepIn K (.ref fU) = true)
    (pg : PySem.W.plainGet K C Str.empty = true)
    (hd : PySem.W.hasDictIn K C = true)
    (po : PySem.W.plainOver K C = true)
    (sa : PySem.W.findIn K (.ref C) "__setattr__" = some (some (.builtin "object.__setattr__")))
    (mk : PySem.W.makesIn K C = true)
    (kCl : PySem.W.keepIn K (.ref C) = true)
    (nF : PySem.W.findIn K (.ref C) "first" = some none)
    (nL : PySem.W.findIn K (.ref C) "last" = some none)
    (nW : PySem.W.findIn K (.ref C) "words" = some none)
    (xa : PySem.W.findIn K (.ref C) "__class__" = some (some (.builtin "object.__class__")))
    (xn : PySem.W.specialIn K (.builtin "object.__class__") "__get__" = some (some (.builtin "getset_descriptor.__get__")))
    (xt : PySem.W.takesIn K (.builtin "object.__class__") = some true)
    (xm : PySem.W.mroIn K C (.type "object") = some true)
    (xf : PySem.W.fnIn K fC = true)
    (lO : K.lookup C = some (excClassObj nm q C NN bs bm hd0 sn sub ab col dd k0 k1 k2 k3 k5 id0))
    (bO : bm.contains (.type "object") = true)
    (ne0 : PySem.W.findIn K (.ref C) "__ne__" = some (some (.builtin "object.__ne__")))
    (ah : PySem.W.selfFirst K C = true)
    (ad : PySem.W.findIn K (.ref C) (PySem.dunder "add") = some (some (.ref fA)))
    (ar : PySem.W.findIn K (.ref C) (PySem.dunderR "add") = some none)
    (a1 : PySem.W.findIn K (.type "int") (PySem.dunder "add") = some fo1)
    (a2 : PySem.W.findIn K (.type "int") (PySem.dunderR "add") = some ro1)
    (as0 : PySem.W.subIn K (.type "int") (.ref C) = some false)
    (gL : PySem.W.nsIn K mainGlobals "LETTERS" = some (some (.str letters tL)))
    (gN : PySem.W.nsIn K mainGlobals "LONGEST" = some (some (.int 10 tN)))
    (gK : PySem.W.nsIn K mainGlobals "KEPT" = some (some (.ref aK)))
    (lK : K.lookup aK = some ⟨.type "tuple", odK, .seq itK nK, slK⟩)
    (sK : itK.size ≤ sizeLine)
    (vK : Vals (keptL.map V.str) itK.toList)
    (gS : PySem.W.nsIn K mainGlobals "SIGNS" = some (some (.ref aS)))
    (lS : K.lookup aS = some ⟨.type "tuple", odS, .seq itS nS, slS⟩)
    (sS : itS.size ≤ sizeLine)
    (vS : Vals (signsL.map V.str) itS.toList)
    (dh : PySem.W.nsIn K Dk "hole" = some (some (.bool false)))
    (dm : PySem.W.nsIn K Dk "most" = some (some (.int 200 tM)))
    (zlen : PySem.W.nsIn K mainGlobals "len" = some none)
    (zint : PySem.W.nsIn K mainGlobals "int" = some none)
    (zrange : PySem.W.nsIn K mainGlobals "range" = some none)
    (zall : PySem.W.nsIn K mainGlobals "all" = some none)
    (zisinstance : PySem.W.nsIn K mainGlobals "isinstance" = some none)
    (zstr : PySem.W.nsIn K mainGlobals "str" = some none)
    (zlist : PySem.W.nsIn K mainGlobals "list" = some none)
    (ztuple : PySem.W.nsIn K mainGlobals "tuple" = some none)
    (zbool : PySem.W.nsIn K mainGlobals "bool" = some none)
    (zmin : PySem.W.nsIn K mainGlobals "min" = some none)
    : ∃ fd : FuncData, (∀ (s : Shared) (v : Value), BindsTo s fd ⟨[v], []⟩ [("_law_script", v)]) ∧ ∀ base : Heap, K.In base → base.Ns mainGlobals mg → FnOk l.prog w K mg base CX0 7 fa fd ["_law_script"] (fsLaw.sp K) := by
  have e := hfa.symm.trans (PySem.W.mg_of X G na_la)
  cases e
  have T : Bt mg := ⟨PySem.W.mg_none_of X G zlen, PySem.W.mg_none_of X G zint, PySem.W.mg_none_of X G zrange⟩
  have Cc : Cs K mg := ⟨⟨_, PySem.W.mg_of X G gL⟩, ⟨_, PySem.W.mg_of X G gN⟩, ⟨_, PySem.W.mg_of X G gK, .ref aK, rfl, fun G => ⟨aK, _, rfl, .inr ⟨_, _, _, lK, rfl, rfl, sK, vK⟩, All2.ofVals _⟩⟩, ⟨_, PySem.W.mg_of X G gS, .ref aS, rfl, fun G => ⟨aS, _, rfl, .inr ⟨_, _, _, lS, rfl, rfl, sS, vS⟩, All2.ofVals _⟩⟩, PySem.W.mg_none_of X G zall, PySem.W.mg_none_of X G zint, PySem.W.mg_none_of X G zisinstance, PySem.W.mg_none_of X G zstr, PySem.W.mg_none_of X G zlist, PySem.W.mg_none_of X G ztuple, PySem.W.mg_none_of X G zbool, PySem.W.mg_none_of X G zmin⟩
  have EC : EdC K mg C := ⟨⟨pg, hd, po, sa⟩, nF, nL, nW, PySem.W.mg_of X G aC⟩
  have CI : ClsI K C := ⟨EC.cl, xa, xn, xt, xm⟩
  have CO : ClsO K C := ⟨_, _, _, _, _, _, _, _, _, _, _, _, _, _, _, _, _, lO, bO⟩
  have CA : ClsAdd K C fA := ⟨ah, ad, ni_A, ar, ⟨_, a1⟩, ⟨_, a2⟩, as0⟩
  have M : Mk K C fI := ⟨mk, na_I, ni_I, kCl⟩
  have Fw := fun_mk (st := sIsWord) nl_w nc_w nk_w
  have bw := Fw.binds (ps := ["thing"]) fun _ _ _ _ _ _ us hl => match us, hl with | [_], _ => rfl
  have Ftk := fun_mk (st := sIsToken) nl_tk nc_tk nk_tk
  have btk := Ftk.binds (ps := ["thing"]) fun _ _ _ _ _ _ us hl => match us, hl with | [_], _ => rfl
  have kw : ∀ q ∈ kwsCheck, ∃ u, PySem.W.nsIn K Dk q.1 = some (some u) ∧ RelV q.2 u := by
    intro q hq
    rcases List.mem_cons.mp hq with rfl | hq
    · exact ⟨_, dh, rfl⟩
    · rcases List.mem_cons.mp hq with rfl | hq
      · exact ⟨_, dm, _, rfl⟩
      · cases hq
  have Fk : FunD K "check_words" "check_words" (defArgs sCheck) (defBody sCheck) (defScope sCheck) [] kwsCheck fk _ := ⟨⟨_, _, _, _, _, _, _, _, _, _, rfl, nl_k, nc_k, .inl ⟨rfl, rfl⟩, .inr ⟨Dk, rfl, kw⟩⟩, nk_k⟩
  have bk : ∃ ds, Vals [.bl false, .int 200] ds ∧ Binds K _ ["words", "hole", "most"] ds := Fk.binds0 1 (fun z => nomatch z) rfl fun D doc pm an cdv ct us ks h1 h2 => match us, ks, h1, h2 with | [_], [_, _], _, _ => ⟨_, _, _, _, _, _, rfl, rfl, _, _, _, _, _, _, rfl, rfl, rfl⟩
  have Fc := fun_mk (st := sCarried) nl_c nc_c nk_c
  have bc := Fc.binds (ps := ["one", "other"]) fun _ _ _ _ _ _ us hl => match us, hl with | [_, _], _ => rfl
  have Fsh := fun_mk (st := sShrunk) nl_sh nc_sh nk_sh
  have bsh := Fsh.binds (ps := ["words", "more"]) fun _ _ _ _ _ _ us hl => match us, hl with | [_, _], _ => rfl
  have Fce := fun_mk (st := sCell) nl_ce nc_ce nk_ce
  have bce := Fce.binds (ps := ["_law_script", "_law_k"]) fun _ _ _ _ _ _ us hl => match us, hl with | [_, _], _ => rfl
  have Fdr := fun_mk (st := sDraw) nl_dr nc_dr nk_dr
  have bdr := Fdr.binds (ps := ["_law_cell", "_law_k", "_law_bound"]) fun _ _ _ _ _ _ us hl => match us, hl with | [_, _, _], _ => rfl
  have Fnu := fun_mk (st := sNumber) nl_nu nc_nu nk_nu
  have bnu := Fnu.binds (ps := ["_law_cell", "_law_k", "_law_bound"]) fun _ _ _ _ _ _ us hl => match us, hl with | [_, _, _], _ => rfl
  have Fne := fun_mk (st := sNext) nl_ne nc_ne nk_ne
  have bne := Fne.binds (ps := ["_law_draw_here", "_law_bound"]) fun _ _ _ _ _ _ us hl => match us, hl with | [_, _], _ => rfl
  have Fpi := fun_mk (st := sPick) nl_pi nc_pi nk_pi
  have bpi := Fpi.binds (ps := ["_law_draw_here", "_law_things"]) fun _ _ _ _ _ _ us hl => match us, hl with | [_, _], _ => rfl
  have Fed := fun_mk (st := sEdit) nl_ed nc_ed nk_ed
  have bed := Fed.binds (ps := ["_law_draw_here", "_law_words"]) fun _ _ _ _ _ _ us hl => match us, hl with | [_, _], _ => rfl
  have Fla := fun_mk (st := sLaw) nl_la nc_la nk_la
  have FI := fun_mk (st := sInit) nl_I nc_I nk_I
  have bI := FI.binds (ps := ["self", "first", "last", "words"]) fun _ _ _ _ _ _ us hl => match us, hl with | [_, _, _, _], _ => rfl
  have FQ := fun_mk (st := sEq) nl_Q nc_Q nk_Q
  have bQ := FQ.binds (ps := ["self", "other"]) fun _ _ _ _ _ _ us hl => match us, hl with | [_, _], _ => rfl
  have FL := fun_mk (st := sLen) nl_L nc_L nk_L
  have bL := FL.binds (ps := ["self"]) fun _ _ _ _ _ _ us hl => match us, hl with | [_], _ => rfl
  have FB := fun_mk (st := sBool) nl_B nc_B nk_B
  have bB := FB.binds (ps := ["self"]) fun _ _ _ _ _ _ us hl => match us, hl with | [_], _ => rfl
  have FC := fun_mk (st := sCall) nl_C nc_C nk_C
  have bC := FC.binds (ps := ["self", "words"]) fun _ _ _ _ _ _ us hl => match us, hl with | [_, _], _ => rfl
  have FA := fun_mk (st := sAdd) nl_A nc_A nk_A
  have bA := FA.binds (ps := ["self", "many"]) fun _ _ _ _ _ _ us hl => match us, hl with | [_, _], _ => rfl
  have FG := fun_mk (st := sGrowth) nl_G nc_G nk_G
  have bG := FG.binds (ps := ["self"]) fun _ _ _ _ _ _ us hl => match us, hl with | [_], _ => rfl
  have FU := fun_mk (st := sUndone) nl_U nc_U nk_U
  have bU := FU.binds (ps := ["self", "words"]) fun _ _ _ _ _ _ us hl => match us, hl with | [_, _], _ => rfl
  refine ⟨PySem.W.fnOf "law" "law" (defArgs sLaw) (defBody sLaw) (defScope sLaw) .none kVla dcla pmla anla cdla ctla, fun s v => .of_eq rfl, fun base _ _ => ?_⟩
  have Oce := ok_cell (P := l.prog) (w := w) (base := base) Fce bce T
  have Odr := ok_draw (P := l.prog) (w := w) (base := base) Fdr bdr T
  have Onu := ok_number (P := l.prog) (w := w) (base := base) Fnu bnu T (PySem.W.mg_of X G na_dr) Odr
  have One := ok_next (P := l.prog) (w := w) (base := base) Fne bne T (PySem.W.mg_of X G na_ce) Oce (PySem.W.mg_of X G na_nu) Onu
  have Opi := ok_pick (P := l.prog) (w := w) (base := base) (R := sStr) Fpi bpi T (PySem.W.mg_of X G na_ne) One
  have Ow := ok_isWord (P := l.prog) (w := w) (base := base) Fw bw T Cc
  have Ot := ok_isToken (P := l.prog) (w := w) (base := base) Ftk btk Cc (PySem.W.mg_of X G na_w) Ow
  have Ok := ok_check (P := l.prog) (w := w) (base := base) Fk bk T Cc (PySem.W.mg_of X G na_tk) Ot
  have OI := ok_init (P := l.prog) (w := w) (base := base) FI bI Cc EC (PySem.W.mg_of X G na_tk) Ot
  have OQ := ok_eq (P := l.prog) (w := w) (base := base) FQ bQ Cc EC CI
  have OL := ok_len (P := l.prog) (w := w) (base := base) FL bL T EC
  have OB := ok_bool (P := l.prog) (w := w) (base := base) FB bB T EC
  have OG := ok_growth (P := l.prog) (w := w) (base := base) FG bG T EC
  have OC := ok_call (P := l.prog) (w := w) (base := base) FC bC T EC (PySem.W.mg_of X G na_k) Ok
  have OA := ok_add (P := l.prog) (w := w) (base := base) FA bA Cc EC M OI
  have OU := ok_undone (P := l.prog) (w := w) (base := base) FU bU T EC ⟨na_C, ni_C, xf⟩ OC M OI
  have Oc := ok_carried (P := l.prog) (w := w) (base := base) Fc bc EC CA OA ⟨na_G, ni_G, nk_G⟩ OG
  have Os := ok_shrunk (P := l.prog) (w := w) (base := base) Fsh bsh T Cc EC (PySem.W.mg_of X G na_k) Ok M OI
  have Oed := ok_edit (P := l.prog) (w := w) (base := base) Fed bed T Cc EC (PySem.W.mg_of X G na_ne) One (PySem.W.mg_of X G na_pi) Opi M OI
  exact ok_law Fla ⟨T, Cc, EC, fne, (PySem.W.mg_of X G na_ne), One, fpi, (PySem.W.mg_of X G na_pi), Opi, fed, (PySem.W.mg_of X G na_ed), Oed, fsh, (PySem.W.mg_of X G na_sh), Os, fc, (PySem.W.mg_of X G na_c), Oc, fC, ⟨na_C, ni_C, xf⟩, OC, fU, ⟨na_U, ni_U, nk_U⟩, OU, fG, ⟨na_G, ni_G, nk_G⟩, OG, fI, M, OI, fQ, na_Q, ni_Q, OQ, CO, ne0, fL, na_L, ni_L, OL, fB, na_B, ni_B, OB⟩
theorem walk {l : PySem.W.OpenLaw} {q : Program} {loose : List Str} {XP : (Str → Option Value) → Heap → Prop} {YP : World → Heap → Prop} {d : DefRec} {K : Params → PySem.W.Frag} (hn : l.most = some 63) (hdf : d.params.defaults = [])
    (hY : ∀ (w : World) (h : Heap), YP w h → (K w.params).In h)
    (F : ∀ (w : World) (mg : Str → Option Value) (fa : Addr) (h : Heap), (K w.params).In h → h.Ns mainGlobals mg → mg d.name = some (.ref fa) →
      ∃ fd : FuncData, (∀ (s : Shared) (u : Value), BindsTo s fd ⟨[u], []⟩ [("_law_script", u)]) ∧ ∀ base : Heap, (K w.params).In base → base.Ns mainGlobals mg → FnOk l.prog w (K w.params) mg base CX0 7 fa fd ["_law_script"] (fsLaw.sp (K w.params))) :
    PySem.W.WalkO q loose XP YP l.row.toRowW d [] (fun f vs => PySem.call f vs) :=
  L2.walk_of (n := 63) (k := 7) (x := "_law_script") (CX := fun _ => CX0) (sp := fun w => fsLaw.sp (K w.params)) hn (by decide) hdf ⟨rfl, by decide, by decide⟩ hY F (fun _ H a ns hl _ hS => ⟨ns, H, trivial, Same.refl H, .cons ⟨a, _, rfl, hS, All2.ofVals ns⟩ .nil, (fun w hw => by cases hw), List.nodup_nil, fun v G' H' t ow hv => hv⟩) fun _ _ _ _ _ z => z
end K35

set_option Elab.async false
set_option linter.all false
open PySem PySem.W PyProof.Rows in
set_option maxRecDepth 100000 in
set_option maxHeartbeats 0 in
theorem PySem.Challenge.cw_typingroom_k35_whole_edit_rows_holds : PySem.Challenge.rw_typingroom_k35_whole_edit_rows.Holds := by
  w_on; o_law; k_head; (case hw => w_witness2)
  k_fill
  refine K35.walk (l := PySem.Challenge.rw_typingroom_k35_whole_edit_rows) rfl rfl (fun w h Y => PySem.W.kIn_of Y) ?F
  case F =>
    intro w mg fa h KX G hmg
    refine' K35.all_mk KX G hmg ?na_w ?nl_w ?nc_w ?nk_w ?na_tk ?nl_tk ?nc_tk ?nk_tk ?na_k ?nl_k ?nc_k ?nk_k ?na_c ?nl_c ?nc_c ?nk_c ?na_sh ?nl_sh ?nc_sh ?nk_sh ?na_ce ?nl_ce ?nc_ce ?nk_ce ?na_dr ?nl_dr ?nc_dr ?nk_dr ?na_nu ?nl_nu ?nc_nu ?nk_nu ?na_ne ?nl_ne ?nc_ne ?nk_ne ?na_pi ?nl_pi ?nc_pi ?nk_pi ?na_ed ?nl_ed ?nc_ed ?nk_ed ?na_la ?nl_la ?nc_la ?nk_la ?aC ?na_I ?ni_I ?nl_I ?nc_I ?nk_I ?na_Q ?ni_Q ?nl_Q ?nc_Q ?nk_Q ?na_L ?ni_L ?nl_L ?nc_L ?nk_L ?na_B ?ni_B ?nl_B ?nc_B ?nk_B ?na_C ?ni_C ?nl_C ?nc_C ?nk_C ?na_A ?ni_A ?nl_A ?nc_A ?nk_A ?na_G ?ni_G ?nl_G ?nc_G ?nk_G ?na_U ?ni_U ?nl_U ?nc_U ?nk_U ?pg ?hd ?po ?sa ?mk ?kCl ?nF ?nL ?nW ?xa ?xn ?xt ?xm ?xf ?lO ?bO ?ne0 ?ah ?ad ?ar ?a1 ?a2 ?as0 ?gL ?gN ?gK ?lK ?sK ?vK ?gS ?lS ?sS ?vS ?dh ?dm ?zlen ?zint ?zrange ?zall ?zisinstance ?zstr ?zlist ?ztuple ?zbool ?zmin
    (case na_w => k_is)
    (case nl_w => k_is)
    (case nc_w => k_is)
    (case nk_w => k_is)
    (case na_tk => k_is)
    (case nl_tk => k_is)
    (case nc_tk => k_is)
    (case nk_tk => k_is)
    (case na_k => k_is)
    (case nl_k => k_is)
    (case nc_k => k_is)
    (case nk_k => k_is)
    (case na_c => k_is)
    (case nl_c => k_is)
    (case nc_c => k_is)
    (case nk_c => k_is)
    (case na_sh => k_is)
    (case nl_sh => k_is)
    (case nc_sh => k_is)
    (case nk_sh => k_is)
    (case na_ce => k_is)
    (case nl_ce => k_is)
    (case nc_ce => k_is)
    (case nk_ce => k_is)
    (case na_dr => k_is)
    (case nl_dr => k_is)
    (case nc_dr => k_is)
    (case nk_dr => k_is)
    (case na_nu => k_is)
    (case nl_nu => k_is)
    (case nc_nu => k_is)
    (case nk_nu => k_is)
    (case na_ne => k_is)
    (case nl_ne => k_is)
    (case nc_ne => k_is)
    (case nk_ne => k_is)
    (case na_pi => k_is)
    (case nl_pi => k_is)
    (case nc_pi => k_is)
    (case nk_pi => k_is)
    (case na_ed => k_is)
    (case nl_ed => k_is)
    (case nc_ed => k_is)
    (case nk_ed => k_is)
    (case na_la => k_is)
    (case nl_la => k_is)
    (case nc_la => k_is)
    (case nk_la => k_is)
    (case aC => k_is)
    (case na_I => k_is)
    (case ni_I => k_is)
    (case nl_I => k_is)
    (case nc_I => k_is)
    (case nk_I => k_is)
    (case na_Q => k_is)
    (case ni_Q => k_is)
    (case nl_Q => k_is)
    (case nc_Q => k_is)
    (case nk_Q => k_is)
    (case na_L => k_is)
    (case ni_L => k_is)
    (case nl_L => k_is)
    (case nc_L => k_is)
    (case nk_L => k_is)
    (case na_B => k_is)
    (case ni_B => k_is)
    (case nl_B => k_is)
    (case nc_B => k_is)
    (case nk_B => k_is)
    (case na_C => k_is)
    (case ni_C => k_is)
    (case nl_C => k_is)
    (case nc_C => k_is)
    (case nk_C => k_is)
    (case na_A => k_is)
    (case ni_A => k_is)
    (case nl_A => k_is)
    (case nc_A => k_is)
    (case nk_A => k_is)
    (case na_G => k_is)
    (case ni_G => k_is)
    (case nl_G => k_is)
    (case nc_G => k_is)
    (case nk_G => k_is)
    (case na_U => k_is)
    (case ni_U => k_is)
    (case nl_U => k_is)
    (case nc_U => k_is)
    (case nk_U => k_is)
    (case pg => k_is)
    (case hd => k_is)
    (case po => k_is)
    (case sa => k_is)
    (case mk => k_is)
    (case kCl => k_is)
    (case nF => k_is)
    (case nL => k_is)
    (case nW => k_is)
    (case xa => k_is)
    (case xn => k_is)
    (case xt => k_is)
    (case xm => k_is)
    (case xf => k_is)
    (case lO => k_is)
    (case bO => decide)
    (case ne0 => k_is)
    (case ah => k_is)
    (case ad => k_is)
    (case ar => k_is)
    (case a1 => k_is)
    (case a2 => k_is)
    (case as0 => k_is)
    (case gL => k_is)
    (case gN => k_is)
    (case gK => k_is)
    (case lK => k_is)
    (case sK => decide)
    (case vK => exact .cons ⟨_, rfl⟩ (.cons ⟨_, rfl⟩ (.cons ⟨_, rfl⟩ .nil)))
    (case gS => k_is)
    (case lS => k_is)
    (case sS => decide)
    (case vS => exact .cons ⟨_, rfl⟩ (.cons ⟨_, rfl⟩ (.cons ⟨_, rfl⟩ (.cons ⟨_, rfl⟩ (.cons ⟨_, rfl⟩ (.cons ⟨_, rfl⟩ (.cons ⟨_, rfl⟩ (.cons ⟨_, rfl⟩ (.cons ⟨_, rfl⟩ (.nil))))))))))
    (case dh => k_is)
    (case dm => k_is)
    (case zlen => k_is)
    (case zint => k_is)
    (case zrange => k_is)
    (case zall => k_is)
    (case zisinstance => k_is)
    (case zstr => k_is)
    (case zlist => k_is)
    (case ztuple => k_is)
    (case zbool => k_is)
    (case zmin => k_is)
