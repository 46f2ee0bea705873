import PyProof.Rows.All
import Wide.All
import OpenK.AllK
import Wide.FinOn
import HandS.ForMost
import HandS.Wide
import HandS.Star
import HandS.Style
import HandS.OwnEq
import HandS.Defaults
import HandS.IsInst
import HandS.EndBits
import HandS.SlotsOwn
import PyProof.InstNe
import KE.KOpsOwn
import HandS.TupAny
import HandS.ForList
import PyProof.StrOps2
import HandS.HotCalls
import HandS.TryOnly
import HandS.ExcCtx
import HandS.WordsExc
import HandS.IterNext
import HandS.OwnIter
import PySem.Challenge.RW_typingroom_k50_whole_patches
set_option Elab.async false
set_option linter.all false
set_option maxRecDepth 100000
set_option maxHeartbeats 4000000
/-! What a look at an expression's head tells (proved once for all expressions, so that no text is unfolded where it is used) -/
namespace Gd
open PySem L2
def noStar : Expr → Bool
  | .Starred .. => false
  | _ => true
theorem starEach_plain {e : Expr} {es : List Expr} {env : Env} (h : noStar e = true) : starEach (e :: es) env = (false, eval e env) :: starEach es env := by
  cases e <;> first | rfl | cases h
theorem starEach_star {e : Expr} {p : Pos} {es : List Expr} {env : Env} : starEach (.Starred e p :: es) env = (true, eval e env) :: starEach es env := rfl
def noStars : List Expr → Bool
  | [] => true
  | e :: es => noStar e && noStars es
theorem backTo_plain {pos : Pos} {env : Env} : ∀ {es : List Expr}, noStars es = true → (backTo pos (starEach es env)).any (·.1) = false
  | [], _ => rfl
  | e :: es, h => by
    have h1 : noStar e = true ∧ noStars es = true := by simpa [noStars] using h
    rw [starEach_plain h1.1]
    show (false || (backTo pos (starEach es env)).any (·.1)) = false
    rw [backTo_plain h1.2]
    rfl
def noCall0 : Expr → Bool
  | .Call (.Name _ _) [] [] _ => false
  | _ => true
theorem attributeBase_plain {o : Expr} {f : Str} {env : Env} {whole : Sem Value} (h : noCall0 o = true) : attributeBase o f env whole = whole := by
  cases o with
  | Call g as ks p =>
    cases g with
    | Name id q =>
      cases as with
      | nil =>
        cases ks with
        | nil => cases h
        | cons _ _ => rfl
      | cons _ _ => rfl
    | _ => rfl
  | _ => rfl
def plainTest : Expr → Bool
  | .UnaryOp .Not .. => false
  | .BoolOp .. => false
  | .IfExp .. => false
  | .Compare .. => false
  | _ => true
theorem isTrue_val {e : Expr} {env : Env} (h : plainTest e = true) : ∀ whole, isTrue e env whole = (do let v ← whole; standAt e.pos; holding [v] (truthy v)) := by
  intro whole
  cases e with
  | UnaryOp op x p => cases op <;> first | rfl | cases h
  | _ => first | rfl | cases h
def noCompr : Expr → Bool
  | .ListComp .. => false
  | .SetComp .. => false
  | .DictComp .. => false
  | _ => true
theorem swaps_plain {e : Expr} {t : Option Expr} {l : Nat} {env : Env} (h : noCompr e = true) : swapsWith e t l env = pure false := by
  cases e <;> first | rfl | cases h
theorem sole_plain {e t : Expr} {l : Nat} {env : Env} (h : noCompr e = true) : swapsWithSole [t] e l env = pure false := swaps_plain (t := some t) h
def noSet : Expr → Bool
  | .Set .. => false
  | _ => true
theorem folded_plain {e : Expr} {env : Env} (h : noSet e = true) : ∀ x, foldedSetIterable e env x = pure x := by
  intro x
  cases e <;> first | rfl | cases h
theorem marks_plain {op : CmpOp} {e : Expr} (h : noSet e = true) : behindInMarks op e = false := by
  cases e <;> first | rfl | cases h
def noSlice : Expr → Bool
  | .Slice .. => false
  | _ => true
theorem plainIx_of {b : Expr} (h : noSlice b = true) : PlainIx b := by
  intro o i
  cases b <;> first | rfl | cases h
end Gd

/-! Gd: what a def does, told over plain data. A Slot is what is known of a value; a frozen heap G beneath the heap H; owned objects O, that the body may change. -/
namespace Gd
open PySem L2
abbrev SS := L2.St

abbrev Fg := PySem.W.Frag

/-- what is known of a value, kept when the frozen heap grows -/
structure Slot where
  ok : Fg → Hp → V → Prop
  mono : ∀ {K : Fg} {G G' : Hp} {v : V}, Same G G' → ok K G v → ok K G' v

def sVal (x : V) : Slot := ⟨fun _ _ v => v = x, fun _ h => h⟩
abbrev sInt (i : Int) : Slot := sVal (.int i)
abbrev sBl (b : Bool) : Slot := sVal (.bl b)
abbrev sStr (x : Str) : Slot := sVal (.str x)
abbrev sNon : Slot := sVal .non
abbrev sRef (a : Addr) : Slot := sVal (.ref a)

theorem sqT_mono {K : Fg} {G G' : Hp} {a : Addr} {xs : List V} (e : Same G G') (h : SqT K G a xs) : SqT K G' a xs := by
  (rcases h with (h | ⟨o, h⟩) | h)
  · exact .inl (.inl (e _ _ h))
  · (exact .inl (.inr ⟨o, e _ _ h⟩))
  · exact .inr h

inductive All2 (K : Fg) (G : Hp) {α : Type} (R : α → Slot) : List V → List α → Prop
  | nil : All2 K G R [] []
  | cons {v : V} {a : α} {vs : List V} {as : List α} : (R a).ok K G v → All2 K G R vs as → All2 K G R (v :: vs) (a :: as)

section
variable {K : Fg} {G G' : Hp} {α β : Type} {R : α → Slot}
theorem All2.mono (e : Same G G') : ∀ {vs : List V} {as : List α}, All2 K G R vs as → All2 K G' R vs as
  | _, _, .nil => .nil
  | _, _, .cons h t => .cons ((R _).mono e h) (t.mono e)
theorem All2.length : ∀ {vs : List V} {as : List α}, All2 K G R vs as → vs.length = as.length
  | _, _, .nil => rfl
  | _, _, .cons _ t => by simp [t.length]
theorem All2.append : ∀ {vs ws : List V} {as bs : List α}, All2 K G R vs as → All2 K G R ws bs → All2 K G R (vs ++ ws) (as ++ bs)
  | _, _, _, _, .nil, h => h
  | _, _, _, _, .cons h t, q => .cons h (t.append q)
theorem All2.get : ∀ {vs : List V} {as : List α} {i : Nat} {a : α}, All2 K G R vs as → as[i]? = some a → ∃ v, vs[i]? = some v ∧ (R a).ok K G v
  | _, _, _, _, .nil, h => by simp at h
  | _, _, 0, _, .cons h t, e => by simp at e; subst e; exact ⟨_, rfl, h⟩
  | _, _, i + 1, a, .cons h t, e => by
    obtain ⟨v, h1, h2⟩ := t.get (i := i) (a := a) (by simpa using e)
    exact ⟨v, by simpa using h1, h2⟩
theorem All2.get' : ∀ {vs : List V} {as : List α} {i : Nat} {v : V}, All2 K G R vs as → vs[i]? = some v → ∃ a, as[i]? = some a ∧ (R a).ok K G v
  | _, _, _, _, .nil, h => by simp at h
  | _, _, 0, _, .cons h t, e => by simp at e; subst e; exact ⟨_, rfl, h⟩
  | _, _, i + 1, v, .cons h t, e => by
    obtain ⟨a, h1, h2⟩ := t.get' (i := i) (v := v) (by simpa using e)
    exact ⟨a, by simpa using h1, h2⟩
theorem All2.take : ∀ {vs : List V} {as : List α} (n : Nat), All2 K G R vs as → All2 K G R (vs.take n) (as.take n)
  | _, _, 0, _ => .nil
  | _, _, _ + 1, .nil => .nil
  | _, _, n + 1, .cons h t => .cons h (t.take n)
theorem All2.drop : ∀ {vs : List V} {as : List α} (n : Nat), All2 K G R vs as → All2 K G R (vs.drop n) (as.drop n)
  | _, _, 0, h => h
  | _, _, _ + 1, .nil => .nil
  | _, _, n + 1, .cons _ t => t.drop n
theorem All2.reverse {vs : List V} {as : List α} (h : All2 K G R vs as) : All2 K G R vs.reverse as.reverse := by
  induction h with
  | nil => exact .nil
  | cons h _ ih =>
    (rw [List.reverse_cons, List.reverse_cons])
    exact ih.append (.cons h .nil)
theorem All2.set {x : V} {a : α} (r : (R a).ok K G x) : ∀ {vs : List V} {as : List α} (i : Nat), All2 K G R vs as → All2 K G R (vs.set i x) (as.set i a)
  | _, _, _, .nil => .nil
  | _, _, 0, .cons _ t => .cons r t -- -
  | _, _, i + 1, .cons q t => .cons q (t.set r i)
theorem All2.dropLast : ∀ {vs : List V} {as : List α}, All2 K G R vs as → All2 K G R vs.dropLast as.dropLast
  | _, _, .nil => .nil
  | _, _, .cons _ .nil => .nil
  | _, _, .cons h (.cons h2 t) => .cons h (All2.dropLast (.cons h2 t))
/-- exact values -/
theorem All2.vals {f : α → V} : ∀ {vs : List V} {as : List α}, All2 K G (fun a => sVal (f a)) vs as → vs = as.map f
  | _, _, .nil => rfl
  | _, _, .cons h t => by
    have h : _ = _ := h
    rw [h, t.vals]
    rfl
theorem All2.ofVals {f : α → V} : ∀ as : List α, All2 K G (fun a => sVal (f a)) (as.map f) as
  | [] => .nil
  | a :: as => .cons rfl (All2.ofVals as)
theorem All2.imp {S : β → Slot} {f : α → β} (h : ∀ v a, (R a).ok K G v → (S (f a)).ok K G v) : ∀ {vs : List V} {as : List α}, All2 K G R vs as → All2 K G S vs (as.map f)
  | _, _, .nil => .nil
  | _, _, .cons q t => .cons (h _ _ q) (t.imp h)
end

/-- values by slots, one each -/
inductive AllS (K : Fg) (G : Hp) : List V → List Slot → Prop
  | nil : AllS K G [] []
  | cons {v : V} {s : Slot} {vs : List V} {ss : List Slot} : s.ok K G v → AllS K G vs ss → AllS K G (v :: vs) (s :: ss)
theorem AllS.mono {K : Fg} {G G' : Hp} (e : Same G G') : ∀ {vs : List V} {ss : List Slot}, AllS K G vs ss → AllS K G' vs ss
  | _, _, .nil => .nil
  | _, _, .cons h t => .cons (Slot.mono _ e h) (t.mono e)
theorem AllS.length {K : Fg} {G : Hp} : ∀ {vs : List V} {ss : List Slot}, AllS K G vs ss → vs.length = ss.length
  | _, _, .nil => rfl
  | _, _, .cons _ t => by simp [t.length]

/-- a list that nobody changes any more -/
def sLst {α : Type} (R : α → Slot) (as : List α) : Slot :=
  ⟨fun K G v => ∃ p vs, v = .ref p ∧ G p = some (.lst vs) ∧ All2 K G R vs as, fun e ⟨p, vs, h, q, r⟩ => ⟨p, vs, h, e _ _ q, r.mono e⟩⟩
/-- a list, also one that is known to the model alone (the script) -/
def sLstK {α : Type} (R : α → Slot) (as : List α) : Slot :=
  ⟨fun K G v => ∃ p vs, v = .ref p ∧ SqL K G p vs ∧ All2 K G R vs as, fun e ⟨p, vs, h, q, r⟩ => ⟨p, vs, h, e.seq q, r.mono e⟩⟩
/-- a tuple of things of one kind -/
def sTupl {α : Type} (R : α → Slot) (as : List α) : Slot :=
  ⟨fun K G v => ∃ p vs, v = .ref p ∧ SqT K G p vs ∧ All2 K G R vs as, fun e ⟨p, vs, h, q, r⟩ => ⟨p, vs, h, sqT_mono e q, r.mono e⟩⟩
/-- a tuple, place by place -/
def sTup (ss : List Slot) : Slot :=
  ⟨fun K G v => ∃ p vs, v = .ref p ∧ SqT K G p vs ∧ AllS K G vs ss, fun e ⟨p, vs, h, q, r⟩ => ⟨p, vs, h, sqT_mono e q, r.mono e⟩⟩
def sOpt {α : Type} (R : α → Slot) : Option α → Slot
  | none => sNon
  | some a => R a

/-! ### owned objects -/
structure Own where
  p : Addr
  φ : Fg → Hp → HO → Prop
  mono : ∀ {K : Fg} {G G' : Hp} {o : HO}, Same G G' → φ K G o → φ K G' o
def oLst {α : Type} (p : Addr) (R : α → Slot) (as : List α) : Own :=
  ⟨p, fun K G o => ∃ vs, o = .lst vs ∧ All2 K G R vs as, fun e ⟨vs, h, r⟩ => ⟨vs, h, r.mono e⟩⟩
/-- a list, place by place -/
def oLstS (p : Addr) (ss : List Slot) : Own :=
  ⟨p, fun K G o => ∃ vs, o = .lst vs ∧ AllS K G vs ss, fun e ⟨vs, h, r⟩ => ⟨vs, h, r.mono e⟩⟩

/-- where a body began: the objects it may change, the frozen heap and the heap at its entry -/
structure Bs where
  A : List Addr
  G : Hp
  H : Hp

/-- the heaps behind B -/
structure Stp (B : Bs) (G H : Hp) : Prop where
  gh : Same G H
  ex : Same B.G G
  fr : ∀ p o, B.H p = some o → p ∉ B.A → H p = some o
  th : ∀ p o, B.H p = some o → ∃ o', H p = some o'
  nf : ∀ p o, B.H p = some o → B.G p = none → G p = none

def EnvOk (K : Fg) (G : Hp) (σ : SS) (δ : List (Option Slot)) : Prop := ∀ (i : Nat) (s : Slot), δ[i]? = some (some s) → ∃ v, σ[i]? = some (some v) ∧ s.ok K G v

structure Sta (K : Fg) (B : Bs) (δ : List (Option Slot)) (O : List Own) (σ : SS) (G H : Hp) : Prop where
  stp : Stp B G H
  env : EnvOk K G σ δ
  len : σ.length = δ.length
  own : ∀ w ∈ O, ∃ o, H w.p = some o ∧ G w.p = none ∧ w.φ K G o
  new : ∀ w ∈ O, w.p ∈ B.A ∨ B.H w.p = none
  nd : (O.map (·.p)).Nodup

section
variable {K : Fg} {B : Bs} {δ : List (Option Slot)} {O O' O2 : List Own} {σ : SS} {G H G' H' : Hp}
theorem EnvOk.mono (e : Same G G') (h : EnvOk K G σ δ) : EnvOk K G' σ δ := fun i s q => let ⟨v, a, b⟩ := h i s q; ⟨v, a, s.mono e b⟩
theorem Stp.refl {A : List Addr} (h : Same G H) : Stp ⟨A, G, H⟩ G H := ⟨h, fun _ _ q => q, fun _ _ q _ => q, fun _ o q => ⟨o, q⟩, fun _ _ _ q => q⟩
/-- a step that lays one new object into both heaps -/
theorem Stp.new {p : Addr} {o : HO} (s : Stp B G H) (hp : H p = none) : Stp B (upd G p o) (upd H p o) := by
  have hne : ∀ q u, H q = some u → q ≠ p := fun q u e => ne_of_none e hp
  refine ⟨fun q u e => ?_, fun q u e => ?_, fun q u e ha => ?_, fun q u e => ?_, fun q u e ng => ?_⟩
  · by_cases hq : q = p
    · subst hq; rw [upd_same] at e ⊢; exact e
    · rw [upd_ne hq] at e ⊢; exact s.gh _ _ e
  · have e1 := s.ex _ _ e
    rw [upd_ne (hne _ _ (s.gh _ _ e1))]; exact e1
  · have e1 := s.fr _ _ e ha
    rw [upd_ne (hne _ _ e1)]; exact e1
  · obtain ⟨o', e1⟩ := s.th _ _ e
    exact ⟨o', by rw [upd_ne (hne _ _ e1)]; exact e1⟩
  · obtain ⟨o', e1⟩ := s.th _ _ e
    rw [upd_ne (hne _ _ e1)]; exact s.nf _ _ e ng
theorem gnone (s : Stp B G H) {p : Addr} (hp : H p = none) : G p = none := by
  cases e : G p with
  | none => rfl
  | some o => rw [s.gh _ _ e] at hp; cases hp
theorem same_new {p : Addr} {o : HO} (hp : G p = none) : Same G (upd G p o) := fun q u e => by rw [upd_ne (ne_of_none e hp)]; exact e

/-- a new frozen object -/
theorem Sta.freshG {p : Addr} {o : HO} (s : Sta K B δ O σ G H) (hp : H p = none) : Sta K B δ O σ (upd G p o) (upd H p o) := by
  have sg := same_new (o := o) (gnone s.stp hp)
  refine ⟨s.stp.new hp, s.env.mono sg, s.len, fun w hw => ?_, s.new, s.nd⟩
  obtain ⟨u, h1, h2, h3⟩ := s.own w hw
  have hn : w.p ≠ p := ne_of_none h1 hp
  exact ⟨u, by rw [upd_ne hn]; exact h1, by rw [upd_ne hn]; exact h2, w.mono sg h3⟩
/-- a new owned object -/
theorem Sta.freshO {p : Addr} {o : HO} {w : Own} (s : Sta K B δ O σ G H) (hp : H p = none) (hw : w.p = p) (hφ : w.φ K G o) : Sta K B δ (w :: O) σ G (upd H p o) := by
  have hne : ∀ q u, H q = some u → q ≠ p := fun q u e => ne_of_none e hp
  refine ⟨⟨fun q u e => ?_, s.stp.ex, fun q u e ha => ?_, fun q u e => ?_, s.stp.nf⟩, s.env, s.len, fun v hv => ?_, fun v hv => ?_, ?_⟩
  · have e1 := s.stp.gh _ _ e
    rw [upd_ne (hne _ _ e1)]; exact e1
  · have e1 := s.stp.fr _ _ e ha
    rw [upd_ne (hne _ _ e1)]; exact e1
  · obtain ⟨o', e1⟩ := s.stp.th _ _ e
    exact ⟨o', by rw [upd_ne (hne _ _ e1)]; exact e1⟩
  · rcases List.mem_cons.mp hv with rfl | hv
    · subst hw
      exact ⟨o, upd_same, gnone s.stp hp, hφ⟩
    · obtain ⟨u, h1, h2, h3⟩ := s.own v hv
      exact ⟨u, by rw [upd_ne (hne _ _ h1)]; exact h1, h2, h3⟩
  · rcases List.mem_cons.mp hv with rfl | hv
    · right
      cases e : B.H v.p with
      | none => rfl
      | some u =>
        obtain ⟨o', e1⟩ := s.stp.th _ _ e
        rw [hw, hp] at e1; cases e1
    · exact s.new v hv
  · rw [List.map_cons, List.nodup_cons]
    refine ⟨fun hm => ?_, s.nd⟩
    obtain ⟨v, hv, e⟩ := List.mem_map.mp hm
    obtain ⟨u, h1, _, _⟩ := s.own v hv
    rw [e, hw, hp] at h1; cases h1
/-- an owned object, new since the entry, is frozen -/
theorem Sta.freeze {w : Own} (s : Sta K B δ (w :: O) σ G H) (hb : B.H w.p = none) : ∃ o, H w.p = some o ∧ w.φ K G o ∧ Sta K B δ O σ (upd G w.p o) H := by
  obtain ⟨o, h1, h2, h3⟩ := s.own w List.mem_cons_self
  have sg := same_new (o := o) h2
  have nd := List.nodup_cons.mp (by have := s.nd; rwa [List.map_cons] at this)
  refine ⟨o, h1, h3, ⟨⟨fun q u e => ?_, fun q u e => ?_, s.stp.fr, s.stp.th, fun q u e ng => ?_⟩, s.env.mono sg, s.len, fun v hv => ?_, fun v hv => s.new v (List.mem_cons_of_mem _ hv), nd.2⟩⟩
  · by_cases hq : q = w.p
    · subst hq; rw [upd_same] at e; cases e; exact h1
    · rw [upd_ne hq] at e; exact s.stp.gh _ _ e
  · exact sg _ _ (s.stp.ex _ _ e)
  · have hq : q ≠ w.p := fun z => by rw [z, hb] at e; cases e
    rw [upd_ne hq]; exact s.stp.nf _ _ e ng
  · obtain ⟨u, g1, g2, g3⟩ := s.own v (List.mem_cons_of_mem _ hv)
    have hq : v.p ≠ w.p := fun z => nd.1 (by rw [← z]; exact List.mem_map.mpr ⟨v, hv, rfl⟩)
    exact ⟨u, g1, by rw [upd_ne hq]; exact g2, v.mono sg g3⟩
/-- an owned object is changed -/
theorem Sta.put {w w' : Own} {o : HO} (s : Sta K B δ (w :: O) σ G H) (hw : w'.p = w.p) (hφ : w'.φ K G o) : Sta K B δ (w' :: O) σ G (upd H w.p o) := by
  obtain ⟨o0, h1, h2, h3⟩ := s.own w List.mem_cons_self
  have nd := List.nodup_cons.mp (by have := s.nd; rwa [List.map_cons] at this)
  have gne : ∀ q u, G q = some u → q ≠ w.p := fun q u e z => by rw [z, h2] at e; cases e
  refine ⟨⟨fun q u e => ?_, s.stp.ex, fun q u e ha => ?_, fun q u e => ?_, s.stp.nf⟩, s.env, s.len, fun v hv => ?_, fun v hv => ?_, ?_⟩
  · rw [upd_ne (gne _ _ e)]; exact s.stp.gh _ _ e
  · have hq : q ≠ w.p := fun z => by
      rcases s.new w List.mem_cons_self with k | k
      · exact ha (by rw [z]; exact k)
      · rw [z, k] at e; cases e
    rw [upd_ne hq]; exact s.stp.fr _ _ e ha
  · by_cases hq : q = w.p
    · exact ⟨o, by rw [hq]; exact upd_same⟩
    · rw [upd_ne hq]; exact s.stp.th _ _ e
  · rcases List.mem_cons.mp hv with rfl | hv
    · exact ⟨o, by rw [hw]; exact upd_same, by rw [hw]; exact h2, hφ⟩
    · obtain ⟨u, g1, g2, g3⟩ := s.own v (List.mem_cons_of_mem _ hv)
      have hq : v.p ≠ w.p := fun z => nd.1 (by rw [← z]; exact List.mem_map.mpr ⟨v, hv, rfl⟩)
      exact ⟨u, by rw [upd_ne hq]; exact g1, g2, g3⟩
  · rcases List.mem_cons.mp hv with rfl | hv
    · rw [hw]; exact s.new w List.mem_cons_self
    · exact s.new v (List.mem_cons_of_mem _ hv)
  · rw [List.map_cons, hw]; exact List.nodup_cons.mpr nd
theorem Sta.perm (s : Sta K B δ O σ G H) (h : ∀ w ∈ O', w ∈ O) (nd : (O'.map (·.p)).Nodup) : Sta K B δ O' σ G H :=
  ⟨s.stp, s.env, s.len, fun w hw => s.own w (h w hw), fun w hw => s.new w (h w hw), nd⟩
/-- a slot is set -/
theorem Sta.set {i : Nat} {v : V} {sl : Slot} (s : Sta K B δ O σ G H) (h : sl.ok K G v) : Sta K B (δ.set i (some sl)) O (σ.set i (some v)) G H := by
  refine ⟨s.stp, fun j t e => ?_, by rw [List.length_set, List.length_set]; exact s.len, s.own, s.new, s.nd⟩
  by_cases hj : i = j
  · subst hj
    by_cases hi : i < δ.length
    · rw [List.getElem?_set_self hi] at e
      cases e
      exact ⟨v, by rw [List.getElem?_set_self (by rw [s.len]; exact hi)], h⟩
    · rw [List.getElem?_eq_none (by rw [List.length_set]; omega)] at e; cases e
  · rw [List.getElem?_set_ne hj] at e
    obtain ⟨u, a, b⟩ := s.env j t e
    exact ⟨u, by rw [List.getElem?_set_ne hj]; exact a, b⟩
theorem Sta.weak {δ' : List (Option Slot)} (s : Sta K B δ O σ G H) (hl : δ'.length = δ.length) (h : ∀ (i : Nat) (t : Slot), δ'[i]? = some (some t) → ∃ u : Slot, δ[i]? = some (some u) ∧ ∀ K G v, u.ok K G v → t.ok K G v) : Sta K B δ' O σ G H :=
  ⟨s.stp, fun i t e => let ⟨u, e1, f⟩ := h i t e; let ⟨v, a, b⟩ := s.env i u e1; ⟨v, a, f _ _ _ b⟩, s.len.trans hl.symm, s.own, s.new, s.nd⟩
/-- an inner run ends: what it may change is owned here -/
theorem Stp.trans {A : List Addr} (s : Stp B G H) (t : Stp ⟨A, G, H⟩ G' H') (ha : ∀ p ∈ A, p ∈ B.A ∨ B.H p = none) : Stp B G' H' := by
  refine ⟨t.gh, fun q u e => t.ex _ _ (s.ex _ _ e), fun q u e hn => ?_, fun q u e => ?_, fun q u e ng => ?_⟩
  · refine t.fr _ _ (s.fr _ _ e hn) fun hq => ?_
    rcases ha q hq with k | k
    · exact hn k
    · rw [e] at k; cases k
  · obtain ⟨o, e1⟩ := s.th _ _ e
    exact t.th _ _ e1
  · obtain ⟨o, e1⟩ := s.th _ _ e
    exact t.nf _ _ e1 (s.nf _ _ e ng)
/-- behind an inner run that may change the objects W -/
theorem Sta.ran {W W' : List Own} (s : Sta K B δ (W ++ O) σ G H) (t : Stp ⟨W.map (·.p), G, H⟩ G' H') (hp : W'.map (·.p) = W.map (·.p))
    (ow : ∀ w ∈ W', ∃ o, H' w.p = some o ∧ G' w.p = none ∧ w.φ K G' o) : Sta K B δ (W' ++ O) σ G' H' := by
  have nd := s.nd
  rw [List.map_append] at nd
  refine ⟨s.stp.trans t fun p hp' => ?_, s.env.mono t.ex, s.len, fun w hw => ?_, fun w hw => ?_, ?_⟩
  · obtain ⟨w, hw, e⟩ := List.mem_map.mp hp'
    rw [← e]; exact s.new w (List.mem_append_left _ hw)
  · rcases List.mem_append.mp hw with hw | hw
    · exact ow w hw
    · obtain ⟨o, h1, h2, h3⟩ := s.own w (List.mem_append_right _ hw)
      have hn : w.p ∉ W.map (·.p) := fun z => (List.nodup_append.mp nd).2.2 _ z _ (List.mem_map.mpr ⟨w, hw, rfl⟩) rfl
      exact ⟨o, t.fr _ _ h1 hn, t.nf _ _ h1 h2, w.mono t.ex h3⟩
  · rcases List.mem_append.mp hw with hw | hw
    · have : w.p ∈ W.map (·.p) := by rw [← hp]; exact List.mem_map.mpr ⟨w, hw, rfl⟩
      obtain ⟨v, hv, e⟩ := List.mem_map.mp this
      rw [← e]; exact s.new v (List.mem_append_left _ hv)
    · exact s.new w (List.mem_append_right _ hw)
  · rw [List.map_append, hp]; exact nd
end

/-! ### the weakest readings (structures: a def would be unfolded, and the text run, by whoever looks at a goal's head) -/
structure wE (X : Cx) (e : Expr) (σ : SS) (H : Hp) (Q : VK) : Prop where
  run : ∀ (pins : List (Addr × Obj)) (s : Shared), Inv X pins σ H s → wpAny (model X.prog X.w) X.A (eval e X.env) (EP X pins σ Q) X.xe s
structure wT (X : Cx) (e : Expr) (σ : SS) (H : Hp) (Q : Bool → Hp → Prop) : Prop where
  run : ∀ (pins : List (Addr × Obj)) (s : Shared), Inv X pins σ H s → wpAny (model X.prog X.w) X.A (isTrue e X.env (eval e X.env)) (TP X pins σ Q) X.xe s
structure wA (X : Cx) (es : List Expr) (σ : SS) (H : Hp) (Q : List V → Hp → Prop) : Prop where
  run : ∀ (pos : Pos) (pins : List (Addr × Obj)) (s : Shared), Inv X pins σ H s → wpAny (model X.prog X.w) X.A (spliced (backTo pos (starEach es X.env))) (AP X pins σ Q) X.xe s
structure wS (X : Cx) (st : Stmt) (D : Ends) (σ : SS) (H : Hp) : Prop where
  run : ∀ (pins : List (Addr × Obj)) (s : Shared), Inv X pins σ H s → wpAny (model X.prog X.w) X.A (exec st X.env) (SP X pins D) X.xe s
structure wSs (X : Cx) (st : List Stmt) (D : Ends) (σ : SS) (H : Hp) : Prop where
  run : ∀ (pins : List (Addr × Obj)) (s : Shared), Inv X pins σ H s → wpAny (model X.prog X.w) X.A (execs st X.env) (SP X pins D) X.xe s
section
variable {X : Cx} {e : Expr} {es : List Expr} {st : Stmt} {sts : List Stmt} {σ : SS} {H : Hp}
theorem pe_w : PE X e (wE X e) := ⟨fun pins s _ _ _ I h => h.run pins s I⟩
theorem pt_w : PT X e (wT X e) := ⟨fun pins s _ _ _ I h => h.run pins s I⟩
theorem pa_w : PA X es (wA X es) := ⟨fun pos pins s _ _ _ I h => h.run pos pins s I⟩
theorem ps_w : PS X st (wS X st) := ⟨fun pins s _ _ _ I h => h.run pins s I⟩
theorem pss_w : PSs X sts (wSs X sts) := ⟨fun pins s _ _ _ I h => h.run pins s I⟩
theorem e_of {t : TE} {Q : VK} (h : PE X e t) (q : t σ H Q) : wE X e σ H Q := ⟨fun pins s I => h.run pins s σ H Q I q⟩
theorem t_of {t : TT} {Q : Bool → Hp → Prop} (h : PT X e t) (q : t σ H Q) : wT X e σ H Q := ⟨fun pins s I => h.run pins s σ H Q I q⟩
theorem a_of {t : TA} {Q : List V → Hp → Prop} (h : PA X es t) (q : t σ H Q) : wA X es σ H Q := ⟨fun pos pins s I => h.run pos pins s σ H Q I q⟩
theorem s_of {t : TS} {D : Ends} (h : PS X st t) (q : t D σ H) : wS X st D σ H := ⟨fun pins s I => h.run pins s σ H D I q⟩
theorem ss_of {t : TS} {D : Ends} (h : PSs X sts t) (q : t D σ H) : wSs X sts D σ H := ⟨fun pins s I => h.run pins s σ H D I q⟩
end

/-! ### the judgements over data -/
/-- e gives a value of which s is known; the owned objects are then O' -/
def E (X : Cx) (δ : List (Option Slot)) (O : List Own) (e : Expr) (s : Slot) (O' : List Own) : Prop :=
  ∀ (B : Bs) (σ : SS) (G H : Hp) (Q : VK), Sta X.K B δ O σ G H → (∀ v G' H', Same G G' → Sta X.K B δ O' σ G' H' → s.ok X.K G' v → Q v H') → wE X e σ H Q
/-- e makes an object of which φ is known -/
def EW (X : Cx) (δ : List (Option Slot)) (O : List Own) (e : Expr) (φ : Addr → Own) (O' : List Own) : Prop :=
  ∀ (B : Bs) (σ : SS) (G H : Hp) (Q : VK), Sta X.K B δ O σ G H → (∀ p G' H', B.H p = none → Same G G' → Sta X.K B δ (φ p :: O') σ G' H' → Q (.ref p) H') → wE X e σ H Q
def EA (X : Cx) (δ : List (Option Slot)) (O : List Own) (es : List Expr) (ss : List Slot) (O' : List Own) : Prop :=
  ∀ (B : Bs) (σ : SS) (G H : Hp) (Q : List V → Hp → Prop), Sta X.K B δ O σ G H → (∀ vs G' H', Same G G' → Sta X.K B δ O' σ G' H' → AllS X.K G' vs ss → Q vs H') → wA X es σ H Q
/-- a test -/
def T (X : Cx) (δ : List (Option Slot)) (O : List Own) (e : Expr) (b : Bool) (O' : List Own) : Prop :=
  ∀ (B : Bs) (σ : SS) (G H : Hp) (Q : Bool → Hp → Prop), Sta X.K B δ O σ G H → (∀ G' H', Same G G' → Sta X.K B δ O' σ G' H' → Q b H') → wT X e σ H Q
/-- statements, to the ends D -/
def J (X : Cx) (B : Bs) (δ : List (Option Slot)) (O : List Own) (st : List Stmt) (D : Ends) : Prop :=
  ∀ (σ : SS) (G H : Hp), Sta X.K B δ O σ G H → wSs X st D σ H
/-- an operation, a call, by values -/
def OpD (K : Fg) (r : R2) (s1 s2 s3 : Slot) : Prop :=
  ∀ (B : Bs) (δ : List (Option Slot)) (O : List Own) (σ : SS) (G H : Hp) (Q : VK) (x y : V), Sta K B δ O σ G H → s1.ok K G x → s2.ok K G y →
    (∀ v G' H', Same G G' → Sta K B δ O σ G' H' → s3.ok K G' v → Q v H') → r x y H Q
def OpW (K : Fg) (r : R2) (s1 s2 : Slot) (φ : Addr → Own) : Prop :=
  ∀ (B : Bs) (δ : List (Option Slot)) (O : List Own) (σ : SS) (G H : Hp) (Q : VK) (x y : V), Sta K B δ O σ G H → s1.ok K G x → s2.ok K G y →
    (∀ p G' H', B.H p = none → Same G G' → Sta K B δ (φ p :: O) σ G' H' → Q (.ref p) H') → r x y H Q
def ArD (K : Fg) (r : List V → Hp → VK → Prop) (ss : List Slot) (s3 : Slot) : Prop :=
  ∀ (B : Bs) (δ : List (Option Slot)) (O : List Own) (σ : SS) (G H : Hp) (Q : VK) (xs : List V), Sta K B δ O σ G H → AllS K G xs ss →
    (∀ v G' H', Same G G' → Sta K B δ O σ G' H' → s3.ok K G' v → Q v H') → r xs H Q
def ArW (K : Fg) (r : List V → Hp → VK → Prop) (ss : List Slot) (φ : Addr → Own) : Prop :=
  ∀ (B : Bs) (δ : List (Option Slot)) (O : List Own) (σ : SS) (G H : Hp) (Q : VK) (xs : List V), Sta K B δ O σ G H → AllS K G xs ss →
    (∀ p G' H', B.H p = none → Same G G' → Sta K B δ (φ p :: O) σ G' H' → Q (.ref p) H') → r xs H Q
def OpE (X : Cx) (f : Value → Value → Sem Value) (s1 s2 s3 : Slot) : Prop := ∃ r, OpR X f r ∧ OpD X.K r s1 s2 s3
def OpEW (X : Cx) (f : Value → Value → Sem Value) (s1 s2 : Slot) (φ : Addr → Own) : Prop := ∃ r, OpR X f r ∧ OpW X.K r s1 s2 φ
def IxE (X : Cx) (s1 s2 s3 : Slot) : Prop := ∃ r, IxR X r ∧ OpD X.K r s1 s2 s3
def CallE (X : Cx) (f : Value) (ss : List Slot) (s3 : Slot) : Prop := ∃ r, CallR X f r ∧ ArD X.K r ss s3
def CallW (X : Cx) (f : Value) (ss : List Slot) (φ : Addr → Own) : Prop := ∃ r, CallR X f r ∧ ArW X.K r ss φ

/-- what a def promises, over data: i the ghosts -/
structure FS (ι : Type) where
  args : ι → List Slot
  pre : ι → Prop := fun _ => True
  own : ι → List Own := fun _ => []
  res : ι → Slot
  own' : ι → List Own := fun _ => []
def FS.sp {ι : Type} (S : FS ι) (K : Fg) : Sp := fun vs H Q _ => ∃ (i : ι) (G : Hp), S.pre i ∧ Same G H ∧ AllS K G vs (S.args i) ∧ (∀ w ∈ S.own i, ∃ o, H w.p = some o ∧ G w.p = none ∧ w.φ K G o) ∧ ((S.own i).map (·.p)).Nodup ∧
  ∀ v G' H', Stp ⟨(S.own i).map (·.p), G, H⟩ G' H' → (∀ w ∈ S.own' i, ∃ o, H' w.p = some o ∧ G' w.p = none ∧ w.φ K G' o) → (S.res i).ok K G' v → Q v H'
end Gd

namespace Gd
open PySem L2
section
variable {X : Cx} {B : Bs} {δ : List (Option Slot)} {O O1 O2 O3 : List Own} {a b c e : Expr} {es : List Expr} {x : Str} {p pos : Pos} {i : Nat} {s s1 s2 s3 : Slot} {ss : List Slot} {α : Type} {R : α → Slot}

/-! ### from made objects to values -/
theorem e_freeze {φ : Addr → Own} (h : EW X δ O e φ O1) (hp : ∀ p, (φ p).p = p) (hs : ∀ (K : Fg) (G : Hp) (p : Addr) (o : HO), (φ p).φ K G o → G p = none → s.ok K (upd G p o) (.ref p)) : E X δ O e s O1 := by
  intro B σ G H Q st k
  refine h B σ G H Q st fun p G' H' hb sm st' => ?_
  obtain ⟨o, h1, h2, st2⟩ := st'.freeze (by rw [hp]; exact hb)
  have gp : G' p = none := by
    obtain ⟨_, _, g, _⟩ := st'.own (φ p) List.mem_cons_self
    rw [hp] at g; exact g
  rw [hp] at h1 st2
  exact k _ _ _ (fun q u z => same_new gp _ _ (sm _ _ z)) st2 (hs _ _ _ _ h2 gp)
theorem frz_lst {as : List α} (K : Fg) (G : Hp) (p : Addr) (o : HO) (h : (oLst p R as).φ K G o) (g : G p = none) : (sLst R as).ok K (upd G p o) (.ref p) := by
  obtain ⟨vs, rfl, r⟩ := h
  exact ⟨p, vs, rfl, upd_same, r.mono (same_new g)⟩
theorem e_lst {as : List α} (h : EW X δ O e (fun p => oLst p R as) O1) : E X δ O e (sLst R as) O1 := e_freeze h (fun _ => rfl) frz_lst

/-! ### names, constants -/
theorem e_name (i : Nat) (hN : X.N[i]? = some x := by rfl) (hd : δ[i]? = some (some s) := by rfl)
    (hv : Vis X.env.scope x := by first | exact Or.inl rfl | exact Or.inr (Or.inl rfl) | exact Or.inr (Or.inr rfl)) (h1 : (x == ("__debug__" : Str)) = false := by decide) (h2 : (x == ("__classdict__" : Str)) = false := by decide) : E X δ O (.Name x pos) s O := by
  intro B σ G H Q st k
  obtain ⟨v, e, hs⟩ := st.env i s hd
  exact e_of (pe_var hN hv h1 h2) ⟨v, e, k v G H (Same.refl _) st hs⟩
theorem e_int {n : Int} {j} : E X δ O (.Constant (.int n) j pos) (sInt n) O := fun B σ G H Q st k => e_of pe_int (k _ G H (Same.refl _) st rfl)
theorem e_bl {n : Bool} {j} : E X δ O (.Constant (.bool n) j pos) (sBl n) O := fun B σ G H Q st k => e_of pe_bl (k _ G H (Same.refl _) st rfl)
theorem e_non {j} : E X δ O (.Constant .none j pos) sNon O := fun B σ G H Q st k => e_of pe_non (k _ G H (Same.refl _) st rfl)
theorem e_str {z : Str} {j} : E X δ O (.Constant (.str z) j pos) (sStr z) O := fun B σ G H Q st k => e_of pe_str (k _ G H (Same.refl _) st rfl)
/-- a module's name: what it holds, known as s in the written part -/
theorem e_glob {v : V} {u : Value} (hm : X.mg x = some u) (r : RelV v u) (hs : ∀ G, s.ok X.K G v) (hg : Gl X x := by rfl) (hd : (x == ("__debug__" : Str)) = false := by decide) : E X δ O (.Name x pos) s O :=
  fun B σ G H Q st k => e_of (pe_glob hg hm r hd) (k _ G H (Same.refl _) st (hs G))
theorem e_bltn {v : V} {u : Value} (hm : X.mg x = none) (hv : bootBuiltins x = some u) (r : RelV v u) (hg : Gl X x := by rfl) (hn : x ≠ "__name__" := by decide) (hd : (x == ("__debug__" : Str)) = false := by decide) : E X δ O (.Name x pos) (sVal v) O :=
  fun B σ G H Q st k => e_of (pe_bltn hg hm hv r hn hd) (k _ G H (Same.refl _) st rfl)
theorem e_gint {n : Int} {t : Tok} (hm : X.mg x = some (.int n t)) (hg : Gl X x := by rfl) (hd : (x == ("__debug__" : Str)) = false := by decide) : E X δ O (.Name x pos) (sInt n) O := e_glob (v := .int n) hm ⟨t, rfl⟩ (fun _ => rfl) hg hd
theorem e_gstr {n : Str} {t : Tok} (hm : X.mg x = some (.str n t)) (hg : Gl X x := by rfl) (hd : (x == ("__debug__" : Str)) = false := by decide) : E X δ O (.Name x pos) (sStr n) O := e_glob (v := .str n) hm ⟨t, rfl⟩ (fun _ => rfl) hg hd
theorem e_gref {a : Addr} (hm : X.mg x = some (.ref a)) (hg : Gl X x := by rfl) (hd : (x == ("__debug__" : Str)) = false := by decide) : E X δ O (.Name x pos) (sRef a) O := e_glob (v := .ref a) hm rfl (fun _ => rfl) hg hd
theorem e_ty (n : String) (hm : X.mg x = none) (hv : bootBuiltins x = some (.type n)) (hg : Gl X x := by rfl) (hn : x ≠ "__name__" := by decide) (hd : (x == ("__debug__" : Str)) = false := by decide) : E X δ O (.Name x pos) (sVal (.ty n)) O := e_bltn hm hv rfl hg hn hd
theorem e_imp (h : E X δ O e s O1) (hs : ∀ K G v, s.ok K G v → s1.ok K G v) : E X δ O e s1 O1 := fun B σ G H Q st k => h B σ G H Q st fun v G' H' sm st' hv => k v G' H' sm st' (hs _ _ _ hv)
theorem e_eq (h : E X δ O e s O1) (hs : s = s1) : E X δ O e s1 O1 := hs ▸ h

/-! ### operators -/
theorem e_bin {op : Operator} (ho : OpE X (binaryOp op) s1 s2 s3) (ha : E X δ O a s1 O1) (hb : E X δ O1 b s2 O2) : E X δ O (.BinOp a op b pos) s3 O2 := by
  obtain ⟨r, h1, h2⟩ := ho
  intro B σ G H Q st k
  refine e_of (pe_op h1 pe_w pe_w) ?_
  exact ha B σ G H _ st fun x G1 H1 m1 st1 hx => hb B σ G1 H1 _ st1 fun y G2 H2 m2 st2 hy => h2 B δ O2 σ G2 H2 Q x y st2 (s1.mono m2 hx) hy fun v G' H' m3 st3 hv => k v G' H' (m1.trans (m2.trans m3)) st3 hv
theorem ew_bin {op : Operator} {φ : Addr → Own} (ho : OpEW X (binaryOp op) s1 s2 φ) (ha : E X δ O a s1 O1) (hb : E X δ O1 b s2 O2) : EW X δ O (.BinOp a op b pos) φ O2 := by
  obtain ⟨r, h1, h2⟩ := ho
  intro B σ G H Q st k
  refine e_of (pe_op h1 pe_w pe_w) ?_
  exact ha B σ G H _ st fun x G1 H1 m1 st1 hx => hb B σ G1 H1 _ st1 fun y G2 H2 m2 st2 hy => h2 B δ O2 σ G2 H2 Q x y st2 (s1.mono m2 hx) hy fun v G' H' hb m3 st3 => k v G' H' hb (m1.trans (m2.trans m3)) st3
theorem e_cmp {op : CmpOp} (ho : OpE X (compareOp op) s1 s2 s3) (ha : E X δ O a s1 O1) (hb : E X δ O1 b s2 O2) (hm : noSet b = true := by rfl) : E X δ O (.Compare a [op] [b] pos) s3 O2 := by
  obtain ⟨r, h1, h2⟩ := ho
  intro B σ G H Q st k
  refine e_of (pe_cmpR h1 pe_w pe_w (marks_plain hm)) ?_
  exact ha B σ G H _ st fun x G1 H1 m1 st1 hx => hb B σ G1 H1 _ st1 fun y G2 H2 m2 st2 hy => h2 B δ O2 σ G2 H2 Q x y st2 (s1.mono m2 hx) hy fun v G' H' m3 st3 hv => k v G' H' (m1.trans (m2.trans m3)) st3 hv
theorem t_cmp {op : CmpOp} {k : Bool} (ho : OpE X (compareOp op) s1 s2 (sBl k)) (ha : E X δ O a s1 O1) (hb : E X δ O1 b s2 O2) (hm : noSet b = true := by rfl) : T X δ O (.Compare a [op] [b] pos) k O2 := by
  obtain ⟨r, h1, h2⟩ := ho
  intro B σ G H Q st q
  refine t_of (pt_cmpR h1 pe_w pe_w (marks_plain hm)) ?_
  exact ha B σ G H _ st fun x G1 H1 m1 st1 hx => hb B σ G1 H1 _ st1 fun y G2 H2 m2 st2 hy => h2 B δ O2 σ G2 H2 _ x y st2 (s1.mono m2 hx) hy fun v G' H' m3 st3 hv => ⟨k, hv, q G' H' (m1.trans (m2.trans m3)) st3⟩
theorem e_chain {op op' : CmpOp} {k k' : Bool} (ho : OpE X (compareOp op) s1 s2 (sBl k)) (ho' : k = true → OpE X (compareOp op') s2 s3 (sBl k')) (ha : E X δ O a s1 O) (hb : E X δ O b s2 O) (hc : E X δ O c s3 O)
    (hm : noSet c = true := by rfl) : E X δ O (.Compare a [op, op'] [b, c] pos) (sBl (k && k')) O := by
  obtain ⟨r, h1, h2⟩ := ho
  intro B σ G H Q st q
  cases k with
  | false =>
    refine e_of (pe_chain (r' := fun _ _ _ _ => False) h1 (fun _ _ _ _ _ _ _ _ _ _ _ _ z => z.elim) pe_w pe_w pe_w (marks_plain (op := op') hm)) ?_
    exact ha B σ G H _ st fun x G1 H1 m1 st1 hx => hb B σ G1 H1 _ st1 fun y G2 H2 m2 st2 hy => h2 B δ O σ G2 H2 _ x y st2 (s1.mono m2 hx) hy fun v G' H' m3 st3 hv =>
      ⟨false, hv, iteF (q _ G' H' (m1.trans (m2.trans m3)) st3 rfl)⟩
  | true =>
    obtain ⟨r', h1', h2'⟩ := ho' rfl
    refine e_of (pe_chain h1 h1' pe_w pe_w pe_w (marks_plain (op := op') hm)) ?_
    exact ha B σ G H _ st fun x G1 H1 m1 st1 hx => hb B σ G1 H1 _ st1 fun y G2 H2 m2 st2 hy => h2 B δ O σ G2 H2 _ x y st2 (s1.mono m2 hx) hy fun v G3 H3 m3 st3 hv =>
      ⟨true, hv, iteT (hc B σ G3 H3 _ st3 fun z G4 H4 m4 st4 hz => h2' B δ O σ G4 H4 _ y z st4 (s2.mono (m3.trans m4) hy) hz fun v' G' H' m5 st5 hv' =>
        q _ G' H' (m1.trans (m2.trans (m3.trans (m4.trans m5)))) st5 hv')⟩
theorem t_chain {op op' : CmpOp} {k k' : Bool} (ho : OpE X (compareOp op) s1 s2 (sBl k)) (ho' : k = true → OpE X (compareOp op') s2 s3 (sBl k')) (ha : E X δ O a s1 O) (hb : E X δ O b s2 O) (hc : E X δ O c s3 O)
    (hm : noSet c = true := by rfl) : T X δ O (.Compare a [op, op'] [b, c] pos) (k && k') O := by
  obtain ⟨r, h1, h2⟩ := ho
  intro B σ G H Q st q
  cases k with
  | false =>
    refine t_of (pt_chain (r' := fun _ _ _ _ => False) h1 (fun _ _ _ _ _ _ _ _ _ _ _ _ z => z.elim) pe_w pe_w pe_w (marks_plain (op := op') hm)) ?_
    exact ha B σ G H _ st fun x G1 H1 m1 st1 hx => hb B σ G1 H1 _ st1 fun y G2 H2 m2 st2 hy => h2 B δ O σ G2 H2 _ x y st2 (s1.mono m2 hx) hy fun v G' H' m3 st3 hv =>
      ⟨false, hv, iteF ⟨false, rfl, q G' H' (m1.trans (m2.trans m3)) st3⟩⟩
  | true =>
    obtain ⟨r', h1', h2'⟩ := ho' rfl
    refine t_of (pt_chain h1 h1' pe_w pe_w pe_w (marks_plain (op := op') hm)) ?_
    exact ha B σ G H _ st fun x G1 H1 m1 st1 hx => hb B σ G1 H1 _ st1 fun y G2 H2 m2 st2 hy => h2 B δ O σ G2 H2 _ x y st2 (s1.mono m2 hx) hy fun v G3 H3 m3 st3 hv =>
      ⟨true, hv, iteT (hc B σ G3 H3 _ st3 fun z G4 H4 m4 st4 hz => h2' B δ O σ G4 H4 _ y z st4 (s2.mono (m3.trans m4) hy) hz fun v' G' H' m5 st5 hv' =>
        ⟨k', hv', q G' H' (m1.trans (m2.trans (m3.trans (m4.trans m5)))) st5⟩)⟩

/-! ### and, or, not, if .. else -/
variable {u v w : Bool}
theorem e_one {op} (h : E X δ O a s O1) : E X δ O (.BoolOp op [a] pos) s O1 := fun B σ G H Q st k => e_of (pe_one pe_w) (h B σ G H Q st k)
theorem e_and (ha : E X δ O a (sBl u) O1) (hb : u = true → E X δ O1 (.BoolOp .And (b :: es) pos) (sBl v) O1) : E X δ O (.BoolOp .And (a :: b :: es) pos) (sBl (u && v)) O1 := by
  intro B σ G H Q st k
  refine e_of (pe_and pe_w pe_w) ?_
  refine ha B σ G H _ st fun x G1 H1 m1 st1 hx => ⟨u, hx, ?_⟩
  cases u with
  | false => exact iteF (k _ G1 H1 m1 st1 rfl)
  | true => exact iteT (hb rfl B σ G1 H1 _ st1 fun y G2 H2 m2 st2 hy => k y G2 H2 (m1.trans m2) st2 hy)
theorem e_or (ha : E X δ O a (sBl u) O1) (hb : u = false → E X δ O1 (.BoolOp .Or (b :: es) pos) (sBl v) O1) : E X δ O (.BoolOp .Or (a :: b :: es) pos) (sBl (u || v)) O1 := by
  intro B σ G H Q st k
  refine e_of (pe_or pe_w pe_w) ?_
  refine ha B σ G H _ st fun x G1 H1 m1 st1 hx => ⟨u, hx, ?_⟩
  cases u with
  | true => exact iteT (k _ G1 H1 m1 st1 rfl)
  | false => exact iteF (hb rfl B σ G1 H1 _ st1 fun y G2 H2 m2 st2 hy => k y G2 H2 (m1.trans m2) st2 hy)
theorem e_not (ha : E X δ O a (sBl u) O1) : E X δ O (.UnaryOp .Not a pos) (sBl (!u)) O1 := by
  intro B σ G H Q st k
  refine e_of (pe_not pe_w) ?_
  exact ha B σ G H _ st fun x G1 H1 m1 st1 hx => ⟨u, hx, k _ G1 H1 m1 st1 rfl⟩
theorem e_neg {n : Int} (ha : E X δ O a (sInt n) O1) : E X δ O (.UnaryOp .USub a pos) (sInt (-n)) O1 := by
  intro B σ G H Q st k
  refine e_of (pe_un un_neg pe_w) ?_
  exact ha B σ G H _ st fun x G1 H1 m1 st1 hx => ⟨n, hx, k _ G1 H1 m1 st1 rfl⟩
theorem e_ife {φ : Bool → Slot} (ht : T X δ O c u O1) (ha : u = true → E X δ O1 a s O2) (hb : u = false → E X δ O1 b s O2) : E X δ O (.IfExp c a b pos) s O2 := by
  intro B σ G H Q st k
  refine e_of (pe_ifExp pt_w pe_w pe_w) ?_
  refine ht B σ G H _ st fun G1 H1 m1 st1 => ?_
  cases u with
  | true => exact iteT (ha rfl B σ G1 H1 _ st1 fun y G2 H2 m2 st2 hy => k y G2 H2 (m1.trans m2) st2 hy)
  | false => exact iteF (hb rfl B σ G1 H1 _ st1 fun y G2 H2 m2 st2 hy => k y G2 H2 (m1.trans m2) st2 hy)

/-! ### tests -/
theorem t_val (h : E X δ O e (sBl u) O1) (he : plainTest e = true := by rfl) : T X δ O e u O1 := by
  intro B σ G H Q st k
  refine t_of (pt_val pe_w (isTrue_val he)) ?_
  exact h B σ G H _ st fun x G1 H1 m1 st1 hx => ⟨u, hx, k G1 H1 m1 st1⟩
theorem t_not (h : T X δ O a u O1) : T X δ O (.UnaryOp .Not a pos) (!u) O1 := by
  intro B σ G H Q st k
  refine t_of (pt_not pt_w) ?_
  exact h B σ G H _ st fun G1 H1 m1 st1 => k G1 H1 m1 st1
/-- a chain of and, or as a test -/
def TW (X : Cx) (δ : List (Option Slot)) (O : List Own) (e : Expr) (b : Bool) (O' : List Own) : Prop :=
  ∃ t, PW X e t ∧ ∀ (B : Bs) (σ : SS) (G H : Hp) (Q : Bool → Hp → Prop), Sta X.K B δ O σ G H → (∀ G' H', Same G G' → Sta X.K B δ O' σ G' H' → Q b H') → t σ H Q
theorem t_w (h : TW X δ O e u O1) : T X δ O e u O1 := by
  obtain ⟨t, h1, h2⟩ := h
  exact fun B σ G H Q st k => t_of h1.pt (h2 B σ G H Q st k)
theorem tw_and1 (h : T X δ O a u O1) : TW X δ O (.BoolOp .And [a] pos) u O1 := ⟨_, pw_and1 pt_w, fun B σ G H Q st k => h B σ G H Q st k⟩
theorem tw_or1 (h : T X δ O a u O1) : TW X δ O (.BoolOp .Or [a] pos) u O1 := ⟨_, pw_or1 pt_w, fun B σ G H Q st k => h B σ G H Q st k⟩
theorem pw_never {e : Expr} : PW X e (fun _ _ _ => False) := ⟨fun _ _ _ _ _ _ _ h => h.elim⟩
theorem tw_and (ha : T X δ O a u O1) (hb : u = true → TW X δ O1 (.BoolOp .And (b :: es) pos) v O1) : TW X δ O (.BoolOp .And (a :: b :: es) pos) (u && v) O1 := by
  cases u with
  | false => exact ⟨_, pw_and pt_w pw_never, fun B σ G H Q st k => ha B σ G H _ st fun G1 H1 m1 st1 => iteF (k G1 H1 m1 st1)⟩
  | true =>
    obtain ⟨t, h1, h2⟩ := hb rfl
    exact ⟨_, pw_and pt_w h1, fun B σ G H Q st k => ha B σ G H _ st fun G1 H1 m1 st1 => iteT (h2 B σ G1 H1 Q st1 fun G2 H2 m2 st2 => k G2 H2 (m1.trans m2) st2)⟩
theorem tw_or (ha : T X δ O a u O1) (hb : u = false → TW X δ O1 (.BoolOp .Or (b :: es) pos) v O1) : TW X δ O (.BoolOp .Or (a :: b :: es) pos) (u || v) O1 := by
  cases u with
  | true => exact ⟨_, pw_or pt_w pw_never, fun B σ G H Q st k => ha B σ G H _ st fun G1 H1 m1 st1 => iteT (k G1 H1 m1 st1)⟩
  | false =>
    obtain ⟨t, h1, h2⟩ := hb rfl
    exact ⟨_, pw_or pt_w h1, fun B σ G H Q st k => ha B σ G H _ st fun G1 H1 m1 st1 => iteF (h2 B σ G1 H1 Q st1 fun G2 H2 m2 st2 => k G2 H2 (m1.trans m2) st2)⟩
theorem t_eq (h : T X δ O e u O1) (he : u = v) : T X δ O e v O1 := he ▸ h

/-- the same, the second part asked in any case -/
theorem e_and2 (ha : E X δ O a (sBl u) O1) (hb : E X δ O1 (.BoolOp .And (b :: es) pos) (sBl v) O1) : E X δ O (.BoolOp .And (a :: b :: es) pos) (sBl (u && v)) O1 := e_and ha fun _ => hb
theorem e_or2 (ha : E X δ O a (sBl u) O1) (hb : E X δ O1 (.BoolOp .Or (b :: es) pos) (sBl v) O1) : E X δ O (.BoolOp .Or (a :: b :: es) pos) (sBl (u || v)) O1 := e_or ha fun _ => hb
theorem tw_and2 (ha : T X δ O a u O1) (hb : TW X δ O1 (.BoolOp .And (b :: es) pos) v O1) : TW X δ O (.BoolOp .And (a :: b :: es) pos) (u && v) O1 := tw_and ha fun _ => hb
theorem tw_or2 (ha : T X δ O a u O1) (hb : TW X δ O1 (.BoolOp .Or (b :: es) pos) v O1) : TW X δ O (.BoolOp .Or (a :: b :: es) pos) (u || v) O1 := tw_or ha fun _ => hb
/-- the first part decides -/
theorem tw_andF (ha : T X δ O a false O1) : TW X δ O (.BoolOp .And (a :: b :: es) pos) false O1 := tw_and (v := false) ha fun h => nomatch h
theorem tw_orT (ha : T X δ O a true O1) : TW X δ O (.BoolOp .Or (a :: b :: es) pos) true O1 := tw_or (v := true) ha fun h => nomatch h
theorem e_andF (ha : E X δ O a (sBl false) O1) : E X δ O (.BoolOp .And (a :: b :: es) pos) (sBl false) O1 := e_and (v := false) ha fun h => nomatch h
theorem e_orT (ha : E X δ O a (sBl true) O1) : E X δ O (.BoolOp .Or (a :: b :: es) pos) (sBl true) O1 := e_or (v := true) ha fun h => nomatch h

/-! ### argument lists, displays -/
theorem ea_nil : EA X δ O [] [] O := fun B σ G H Q st k => a_of pa_nil (k _ G H (Same.refl _) st .nil)
theorem ea_cons (ha : E X δ O e s O1) (hr : EA X δ O1 es ss O2) (hs : noStar e = true := by rfl) : EA X δ O (e :: es) (s :: ss) O2 := by
  intro B σ G H Q st k
  refine a_of (pa_cons pe_w pa_w (starEach_plain hs)) ?_
  exact ha B σ G H _ st fun x G1 H1 m1 st1 hx => hr B σ G1 H1 _ st1 fun xs G2 H2 m2 st2 hxs => k _ G2 H2 (m1.trans m2) st2 (.cons (s.mono m2 hx) hxs)
/-- a list's items, one kind -/
def EL (X : Cx) (δ : List (Option Slot)) (O : List Own) {α : Type} (R : α → Slot) (es : List Expr) (as : List α) (O' : List Own) : Prop :=
  ∀ (B : Bs) (σ : SS) (G H : Hp) (Q : List V → Hp → Prop), Sta X.K B δ O σ G H → (∀ vs G' H', Same G G' → Sta X.K B δ O' σ G' H' → All2 X.K G' R vs as → Q vs H') → wA X es σ H Q
theorem el_nil : EL X δ O R [] [] O := fun B σ G H Q st k => a_of pa_nil (k _ G H (Same.refl _) st .nil)
theorem el_cons {y : α} {ys : List α} (ha : E X δ O e (R y) O1) (hr : EL X δ O1 R es ys O2) (hs : noStar e = true := by rfl) : EL X δ O R (e :: es) (y :: ys) O2 := by
  intro B σ G H Q st k
  refine a_of (pa_cons pe_w pa_w (starEach_plain hs)) ?_
  exact ha B σ G H _ st fun x G1 H1 m1 st1 hx => hr B σ G1 H1 _ st1 fun xs G2 H2 m2 st2 hxs => k _ G2 H2 (m1.trans m2) st2 (.cons ((R y).mono m2 hx) hxs)
theorem el_star {xs ys : List α} (ha : E X δ O e (sLst R xs) O1) (hr : EL X δ O1 R es ys O2) : EL X δ O R (.Starred e p :: es) (xs ++ ys) O2 := by
  intro B σ G H Q st k
  refine a_of (StX.pa_star pe_w pa_w starEach_star) ?_
  refine ha B σ G H _ st fun x G1 H1 m1 st1 hx => ?_
  obtain ⟨q, vs, rfl, hq, hr2⟩ := hx
  exact ⟨q, vs, rfl, .inr (SqL.of (st1.stp.gh _ _ hq)), hr B σ G1 H1 _ st1 fun ws G2 H2 m2 st2 hws => k _ G2 H2 (m1.trans m2) st2 ((hr2.mono m2).append hws)⟩
theorem el_starT {xs ys : List α} (ha : E X δ O e (sTupl R xs) O1) (hr : EL X δ O1 R es ys O2) : EL X δ O R (.Starred e p :: es) (xs ++ ys) O2 := by
  intro B σ G H Q st k
  refine a_of (StX.pa_star pe_w pa_w starEach_star) ?_
  refine ha B σ G H _ st fun x G1 H1 m1 st1 hx => ?_
  obtain ⟨q, vs, rfl, hq, hr2⟩ := hx
  exact ⟨q, vs, rfl, .inl (by
    rcases hq with (z | ⟨o, z⟩) | z
    · exact .inl (.inl (st1.stp.gh _ _ z))
    · exact .inl (.inr ⟨o, st1.stp.gh _ _ z⟩)
    · exact .inr z), hr B σ G1 H1 _ st1 fun ws G2 H2 m2 st2 hws => k _ G2 H2 (m1.trans m2) st2 ((hr2.mono m2).append hws)⟩
theorem ew_lst {as : List α} (h : EL X δ O R es as O1) (hz : as.length ≤ sizeLine) : EW X δ O (.List es pos) (fun p => oLst p R as) O1 := by
  intro B σ G H Q st k
  refine e_of (pe_lst pa_w) ?_
  refine h B σ G H _ st fun vs G1 H1 m1 st1 hv => ⟨by rw [hv.length]; exact hz, fun q hq => ?_⟩
  have s2 := st1.freshO (w := oLst q R as) hq rfl ⟨vs, rfl, hv⟩
  exact k q G1 _ ((s2.new _ List.mem_cons_self).elim (fun z => by
    cases e : B.H q with
    | none => rfl
    | some o =>
      obtain ⟨o', e'⟩ := st1.stp.th _ _ e
      rw [hq] at e'; cases e') id) m1 s2
theorem none_of {K : Fg} {G H : Hp} {σ : SS} {q : Addr} (st : Sta K B δ O σ G H) (hq : H q = none) : B.H q = none := by
  cases e : B.H q with
  | none => rfl
  | some o =>
    obtain ⟨o', e'⟩ := st.stp.th _ _ e
    rw [hq] at e'; cases e'
theorem e_tupl {x1} {as : List α} (h : EL X δ O R es as O1) (hz : as.length ≤ sizeLine) : E X δ O (.Tuple es x1 pos) (sTupl R as) O1 := by
  intro B σ G H Q st k
  refine e_of (pe_tup pa_w) ?_
  refine h B σ G H _ st fun vs G1 H1 m1 st1 hv => ⟨by rw [hv.length]; exact hz, fun q hq => ?_⟩
  have sg : Same G1 (upd G1 q (.tup vs)) := same_new (gnone st1.stp hq)
  exact k _ _ _ (m1.trans sg) (st1.freshG hq) ⟨q, vs, rfl, SqT.of upd_same, hv.mono sg⟩
theorem e_tup {x1} (h : EA X δ O es ss O1) (hz : ss.length ≤ sizeLine) : E X δ O (.Tuple es x1 pos) (sTup ss) O1 := by
  intro B σ G H Q st k
  refine e_of (pe_tup pa_w) ?_
  refine h B σ G H _ st fun vs G1 H1 m1 st1 hv => ⟨by rw [hv.length]; exact hz, fun q hq => ?_⟩
  have sg : Same G1 (upd G1 q (.tup vs)) := same_new (gnone st1.stp hq)
  exact k _ _ _ (m1.trans sg) (st1.freshG hq) ⟨q, vs, rfl, SqT.of upd_same, hv.mono sg⟩
theorem ew_lstS (h : EA X δ O es ss O1) (hz : ss.length ≤ sizeLine) : EW X δ O (.List es pos) (fun p => oLstS p ss) O1 := by
  intro B σ G H Q st k
  refine e_of (pe_lst pa_w) ?_
  refine h B σ G H _ st fun vs G1 H1 m1 st1 hv => ⟨by rw [hv.length]; exact hz, fun q hq => ?_⟩
  exact k q G1 _ (none_of st1 hq) m1 (st1.freshO (w := oLstS q ss) hq rfl ⟨vs, rfl, hv⟩)

/-! ### calls -/
theorem e_callB {id : String} (hc : CallE X (.builtin id) ss s) (hm : X.mg x = none) (hv : bootBuiltins x = some (.builtin id)) (ha : EA X δ O (e :: es) ss O1) (hg : Gl X x := by rfl) (hn : x ≠ "__name__" := by decide) (hdb : (x == ("__debug__" : Str)) = false := by decide)
    (he : noStar e = true := by rfl) (hpl : noStars es = true := by rfl) : E X δ O (.Call (.Name x p) (e :: es) [] pos) s O1 := by
  obtain ⟨r, h1, h2⟩ := hc
  intro B σ G H Q st k
  refine e_of (pe_callB h1 hg hm hv pa_w hn hdb (starEach_plain he) (backTo_plain hpl)) ?_
  exact ha B σ G H _ st fun vs G1 H1 m1 st1 hv => h2 B δ O1 σ G1 H1 Q vs st1 hv fun v G' H' m2 st2 hv => k v G' H' (m1.trans m2) st2 hv
theorem e_callTy {id : String} (hc : CallE X (.type id) ss s) (hm : X.mg x = none) (hv : bootBuiltins x = some (.type id)) (ha : EA X δ O (e :: es) ss O1) (hg : Gl X x := by rfl) (hn : x ≠ "__name__" := by decide) (hdb : (x == ("__debug__" : Str)) = false := by decide)
    (he : noStar e = true := by rfl) (hpl : noStars es = true := by rfl) : E X δ O (.Call (.Name x p) (e :: es) [] pos) s O1 := by
  obtain ⟨r, h1, h2⟩ := hc
  intro B σ G H Q st k
  refine e_of (pe_callTy h1 hg hm hv pa_w hn hdb (starEach_plain he) (backTo_plain hpl)) ?_
  exact ha B σ G H _ st fun vs G1 H1 m1 st1 hv => h2 B δ O1 σ G1 H1 Q vs st1 hv fun v G' H' m2 st2 hv => k v G' H' (m1.trans m2) st2 hv
theorem ew_callB {id : String} {φ : Addr → Own} (hc : CallW X (.builtin id) ss φ) (hm : X.mg x = none) (hv : bootBuiltins x = some (.builtin id)) (ha : EA X δ O (e :: es) ss O1) (hg : Gl X x := by rfl) (hn : x ≠ "__name__" := by decide) (hdb : (x == ("__debug__" : Str)) = false := by decide)
    (he : noStar e = true := by rfl) (hpl : noStars es = true := by rfl) : EW X δ O (.Call (.Name x p) (e :: es) [] pos) φ O1 := by
  obtain ⟨r, h1, h2⟩ := hc
  intro B σ G H Q st k
  refine e_of (pe_callB h1 hg hm hv pa_w hn hdb (starEach_plain he) (backTo_plain hpl)) ?_
  exact ha B σ G H _ st fun vs G1 H1 m1 st1 hv => h2 B δ O1 σ G1 H1 Q vs st1 hv fun v G' H' hb m2 st2 => k v G' H' hb (m1.trans m2) st2
theorem ew_callTy {id : String} {φ : Addr → Own} (hc : CallW X (.type id) ss φ) (hm : X.mg x = none) (hv : bootBuiltins x = some (.type id)) (ha : EA X δ O (e :: es) ss O1) (hg : Gl X x := by rfl) (hn : x ≠ "__name__" := by decide) (hdb : (x == ("__debug__" : Str)) = false := by decide)
    (he : noStar e = true := by rfl) (hpl : noStars es = true := by rfl) : EW X δ O (.Call (.Name x p) (e :: es) [] pos) φ O1 := by
  obtain ⟨r, h1, h2⟩ := hc
  intro B σ G H Q st k
  refine e_of (pe_callTy h1 hg hm hv pa_w hn hdb (starEach_plain he) (backTo_plain hpl)) ?_
  exact ha B σ G H _ st fun vs G1 H1 m1 st1 hv => h2 B δ O1 σ G1 H1 Q vs st1 hv fun v G' H' hb m2 st2 => k v G' H' hb (m1.trans m2) st2

section
variable {ι : Type} {S : FS ι} {k : Nat} {f C : Addr} {dvs : List V} {m : Str} {apos : Pos} {o : Expr}
/-- a def keeps its promise over data: dvs its defaults' values -/
structure DefOk (P : Program) (w : World) (K : Fg) (mg : Str → Option Value) (base : Heap) (k : Nat) (f : Addr) (dvs : List V) {ι : Type} (S : FS ι) : Prop where
  ex : ∃ fd ps ds, FnOk P w K mg base CX0 k f fd ps (S.sp K) ∧ Binds K fd ps ds ∧ Vals dvs ds
  kp : PySem.W.keepIn K (.ref f) = true -- -
abbrev DefX (X : Cx) (k : Nat) (f : Addr) (dvs : List V) {ι : Type} (S : FS ι) : Prop := DefOk X.prog X.w X.K X.mg X.base k f dvs S
/-- the promise of a def, taken at a state -/
theorem fs_use {K : Fg} {G H : Hp} {σ : SS} {Q : VK} {vs : List V} {EE : XK} (j : ι) (hp : S.pre j) (st : Sta K B δ (S.own j ++ O2) σ G H) (ha : AllS K G vs (S.args j)) (hw : (S.own' j).map (·.p) = (S.own j).map (·.p))
    (k : ∀ v G' H', Same G G' → Sta K B δ (S.own' j ++ O2) σ G' H' → (S.res j).ok K G' v → Q v H') : S.sp K vs H Q EE := by
  have nd := st.nd
  rw [List.map_append] at nd
  refine ⟨j, G, hp, st.stp.gh, ha, fun w hw => st.own w (List.mem_append_left _ hw), (List.nodup_append.mp nd).1, fun v G' H' t ow hv => ?_⟩
  exact k v G' H' t.ex (st.ran t hw ow) hv
theorem alls_dvs {K : Fg} {G : Hp} : ∀ {vs : List V} {ss ts : List Slot} {ds : List V}, AllS K G vs ss → AllS K G ds ts → AllS K G (vs ++ ds) (ss ++ ts)
  | _, _, _, _, .nil, h => h
  | _, _, _, _, .cons a b, h => .cons a (alls_dvs b h)
theorem alls_vals {K : Fg} {G : Hp} : ∀ ds : List V, AllS K G ds (ds.map sVal)
  | [] => .nil
  | _ :: ds => .cons rfl (alls_vals ds)
/-- f(e, ..): j the ghosts -/
theorem e_call (j : ι) (F : DefX X k f dvs S) (hr : Room k X.A) (hm : X.mg x = some (.ref f)) (ha : EA X δ O (e :: es) ss (S.own j ++ O2)) (hp : S.pre j) (hss : ss ++ dvs.map sVal = S.args j := by rfl)
    (hw : (S.own' j).map (·.p) = (S.own j).map (·.p) := by rfl) (hg : Gl X x := by rfl)
    (hdb : (x == ("__debug__" : Str)) = false := by decide) (he : noStar e = true := by rfl) (hpl : noStars es = true := by rfl) :
    E X δ O (.Call (.Name x p) (e :: es) [] pos) (S.res j) (S.own' j ++ O2) := by
  obtain ⟨⟨fd, ps, ds, F, hb, hd⟩, hk⟩ := F
  intro B σ G H Q st q
  refine e_of (pe_call F hr hg hm hk hb hd (E := E0) pass0 pa_w hdb (starEach_plain he) (backTo_plain hpl)) ?_
  exact ha B σ G H _ st fun vs G1 H1 m1 st1 hv => fs_use j hp st1 (by rw [← hss]; exact alls_dvs hv (alls_vals dvs)) hw fun v G' H' m2 st2 hv => q v G' H' (m1.trans m2) st2 hv
/-- the same, the result told by the goal -/
theorem e_callR (j : ι) (F : DefX X k f dvs S) (hr : Room k X.A) (hm : X.mg x = some (.ref f)) (ha : EA X δ O (e :: es) ss (S.own j ++ O2)) (hp : S.pre j) (hres : S.res j = s := by rfl) (ho : S.own' j ++ O2 = O3 := by rfl) (hss : ss ++ dvs.map sVal = S.args j := by rfl)
    (hw : (S.own' j).map (·.p) = (S.own j).map (·.p) := by rfl) (hg : Gl X x := by rfl)
    (hdb : (x == ("__debug__" : Str)) = false := by decide) (he : noStar e = true := by rfl) (hpl : noStars es = true := by rfl) :
    E X δ O (.Call (.Name x p) (e :: es) [] pos) s O3 := by
  subst hres ho
  exact e_call j F hr hm ha hp hss hw hg hdb he hpl
theorem e_call0 (j : ι) (F : DefX X k f dvs S) (hr : Room k X.A) (hm : X.mg x = some (.ref f)) (hp : S.pre j) (ho : O = S.own j ++ O2 := by rfl) (hss : dvs.map sVal = S.args j := by rfl)
    (hw : (S.own' j).map (·.p) = (S.own j).map (·.p) := by rfl) (hg : Gl X x := by rfl)
    (hdb : (x == ("__debug__" : Str)) = false := by decide) : E X δ O (.Call (.Name x p) [] [] pos) (S.res j) (S.own' j ++ O2) := by
  subst ho
  obtain ⟨⟨fd, ps, ds, F, hb, hd⟩, hk⟩ := F
  intro B σ G H Q st q
  refine e_of (pe_call0 F hr hg hm hk hb hd (E := E0) pass0 hdb) ?_
  show S.sp X.K ([] ++ dvs) H Q E0
  exact fs_use j hp st (by rw [← hss]; exact alls_vals dvs) hw fun v G' H' m2 st2 hv => q v G' H' m2 st2 hv

/-! ### instances -/
/-- an instance of the class at C: what its attributes hold, and it has no others -/
def insOk (C : Addr) (tab : List (Str × Slot)) (K : Fg) (G : Hp) (o : HO) : Prop :=
  ∃ dx fs, o = .ins C dx fs ∧ fs.length ≤ tab.length ∧ (∀ f s, (f, s) ∈ tab → ∃ v, fs.lookup f = some v ∧ s.ok K G v) ∧ ∀ f, f ∉ tab.map (·.1) → fs.lookup f = none
theorem insOk.mono {C : Addr} {tab : List (Str × Slot)} {K : Fg} {G G' : Hp} {o : HO} (e : Same G G') (h : insOk C tab K G o) : insOk C tab K G' o :=
  let ⟨dx, fs, a, n, b, c⟩ := h; ⟨dx, fs, a, n, fun f s m => let ⟨v, p, q⟩ := b f s m; ⟨v, p, s.mono e q⟩, c⟩
theorem insOk_nil {C : Addr} {K : Fg} {G : Hp} (dx : Addr) : insOk C [] K G (.ins C dx []) := ⟨dx, [], rfl, Nat.le_refl _, (fun f s h => by cases h), fun f _ => rfl⟩
def oIns (p C : Addr) (tab : List (Str × Slot)) : Own := ⟨p, insOk C tab, insOk.mono⟩
def sIns (C : Addr) (tab : List (Str × Slot)) : Slot := ⟨fun K G v => ∃ p o, v = .ref p ∧ G p = some o ∧ insOk C tab K G o, fun e ⟨p, o, a, b, c⟩ => ⟨p, o, a, e _ _ b, c.mono e⟩⟩
theorem frz_ins {tab : List (Str × Slot)} (K : Fg) (G : Hp) (p : Addr) (o : HO) (h : (oIns p C tab).φ K G o) (g : G p = none) : (sIns C tab).ok K (upd G p o) (.ref p) := ⟨p, o, rfl, upd_same, insOk.mono (same_new g) h⟩
theorem e_ins {tab : List (Str × Slot)} (h : EW X δ O e (fun p => oIns p C tab) O1) : E X δ O e (sIns C tab) O1 := e_freeze h (fun _ => rfl) frz_ins
/-- e.f of a frozen instance -/
theorem e_fld {tab : List (Str × Slot)} (j : Nat) (c : Cls X.K C) (n : NoAttr X.K C x) (h : E X δ O e (sIns C tab) O1) (hj : tab[j]? = some (x, s) := by rfl) (hb : noCall0 e = true := by rfl) : E X δ O (.Attribute e x pos) s O1 := by
  intro B σ G H Q st k
  refine e_of (pe_fld pe_w (attributeBase_plain hb)) ?_
  refine h B σ G H _ st fun v G1 H1 m1 st1 hv => ?_
  obtain ⟨q, o, rfl, hq, dx, fs, rfl, _, h1, _⟩ := hv
  obtain ⟨v, h2, h3⟩ := h1 x s (List.mem_of_getElem? hj)
  exact ⟨q, C, dx, fs, v, rfl, st1.stp.gh _ _ hq, c, n, h2, k v G1 H1 m1 st1 h3⟩
/-- e.f of an owned instance -/
theorem e_fldO {q : Addr} {tab : List (Str × Slot)} (j : Nat) (jw : Nat) (c : Cls X.K C) (n : NoAttr X.K C x) (h : E X δ O e (sRef q) O1) (hw : O1[jw]? = some (oIns q C tab) := by rfl) (hj : tab[j]? = some (x, s) := by rfl) (hb : noCall0 e = true := by rfl) : E X δ O (.Attribute e x pos) s O1 := by
  intro B σ G H Q st k
  refine e_of (pe_fld pe_w (attributeBase_plain hb)) ?_
  refine h B σ G H _ st fun v G1 H1 m1 st1 hv => ?_
  obtain ⟨o, hq, _, dx, fs, rfl, _, h1, _⟩ := st1.own _ (List.mem_of_getElem? hw)
  obtain ⟨v', h2, h3⟩ := h1 x s (List.mem_of_getElem? hj)
  exact ⟨q, C, dx, fs, v', hv, hq, c, n, h2, k v' G1 H1 m1 st1 h3⟩
/-- o.m(e, ..), o a frozen instance -/
theorem e_meth {tab : List (Str × Slot)} {pl : Sem Bool} (j : ι) (F : DefX X k f dvs S) (hr : Room k X.A) (c : Cls X.K C) (hm : Meth X.K C m f) (h : E X δ O o (sIns C tab) O1) (ha : EA X δ O1 (e :: es) ss (S.own j ++ O2)) (hp : S.pre j)
    (hss : sIns C tab :: (ss ++ dvs.map sVal) = S.args j := by rfl) (hno : (tab.map (·.1)).contains m = false := by (try simp only [List.map_cons, List.map_nil]); decide +kernel) (hw : (S.own' j).map (·.p) = (S.own j).map (·.p) := by rfl)
    (hst : noStar e = true := by rfl) (hpl : noStars es = true := by rfl)
    (ht : eval (.Call (.Attribute o m apos) (e :: es) [] pos) X.env = (do -- -
      let ov ← eval o X.env
      standAt apos.atName
      let (f, first) ← holding [ov] (getMethod ov m pl) -- -
      callWith pos f first (backTo pos (starEach (e :: es) X.env)) (backToKw pos (keywordEach [] X.env))) := by rfl) : -- -
    E X δ O (.Call (.Attribute o m apos) (e :: es) [] pos) (S.res j) (S.own' j ++ O2) := by
  obtain ⟨⟨fd, ps, ds, F, hb, hd⟩, hk⟩ := F
  intro B σ G H Q st q
  refine e_of (pe_meth pe_w c hm F hr hb hd (E := E0) pass0 pa_w (starEach_plain hst) (backTo_plain hpl) ht) ?_
  refine h B σ G H _ st fun v G1 H1 m1 st1 hv => ?_
  have hv0 := hv
  obtain ⟨p, o', rfl, hq, dx, fs, rfl, _, h1, h2⟩ := hv
  refine ⟨p, dx, fs, rfl, st1.stp.gh _ _ hq, h2 m (by simpa using hno), ?_⟩
  exact ha B σ G1 H1 _ st1 fun vs G2 H2 m2 st2 hvs => fs_use j hp st2 (by rw [← hss]; exact .cons ((sIns C tab).mono m2 hv0) (alls_dvs hvs (alls_vals dvs))) hw fun v G' H' m3 st3 hv => q v G' H' (m1.trans (m2.trans m3)) st3 hv
theorem e_meth0 {tab : List (Str × Slot)} {pl : Sem Bool} (j : ι) (F : DefX X k f dvs S) (hr : Room k X.A) (c : Cls X.K C) (hm : Meth X.K C m f) (h : E X δ O o (sIns C tab) (S.own j ++ O2)) (hp : S.pre j)
    (hss : sIns C tab :: (dvs.map sVal) = S.args j := by rfl) (hno : (tab.map (·.1)).contains m = false := by (try simp only [List.map_cons, List.map_nil]); decide +kernel) (hw : (S.own' j).map (·.p) = (S.own j).map (·.p) := by rfl)
    (ht : eval (.Call (.Attribute o m apos) [] [] pos) X.env = (do -- -
      let ov ← eval o X.env
      standAt apos.atName
      let (f, first) ← holding [ov] (getMethod ov m pl) -- -
      callWith pos f first (backTo pos (starEach [] X.env)) (backToKw pos (keywordEach [] X.env))) := by rfl) : -- -
    E X δ O (.Call (.Attribute o m apos) [] [] pos) (S.res j) (S.own' j ++ O2) := by
  obtain ⟨⟨fd, ps, ds, F, hb, hd⟩, hk⟩ := F
  intro B σ G H Q st q
  refine e_of (pe_meth0 pe_w c hm F hr hb hd (E := E0) pass0 ht) ?_
  refine h B σ G H _ st fun v G1 H1 m1 st1 hv => ?_
  have hv0 := hv
  obtain ⟨p, o', rfl, hq, dx, fs, rfl, _, h1, h2⟩ := hv
  refine ⟨p, dx, fs, rfl, st1.stp.gh _ _ hq, h2 m (by simpa using hno), ?_⟩
  show S.sp X.K (V.ref p :: ([] ++ dvs)) H1 Q E0
  exact fs_use j hp st1 (by rw [← hss]; exact .cons hv0 (alls_vals dvs)) hw fun v G' H' m3 st3 hv => q v G' H' (m1.trans m3) st3 hv
/-- C(e, ..): j the ghosts by the new instance's address; its __init__ hands back what owns it as ψ -/
theorem ew_make {ψ : Addr → Own} (j : Addr → ι) (M : Mk X.K C f) (F : DefX X k f dvs S) (hr : Room (k + 1) X.A) (hm : X.mg x = some (.ref C)) (ha : EA X δ O (e :: es) ss O2) (hp : ∀ q, S.pre (j q)) (hss : ∀ q, sRef q :: (ss ++ dvs.map sVal) = S.args (j q) := by intro _; rfl)
    (ho : ∀ q, S.own (j q) = [oIns q C []] := by intro _; rfl) (ho' : ∀ q, S.own' (j q) = [ψ q] := by intro _; rfl) (hψ : ∀ q, (ψ q).p = q := by intro _; rfl) (hres : ∀ q, S.res (j q) = sNon := by intro _; rfl) (hg : Gl X x := by rfl)
    (hdb : (x == ("__debug__" : Str)) = false := by decide) (he : noStar e = true := by rfl) (hpl : noStars es = true := by rfl) :
    EW X δ O (.Call (.Name x p) (e :: es) [] pos) ψ O2 := by
  obtain ⟨⟨fd, ps, ds, F, hb, hd⟩, hk⟩ := F
  intro B σ G H Q st q
  refine e_of (pe_make M F hr hg hm hb hd (E := E0) pass0 pa_w hdb (starEach_plain he) (backTo_plain hpl)) ?_
  refine ha B σ G H _ st fun vs G1 H1 m1 st1 hvs y dx hy hdx hne => ?_
  have st2 := st1.freshG (o := HO.own y) hdx
  have hy2 : (upd H1 dx (HO.own y)) y = none := by rw [upd_ne (fun z => hne z.symm)]; exact hy
  have st3 := st2.freshO (w := oIns y C []) (o := .ins C dx []) hy2 rfl (insOk_nil dx)
  have sg : Same G1 (upd G1 dx (HO.own y)) := same_new (gnone st1.stp hdx)
  have st4 : Sta X.K B δ (S.own (j y) ++ O2) σ (upd G1 dx (HO.own y)) (upd (upd H1 dx (HO.own y)) y (.ins C dx [])) := by rw [ho]; exact st3
  refine fs_use (j y) (hp y) st4 (by rw [← hss]; exact .cons rfl ((alls_dvs hvs (alls_vals dvs)).mono sg)) (by rw [ho, ho']; show [(ψ y).p] = [y]; rw [hψ]) fun v G' H' m3 st5 hv => ?_
  rw [hres] at hv
  rw [ho'] at st5
  exact ⟨hv, q y G' H' (none_of st1 hy) (m1.trans (sg.trans m3)) st5⟩
end
end
end Gd

namespace Gd
open PySem L2
section
variable {X : Cx} {B : Bs} {δ : List (Option Slot)} {O O1 O2 O3 : List Own} {a b c e : Expr} {es : List Expr} {x : Str} {p pos : Pos} {s s1 s2 s3 : Slot} {ss : List Slot} {α β : Type} {R : α → Slot} {i j : Int}
theorem szl {n : Nat} (h : n ≤ 100000) : n ≤ sizeLine := Nat.le_trans h (by decide)
/-! ### operators on scalars -/
theorem o_add : OpE X (binaryOp .Add) (sInt i) (sInt j) (sInt (i + j)) := ⟨_, op_add, fun B δ O σ G H Q x y st hx hy k => ⟨i, j, hx, hy, k _ G H (Same.refl _) st rfl⟩⟩
theorem o_sub : OpE X (binaryOp .Sub) (sInt i) (sInt j) (sInt (i - j)) := ⟨_, op_sub, fun B δ O σ G H Q x y st hx hy k => ⟨i, j, hx, hy, k _ G H (Same.refl _) st rfl⟩⟩
theorem o_mul (h : CMul i j) : OpE X (binaryOp .Mult) (sInt i) (sInt j) (sInt (i * j)) := ⟨_, op_mul, fun B δ O σ G H Q x y st hx hy k => ⟨i, j, hx, hy, h, k _ G H (Same.refl _) st rfl⟩⟩
theorem o_mulW (h : CMulW i j) : OpE X (binaryOp .Mult) (sInt i) (sInt j) (sInt (i * j)) := ⟨_, op_mulW, fun B δ O σ G H Q x y st hx hy k => ⟨i, j, hx, hy, h, k _ G H (Same.refl _) st rfl⟩⟩
theorem o_mod (h : 0 < j) : OpE X (binaryOp .Mod) (sInt i) (sInt j) (sInt (i % j)) := ⟨_, op_mod, fun B δ O σ G H Q x y st hx hy k => ⟨i, j, hx, hy, h, k _ G H (Same.refl _) st rfl⟩⟩
theorem o_fdiv (h : CDiv i j) : OpE X (binaryOp .FloorDiv) (sInt i) (sInt j) (sInt (i / j)) := ⟨_, op_fdiv, fun B δ O σ G H Q x y st hx hy k => ⟨i, j, hx, hy, h, k _ G H (Same.refl _) st rfl⟩⟩
theorem o_fdivW (h : CDivW i j) : OpE X (binaryOp .FloorDiv) (sInt i) (sInt j) (sInt (i / j)) := ⟨_, op_fdivW, fun B δ O σ G H Q x y st hx hy k => ⟨i, j, hx, hy, h, k _ G H (Same.refl _) st rfl⟩⟩
theorem o_pow (h : CPow i j) : OpE X (binaryOp .Pow) (sInt i) (sInt j) (sInt (i ^ j.toNat)) := ⟨_, op_pow, fun B δ O σ G H Q x y st hx hy k => ⟨i, j, hx, hy, h, k _ G H (Same.refl _) st rfl⟩⟩
theorem o_lt : OpE X (compareOp .Lt) (sInt i) (sInt j) (sBl (decide (i < j))) := ⟨_, op_lt, fun B δ O σ G H Q x y st hx hy k => ⟨i, j, hx, hy, k _ G H (Same.refl _) st rfl⟩⟩
theorem o_le : OpE X (compareOp .LtE) (sInt i) (sInt j) (sBl (decide (i ≤ j))) := ⟨_, op_le, fun B δ O σ G H Q x y st hx hy k => ⟨i, j, hx, hy, k _ G H (Same.refl _) st rfl⟩⟩
theorem o_gt : OpE X (compareOp .Gt) (sInt i) (sInt j) (sBl (decide (j < i))) := ⟨_, op_gt, fun B δ O σ G H Q x y st hx hy k => ⟨i, j, hx, hy, k _ G H (Same.refl _) st rfl⟩⟩
theorem o_ge : OpE X (compareOp .GtE) (sInt i) (sInt j) (sBl (decide (j ≤ i))) := ⟨_, op_ge, fun B δ O σ G H Q x y st hx hy k => ⟨i, j, hx, hy, k _ G H (Same.refl _) st rfl⟩⟩
theorem o_eqV {v w : V} {k : Bool} (h : scal v w = true) (hk : decide (v = w) = k) : OpE X (compareOp .Eq) (sVal v) (sVal w) (sBl k) :=
  ⟨_, op_eq, fun B δ O σ G H Q x y st hx hy q => by cases hx; cases hy; exact ⟨h, q _ G H (Same.refl _) st (by rw [hk]; rfl)⟩⟩
theorem o_neV {v w : V} {k : Bool} (h : scal v w = true) (hk : (!decide (v = w)) = k) : OpE X (compareOp .NotEq) (sVal v) (sVal w) (sBl k) :=
  ⟨_, op_ne, fun B δ O σ G H Q x y st hx hy q => by cases hx; cases hy; exact ⟨h, q _ G H (Same.refl _) st (by rw [hk]; rfl)⟩⟩
theorem o_eq : OpE X (compareOp .Eq) (sInt i) (sInt j) (sBl (decide (i = j))) := o_eqV rfl (decide_eq_decide.mpr ⟨fun h => V.int.inj h, fun h => h ▸ rfl⟩)
theorem o_ne : OpE X (compareOp .NotEq) (sInt i) (sInt j) (sBl (!decide (i = j))) := o_neV rfl (congrArg (!·) (decide_eq_decide.mpr ⟨fun h => V.int.inj h, fun h => h ▸ rfl⟩))
theorem o_eqS {u v : Str} : OpE X (compareOp .Eq) (sStr u) (sStr v) (sBl (decide (u = v))) := o_eqV rfl (decide_eq_decide.mpr ⟨fun h => V.str.inj h, fun h => h ▸ rfl⟩)
theorem o_neS {u v : Str} : OpE X (compareOp .NotEq) (sStr u) (sStr v) (sBl (!decide (u = v))) := o_neV rfl (congrArg (!·) (decide_eq_decide.mpr ⟨fun h => V.str.inj h, fun h => h ▸ rfl⟩))
theorem o_eqB {u v : Bool} : OpE X (compareOp .Eq) (sBl u) (sBl v) (sBl (decide (u = v))) := o_eqV rfl (decide_eq_decide.mpr ⟨fun h => V.bl.inj h, fun h => h ▸ rfl⟩)
theorem o_neB {u v : Bool} : OpE X (compareOp .NotEq) (sBl u) (sBl v) (sBl (!decide (u = v))) := o_neV rfl (congrArg (!·) (decide_eq_decide.mpr ⟨fun h => V.bl.inj h, fun h => h ▸ rfl⟩))
theorem o_isN {k : Bool} (h : ∀ (K : Fg) (G : Hp) (v : V), s.ok K G v → decide (v = V.non) = k) : OpE X (compareOp .Is) s sNon (sBl k) :=
  ⟨_, op_isN, fun B δ O σ G H Q x y st hx hy q => ⟨hy, q _ G H (Same.refl _) st (by rw [h _ _ _ hx]; rfl)⟩⟩
theorem o_notN {k : Bool} (h : ∀ (K : Fg) (G : Hp) (v : V), s.ok K G v → decide (v = V.non) = k) : OpE X (compareOp .IsNot) s sNon (sBl (!k)) :=
  ⟨_, op_notN, fun B δ O σ G H Q x y st hx hy q => ⟨hy, q _ G H (Same.refl _) st (by rw [h _ _ _ hx]; rfl)⟩⟩
theorem isn_opt {o : Option α} (h : ∀ a (K : Fg) (G : Hp) (v : V), (R a).ok K G v → v ≠ .non) : ∀ (K : Fg) (G : Hp) (v : V), (sOpt R o).ok K G v → decide (v = V.non) = o.isNone := fun K G v q => by
  cases o with
  | none =>
    have q : v = V.non := q
    rw [q]
    rfl
  | some a => exact decide_eq_false (h a K G v q)
theorem o_isO {o : Option α} (h : ∀ a (K : Fg) (G : Hp) (v : V), (R a).ok K G v → v ≠ .non) : OpE X (compareOp .Is) (sOpt R o) sNon (sBl o.isNone) := o_isN (isn_opt h)
theorem o_notO {o : Option α} (h : ∀ a (K : Fg) (G : Hp) (v : V), (R a).ok K G v → v ≠ .non) : OpE X (compareOp .IsNot) (sOpt R o) sNon (sBl (!o.isNone)) := o_notN (isn_opt h)
theorem o_notI : OpE X (compareOp .IsNot) (sInt i) sNon (sBl true) := o_notN (k := false) fun K G v h => by
  have h : v = V.int i := h
  rw [h]
  rfl
theorem o_isI : OpE X (compareOp .Is) (sInt i) sNon (sBl false) := o_isN fun K G v h => by
  have h : v = V.int i := h
  rw [h]
  rfl
theorem ins_notN {C : Addr} {tab : List (Str × Slot)} {K : Fg} {G : Hp} {v : V} (h : (sIns C tab).ok K G v) : v ≠ .non := by
  obtain ⟨p, o, rfl, _⟩ := h
  intro z; cases z
/-- a sign in a text -/
theorem o_inC {n : Nat} {t : Str} : OpE X (compareOp .In) (sStr ⟨#[n]⟩) (sStr t) (sBl (decide (n ∈ t.cps.toList))) :=
  ⟨_, op_in_sign, fun B δ O σ G H Q x y st hx hy k => ⟨n, t, hx, hy, k _ G H (Same.refl _) st rfl⟩⟩

/-! ### sequences -/
theorem sqT_up {K : Fg} {G H : Hp} {q : Addr} {vs : List V} (e : Same G H) (h : SqT K G q vs) : SqT K H q vs := sqT_mono e h
theorem o_cat {as bs : List α} (hz : as.length + bs.length ≤ sizeLine) : OpEW X (binaryOp .Add) (sLst R as) (sLst R bs) (fun p => oLst p R (as ++ bs)) :=
  ⟨_, op_cat, fun B δ O σ G H Q x y st hx hy k => by
    obtain ⟨p, vs, rfl, hp, r1⟩ := hx
    obtain ⟨q, ws, rfl, hq, r2⟩ := hy
    refine ⟨p, q, vs, ws, rfl, rfl, st.stp.gh _ _ hp, st.stp.gh _ _ hq, by rw [r1.length, r2.length]; exact hz, fun z hz' => ?_⟩
    exact k z G _ (none_of st hz') (Same.refl _) (st.freshO (w := oLst z R (as ++ bs)) hz' rfl ⟨_, rfl, r1.append r2⟩)⟩
/-- x in a tuple, a list of texts -/
theorem inV_str {z : Str} : ∀ {ts : List Str}, inV (.str z) (ts.map V.str) = decide (z ∈ ts)
  | [] => rfl
  | t :: ts => by
    show (eqV (.str t) (.str z) || inV (.str z) (ts.map V.str)) = _
    rw [inV_str (ts := ts)]
    have h : eqV (.str t) (.str z) = decide (z = t) := by
      unfold eqV
      by_cases e : t = z
      · subst e; simp
      · have e' : ¬ z = t := fun q => e q.symm
        simp [e, e']
    rw [h]
    by_cases e : z = t <;> simp [e]
theorem inV_int {z : Int} : ∀ {ts : List Int}, inV (.int z) (ts.map V.int) = decide (z ∈ ts)
  | [] => rfl
  | t :: ts => by
    show (eqV (.int t) (.int z) || inV (.int z) (ts.map V.int)) = _
    rw [inV_int (ts := ts)]
    have h : eqV (.int t) (.int z) = decide (z = t) := by
      unfold eqV
      by_cases e : t = z
      · subst e; simp
      · have e' : ¬ z = t := fun q => e q.symm
        simp [e, e']
    rw [h]
    by_cases e : z = t <;> simp [e]
theorem flat_strs {ts : List Str} : (ts.map V.str).all flatV = true := by
  rw [List.all_eq_true]
  intro v hv
  obtain ⟨t, _, rfl⟩ := List.mem_map.mp hv
  rfl
theorem flat_ints {ts : List Int} : (ts.map V.int).all flatV = true := by
  rw [List.all_eq_true]
  intro v hv
  obtain ⟨t, _, rfl⟩ := List.mem_map.mp hv
  rfl
theorem o_inT {z : Str} {ts : List Str} : OpE X (compareOp .In) (sStr z) (sTupl sStr ts) (sBl (decide (z ∈ ts))) :=
  ⟨_, op_in_seq, fun B δ O σ G H Q x y st hx hy k => by
    obtain ⟨p, vs, rfl, hp, r⟩ := hy
    cases hx
    have e := r.vals (f := V.str)
    subst e
    refine ⟨p, _, rfl, .inr (sqT_up st.stp.gh hp), rfl, flat_strs, ?_⟩
    rw [if_neg Bool.false_ne_true, inV_str]
    exact k _ G H (Same.refl _) st rfl⟩
theorem o_niT {z : Str} {ts : List Str} : OpE X (compareOp .NotIn) (sStr z) (sTupl sStr ts) (sBl (!decide (z ∈ ts))) :=
  ⟨_, op_notIn_seq, fun B δ O σ G H Q x y st hx hy k => by
    obtain ⟨p, vs, rfl, hp, r⟩ := hy
    cases hx
    have e := r.vals (f := V.str)
    subst e
    refine ⟨p, _, rfl, .inr (sqT_up st.stp.gh hp), rfl, flat_strs, ?_⟩
    rw [if_pos rfl, inV_str]
    exact k _ G H (Same.refl _) st rfl⟩

/-! ### data compared -/
/-- what a slot says as plain data -/
def IsD (s : Slot) (d : PyData) : Prop := ∀ (K : Fg) (G : Hp) (v : V), s.ok K G v → Dp K G v d
theorem isD_int {i : Int} : IsD (sInt i) (.int i) := fun K G v h => by cases h; exact .int i
theorem isD_str {z : Str} : IsD (sStr z) (.str z) := fun K G v h => by cases h; exact .str z
theorem dpAll {d : α → PyData} (h : ∀ a, IsD (R a) (d a)) {K : Fg} {G : Hp} : ∀ {vs : List V} {as : List α}, All2 K G R vs as → DpAll K G vs (as.map d)
  | _, _, .nil => .nil
  | _, _, .cons q t => .cons (h _ _ _ _ q) (dpAll h t)
theorem isD_lst {d : α → PyData} (h : ∀ a, IsD (R a) (d a)) {as : List α} : IsD (sLst R as) (.list (as.map d)) := fun K G v q => by
  obtain ⟨p, vs, rfl, hp, r⟩ := q
  exact .lst (SqL.of hp) (dpAll h r)
theorem isD_tupl {d : α → PyData} (h : ∀ a, IsD (R a) (d a)) {as : List α} : IsD (sTupl R as) (.tuple (as.map d)) := fun K G v q => by
  obtain ⟨p, vs, rfl, hp, r⟩ := q
  exact .tup hp (dpAll h r)
theorem dp_up {K : Fg} {G H : Hp} (e : Same G H) : ∀ (d : PyData) (v : V), Dp K G v d → Dp K H v d := by
  intro d v h
  exact Dp.rec (motive_1 := fun v d _ => Dp K H v d) (motive_2 := fun vs ds _ => DpAll K H vs ds) .non (fun b => .bl b) (fun i => .int i) (fun x => .str x) (fun h _ ih => .lst (e.seq h) ih) (fun h _ ih => .tup (sqT_up e h) ih) .nil (fun _ _ ih1 ih2 => .cons ih1 ih2) h
theorem o_eqD {d d' : PyData} {k : Nat} {w : Bool} (hr : Room k X.A) (h1 : IsD s1 d) (h2 : IsD s2 d') (hs1 : SeqAt.shaped d = true) (hs2 : SeqAt.shaped d' = true) (hw : PyData.eqv d d' = w) : OpE X (compareOp .Eq) s1 s2 (sBl w) :=
  ⟨_, op_eqD hr.units, fun B δ O σ G H Q x y st hx hy k => ⟨d, d', dp_up st.stp.gh _ _ (h1 _ _ _ hx), dp_up st.stp.gh _ _ (h2 _ _ _ hy), hs1, hs2, k _ G H (Same.refl _) st (by rw [hw]; rfl)⟩⟩
theorem o_neD {d d' : PyData} {k : Nat} {w : Bool} (hr : Room k X.A) (h1 : IsD s1 d) (h2 : IsD s2 d') (hs1 : SeqAt.shaped d = true) (hs2 : SeqAt.shaped d' = true) (hw : PyData.eqv d d' = w) : OpE X (compareOp .NotEq) s1 s2 (sBl (!w)) :=
  ⟨_, op_neD hr.units, fun B δ O σ G H Q x y st hx hy k => ⟨d, d', dp_up st.stp.gh _ _ (h1 _ _ _ hx), dp_up st.stp.gh _ _ (h2 _ _ _ hy), hs1, hs2, k _ G H (Same.refl _) st (by rw [hw]; rfl)⟩⟩
/-! ### rows of texts, of ints compared -/
def okStrs (ts : List Str) : Prop := ∀ t ∈ ts, PySem.PyData.strOk t = true
theorem canAll_strs {ts : List Str} (h : okStrs ts) : PyData.canLayAll0 (ts.map PyData.str) = true := by
  induction ts with
  | nil => simp [PyData.canLayAll0]
  | cons t ts ih =>
    have h1 := h t List.mem_cons_self
    have h2 := ih fun u hu => h u (List.mem_cons_of_mem _ hu)
    simp only [List.map_cons, PyData.canLayAll0, PyData.canLay0, h2, Bool.and_true]
    exact h1
theorem canAll_ints {ns : List Int} : PyData.canLayAll0 (ns.map PyData.int) = true := by
  induction ns with
  | nil => simp [PyData.canLayAll0]
  | cons t ts ih => simp only [List.map_cons, PyData.canLayAll0, PyData.canLay0, ih, Bool.and_true]
theorem depthAll_strs : ∀ ts : List Str, PyData.depthAll (ts.map PyData.str) = 0
  | [] => by simp [PyData.depthAll] -- -
  | t :: ts => by simp [PyData.depthAll, PyData.depth, depthAll_strs ts]
theorem depthAll_ints : ∀ ts : List Int, PyData.depthAll (ts.map PyData.int) = 0
  | [] => by simp [PyData.depthAll] -- -
  | t :: ts => by simp [PyData.depthAll, PyData.depth, depthAll_ints ts]
theorem shaped_lst {ds : List PyData} (h : PyData.canLayAll0 ds = true) (hd : PyData.depthAll ds ≤ 60) : SeqAt.shaped (.list ds) = true := by
  unfold SeqAt.shaped
  rw [Bool.and_eq_true]
  exact ⟨by simp only [PyData.canLay0, h], decide_eq_true (by simp only [PyData.depth]; omega)⟩
theorem shaped_tup {ds : List PyData} (h : PyData.canLayAll0 ds = true) (hd : PyData.depthAll ds ≤ 60) : SeqAt.shaped (.tuple ds) = true := by
  unfold SeqAt.shaped
  rw [Bool.and_eq_true]
  exact ⟨by simp only [PyData.canLay0, h], decide_eq_true (by simp only [PyData.depth]; omega)⟩
theorem eqvAll_map {f : α → PyData} (hf : ∀ a b, PyData.eqv (f a) (f b) = true ↔ a = b) : ∀ {xs ys : List α}, PyData.eqvAll (xs.map f) (ys.map f) = true ↔ xs = ys
  | [], [] => by simp [PyData.eqvAll] -- -
  | [], y :: ys => by simp [PyData.eqvAll]
  | x :: xs, [] => by simp [PyData.eqvAll]
  | x :: xs, y :: ys => by
    simp only [List.map_cons, PyData.eqvAll, Bool.and_eq_true, hf, eqvAll_map hf (xs := xs) (ys := ys), List.cons.injEq]
theorem eqv_str (a b : Str) : PyData.eqv (.str a) (.str b) = true ↔ a = b := by simp [PyData.eqv]
theorem eqv_int (a b : Int) : PyData.eqv (.int a) (.int b) = true ↔ a = b := by simp [PyData.eqv]
theorem eqv_lst {f : α → PyData} (hf : ∀ a b, PyData.eqv (f a) (f b) = true ↔ a = b) [DecidableEq α] {xs ys : List α} : PyData.eqv (.list (xs.map f)) (.list (ys.map f)) = decide (xs = ys) := by
  (rw [Bool.eq_iff_iff, decide_eq_true_eq])
  simp only [PyData.eqv]
  exact eqvAll_map hf
theorem eqv_tup {f : α → PyData} (hf : ∀ a b, PyData.eqv (f a) (f b) = true ↔ a = b) [DecidableEq α] {xs ys : List α} : PyData.eqv (.tuple (xs.map f)) (.tuple (ys.map f)) = decide (xs = ys) := by
  (rw [Bool.eq_iff_iff, decide_eq_true_eq])
  simp only [PyData.eqv]
  exact eqvAll_map hf
theorem o_eqL {k : Nat} (hr : Room k X.A) {ts us : List Str} (h1 : okStrs ts) (h2 : okStrs us) : OpE X (compareOp .Eq) (sLst sStr ts) (sLst sStr us) (sBl (decide (ts = us))) :=
  o_eqD hr (isD_lst fun _ => isD_str) (isD_lst fun _ => isD_str) (shaped_lst (canAll_strs h1) (by rw [depthAll_strs]; decide)) (shaped_lst (canAll_strs h2) (by rw [depthAll_strs]; decide)) (eqv_lst eqv_str)
theorem o_neL {k : Nat} (hr : Room k X.A) {ts us : List Str} (h1 : okStrs ts) (h2 : okStrs us) : OpE X (compareOp .NotEq) (sLst sStr ts) (sLst sStr us) (sBl (!decide (ts = us))) :=
  o_neD hr (isD_lst fun _ => isD_str) (isD_lst fun _ => isD_str) (shaped_lst (canAll_strs h1) (by rw [depthAll_strs]; decide)) (shaped_lst (canAll_strs h2) (by rw [depthAll_strs]; decide)) (eqv_lst eqv_str)
theorem o_eqT {k : Nat} (hr : Room k X.A) {ts us : List Str} (h1 : okStrs ts) (h2 : okStrs us) : OpE X (compareOp .Eq) (sTupl sStr ts) (sTupl sStr us) (sBl (decide (ts = us))) :=
  o_eqD hr (isD_tupl fun _ => isD_str) (isD_tupl fun _ => isD_str) (shaped_tup (canAll_strs h1) (by rw [depthAll_strs]; decide)) (shaped_tup (canAll_strs h2) (by rw [depthAll_strs]; decide)) (eqv_tup eqv_str)
theorem o_neT {k : Nat} (hr : Room k X.A) {ts us : List Str} (h1 : okStrs ts) (h2 : okStrs us) : OpE X (compareOp .NotEq) (sTupl sStr ts) (sTupl sStr us) (sBl (!decide (ts = us))) :=
  o_neD hr (isD_tupl fun _ => isD_str) (isD_tupl fun _ => isD_str) (shaped_tup (canAll_strs h1) (by rw [depthAll_strs]; decide)) (shaped_tup (canAll_strs h2) (by rw [depthAll_strs]; decide)) (eqv_tup eqv_str)
/-- a class is an instance of itself -/
theorem kit_self {K : Fg} {t : Value} : PySem.W.kitOne K t t = some true := by
  unfold PySem.W.kitOne
  rw [if_pos (by simp)]
end
end Gd

namespace Gd
open PySem L2
section
variable {X : Cx} {B : Bs} {δ : List (Option Slot)} {O O1 O2 O3 : List Own} {a b c e : Expr} {es : List Expr} {x : Str} {p pos : Pos} {s s1 s2 s3 : Slot} {ss : List Slot} {α β : Type} {R : α → Slot} {S : β → Slot}
/-! ### built-in calls -/
theorem alls1 {K : Fg} {G : Hp} {vs : List V} (h : AllS K G vs [s]) : ∃ v, vs = [v] ∧ s.ok K G v := by
  cases h with
  | cons h t => cases t; exact ⟨_, rfl, h⟩
theorem alls2 {K : Fg} {G : Hp} {vs : List V} (h : AllS K G vs [s1, s2]) : ∃ v w, vs = [v, w] ∧ s1.ok K G v ∧ s2.ok K G w := by
  cases h with
  | cons h t => obtain ⟨w, rfl, h2⟩ := alls1 t; exact ⟨_, _, rfl, h, h2⟩
theorem c_len {as : List α} : CallE X (.builtin "len") [sLst R as] (sInt as.length) :=
  ⟨_, call_len_seq, fun B δ O σ G H Q xs st h k => by
    obtain ⟨v, rfl, p, vs, rfl, hp, r⟩ := alls1 h
    exact ⟨p, vs, rfl, .inl (SqL.of (st.stp.gh _ _ hp)), k _ G H (Same.refl _) st (by rw [r.length]; rfl)⟩⟩
theorem c_lenK {as : List α} : CallE X (.builtin "len") [sLstK R as] (sInt as.length) :=
  ⟨_, call_len_seq, fun B δ O σ G H Q xs st h k => by
    obtain ⟨v, rfl, p, vs, rfl, hp, r⟩ := alls1 h
    exact ⟨p, vs, rfl, .inl (Same.seq st.stp.gh hp), k _ G H (Same.refl _) st (by rw [r.length]; rfl)⟩⟩
theorem c_lenT {as : List α} : CallE X (.builtin "len") [sTupl R as] (sInt as.length) :=
  ⟨_, call_len_seq, fun B δ O σ G H Q xs st h k => by
    obtain ⟨v, rfl, p, vs, rfl, hp, r⟩ := alls1 h
    exact ⟨p, vs, rfl, .inr (sqT_up st.stp.gh hp), k _ G H (Same.refl _) st (by rw [r.length]; rfl)⟩⟩
theorem c_lenS {t : Str} (hz : t.length ≤ sizeLine) : CallE X (.builtin "len") [sStr t] (sInt t.length) :=
  ⟨_, call_len_str, fun B δ O σ G H Q xs st h k => by
    obtain ⟨v, rfl, hv⟩ := alls1 h
    cases hv
    exact ⟨t, rfl, hz, k _ G H (Same.refl _) st rfl⟩⟩
theorem c_int {i : Int} : CallE X (.type "int") [sInt i] (sInt i) :=
  ⟨_, call_int1, fun B δ O σ G H Q xs st h k => by
    obtain ⟨v, rfl, hv⟩ := alls1 h
    cases hv
    exact .inl ⟨i, rfl, k _ G H (Same.refl _) st rfl⟩⟩
theorem c_all {bs : List Bool} (hc : X.calm = true := by rfl) : CallE X (.builtin "all") [sLst sBl bs] (sBl (bs.all id)) :=
  ⟨_, cr_all hc, fun B δ O σ G H Q xs st h k => by
    obtain ⟨v, rfl, p, vs, rfl, hp, r⟩ := alls1 h
    have e := r.vals (f := V.bl)
    subst e
    exact ⟨p, bs, rfl, SqL.of (st.stp.gh _ _ hp), k _ G H (Same.refl _) st rfl⟩⟩
theorem c_any {bs : List Bool} (hc : X.calm = true := by rfl) : CallE X (.builtin "any") [sLst sBl bs] (sBl (bs.any id)) :=
  ⟨_, cr_any hc, fun B δ O σ G H Q xs st h k => by
    obtain ⟨v, rfl, p, vs, rfl, hp, r⟩ := alls1 h
    have e := r.vals (f := V.bl)
    subst e
    exact ⟨p, bs, rfl, SqL.of (st.stp.gh _ _ hp), k _ G H (Same.refl _) st rfl⟩⟩
theorem c_min {is : List Int} {m : Int} (hm : m ∈ is) (hl : ∀ y ∈ is, m ≤ y) (hc : X.calm = true := by rfl) : CallE X (.builtin "min") [sLst sInt is] (sInt m) :=
  ⟨_, cr_min hc, fun B δ O σ G H Q xs st h k => by
    obtain ⟨v, rfl, p, vs, rfl, hp, r⟩ := alls1 h
    have e := r.vals (f := V.int)
    subst e
    refine ⟨p, is, rfl, SqL.of (st.stp.gh _ _ hp), List.length_pos_of_mem hm, fun n hn hle => ?_⟩
    have : n = m := Int.le_antisymm (hle m hm) (hl n hn)
    subst this
    exact k _ G H (Same.refl _) st rfl⟩
theorem c_max {is : List Int} {m : Int} (hm : m ∈ is) (hl : ∀ y ∈ is, y ≤ m) (hc : X.calm = true := by rfl) : CallE X (.builtin "max") [sLst sInt is] (sInt m) :=
  ⟨_, cr_max hc, fun B δ O σ G H Q xs st h k => by
    obtain ⟨v, rfl, p, vs, rfl, hp, r⟩ := alls1 h
    have e := r.vals (f := V.int)
    subst e
    refine ⟨p, is, rfl, SqL.of (st.stp.gh _ _ hp), List.length_pos_of_mem hm, fun n hn hle => ?_⟩
    have : n = m := Int.le_antisymm (hl n hn) (hle m hm)
    subst this
    exact k _ G H (Same.refl _) st rfl⟩
theorem c_sum {is : List Int} (hc : X.calm = true := by rfl) : CallE X (.builtin "sum") [sLst sInt is] (sInt is.sum) :=
  ⟨_, cr_sum hc, fun B δ O σ G H Q xs st h k => by
    obtain ⟨v, rfl, p, vs, rfl, hp, r⟩ := alls1 h
    have e := r.vals (f := V.int)
    subst e
    exact ⟨p, is, rfl, SqL.of (st.stp.gh _ _ hp), k _ G H (Same.refl _) st rfl⟩⟩
theorem c_tuple {as : List α} : CallE X (.type "tuple") [sLst R as] (sTupl R as) :=
  ⟨_, call_tuple_of, fun B δ O σ G H Q xs st h k => by
    obtain ⟨v, rfl, p, vs, rfl, hp, r⟩ := alls1 h
    refine ⟨p, vs, rfl, .inl ⟨SqL.of (st.stp.gh _ _ hp), fun l hl => ?_⟩⟩
    have sg : Same G (upd G l (.tup vs)) := same_new (gnone st.stp hl)
    exact k _ _ _ sg (st.freshG hl) ⟨l, vs, rfl, SqT.of upd_same, r.mono sg⟩⟩
theorem c_tupleT {as : List α} : CallE X (.type "tuple") [sTupl R as] (sTupl R as) :=
  ⟨_, call_tuple_of, fun B δ O σ G H Q xs st h k => by
    obtain ⟨v, rfl, p, vs, rfl, hp, r⟩ := alls1 h
    exact ⟨p, vs, rfl, .inr ⟨sqT_up st.stp.gh hp, k _ G H (Same.refl _) st ⟨p, vs, rfl, hp, r⟩⟩⟩⟩
theorem c_list {as : List α} : CallW X (.type "list") [sLst R as] (fun p => oLst p R as) :=
  ⟨_, call_list_of, fun B δ O σ G H Q xs st h k => by
    obtain ⟨v, rfl, p, vs, rfl, hp, r⟩ := alls1 h
    exact ⟨p, vs, rfl, .inl (SqL.of (st.stp.gh _ _ hp)), fun l hl => k l G _ (none_of st hl) (Same.refl _) (st.freshO (w := oLst l R as) hl rfl ⟨vs, rfl, r⟩)⟩⟩
theorem c_listT {as : List α} : CallW X (.type "list") [sTupl R as] (fun p => oLst p R as) :=
  ⟨_, call_list_of, fun B δ O σ G H Q xs st h k => by
    obtain ⟨v, rfl, p, vs, rfl, hp, r⟩ := alls1 h
    exact ⟨p, vs, rfl, .inr (sqT_up st.stp.gh hp), fun l hl => k l G _ (none_of st hl) (Same.refl _) (st.freshO (w := oLst l R as) hl rfl ⟨vs, rfl, r⟩)⟩⟩
/-- the type of a slot's values -/
def TyS (s : Slot) (K : Fg) (t : Value) : Prop := ∀ (G H : Hp) (v : V), Same G H → s.ok K G v → TyX K H v t
section
variable {K : Fg}
theorem ty_int {i : Int} : TyS (sInt i) K (.type "int") := fun G H v e h => by cases h; exact .base (.int i)
theorem ty_bl {i : Bool} : TyS (sBl i) K (.type "bool") := fun G H v e h => by cases h; exact .base (.bl i)
theorem ty_str {i : Str} : TyS (sStr i) K (.type "str") := fun G H v e h => by cases h; exact .base (.str i)
theorem ty_non : TyS sNon K (.type "NoneType") := fun G H v e h => by cases h; exact .base .non
theorem ty_lst {as : List α} : TyS (sLst R as) K (.type "list") := fun G H v e h => by
  obtain ⟨p, vs, rfl, hp, r⟩ := h
  exact .base (.lst (e _ _ hp))
theorem ty_sqT {H : Hp} {p : Addr} {vs : List V} (h : SqT K H p vs) : TyX K H (.ref p) (.type "tuple") := by
  rcases h with (h | ⟨o, h⟩) | ⟨o, its, n, h, c, _⟩
  · exact .base (.tup h)
  · exact .fTuple h
  · exact .kTuple h c
theorem ty_tupl {as : List α} : TyS (sTupl R as) K (.type "tuple") := fun G H v e h => by
  obtain ⟨p, vs, rfl, hp, r⟩ := h
  exact ty_sqT (sqT_up e hp)
theorem ty_tup : TyS (sTup ss) K (.type "tuple") := fun G H v e h => by
  obtain ⟨p, vs, rfl, hp, r⟩ := h
  exact ty_sqT (sqT_up e hp)
/-- what isinstance asks of an own class -/ -- -
structure ClsI (K : Fg) (C : Addr) : Prop where
  cl : Cls K C
  ha : PySem.W.findIn K (.ref C) "__class__" = some (some (.builtin "object.__class__")) -- -
  hn : PySem.W.specialIn K (.builtin "object.__class__") "__get__" = some (some (.builtin "getset_descriptor.__get__")) -- -
  htk : PySem.W.takesIn K (.builtin "object.__class__") = some true -- -
  hm : PySem.W.mroIn K C (.type "object") = some true -- -
theorem ty_ins {C : Addr} {tab : List (Str × Slot)} (c : ClsI K C) : TyS (sIns C tab) K (.ref C) := fun G H v e h => by
  obtain ⟨p, o, rfl, hp, dx, fs, rfl, _⟩ := h
  exact .base (.ins (e _ _ hp) c.cl c.ha c.hn c.htk c.hm)
end
theorem c_isi {t : Value} {n : String} {k : Bool} (ty : TyS s X.K t) (hk : PySem.W.kitOne X.K t (.type n) = some k) : CallE X (.builtin "isinstance") [s, sVal (.ty n)] (sBl k) :=
  ⟨_, call_isi, fun B δ O σ G H Q xs st h q => by
    obtain ⟨v, w, rfl, h1, h2⟩ := alls2 h
    cases h2
    exact ⟨v, .ty n, t, .type n, k, rfl, .ty n, ty G H v st.stp.gh h1, hk, q _ G H (Same.refl _) st rfl⟩⟩
theorem c_isiC {t : Value} {C : Addr} {k : Bool} (ty : TyS s X.K t) (hk : PySem.W.kitOne X.K t (.ref C) = some k) : CallE X (.builtin "isinstance") [s, sRef C] (sBl k) :=
  ⟨_, call_isi, fun B δ O σ G H Q xs st h q => by
    obtain ⟨v, w, rfl, h1, h2⟩ := alls2 h
    cases h2
    exact ⟨v, .ref C, t, .ref C, k, rfl, .own C, ty G H v st.stp.gh h1, hk, q _ G H (Same.refl _) st rfl⟩⟩
/-- a tuple that the body has made, place by place -/
def sTupX (ss : List Slot) : Slot :=
  ⟨fun K G v => ∃ p vs, v = .ref p ∧ G p = some (.tup vs) ∧ AllS K G vs ss, fun e ⟨p, vs, h, q, r⟩ => ⟨p, vs, h, e _ _ q, r.mono e⟩⟩
theorem e_tupX {x1} (h : EA X δ O es ss O1) (hz : ss.length ≤ sizeLine) : E X δ O (.Tuple es x1 pos) (sTupX ss) O1 := by
  intro B σ G H Q st k
  refine e_of (pe_tup pa_w) ?_
  refine h B σ G H _ st fun vs G1 H1 m1 st1 hv => ⟨by rw [hv.length]; exact hz, fun q hq => ?_⟩
  have sg : Same G1 (upd G1 q (.tup vs)) := same_new (gnone st1.stp hq)
  exact k _ _ _ (m1.trans sg) (st1.freshG hq) ⟨q, vs, rfl, upd_same, hv.mono sg⟩
/-- isinstance(x, (list, tuple)) -/
theorem c_isi2 {t : Value} {m n : String} {k : Bool} (ty : TyS s X.K t) (hk : PySem.W.kitAny X.K t [.type m, .type n] = some k) : CallE X (.builtin "isinstance") [s, sTupX [sVal (.ty m), sVal (.ty n)]] (sBl k) :=
  ⟨_, call_isiT, fun B δ O σ G H Q xs st h q => by
    obtain ⟨v, w, rfl, h1, p, vs, rfl, hp, h2⟩ := alls2 h
    obtain ⟨v1, v2, rfl, e1, e2⟩ := alls2 h2
    cases e1
    cases e2
    exact ⟨v, p, _, t, _, k, rfl, st.stp.gh _ _ hp, .cons (.ty m) (.cons (.ty n) .nil), ty G H v st.stp.gh h1, hk, q _ G H (Same.refl _) st rfl⟩⟩

/-! ### subscripts, slices -/
theorem e_ix (hi : IxE X s1 s2 s3) (ha : E X δ O a s1 O1) (hb : E X δ O1 b s2 O2) (hs : noSlice b = true := by rfl) : E X δ O (.Subscript a b pos) s3 O2 := by
  obtain ⟨r, h1, h2⟩ := hi
  intro B σ G H Q st k
  refine e_of (pe_ix h1 pe_w pe_w (plainIx_of hs)) ?_
  exact ha B σ G H _ st fun x G1 H1 m1 st1 hx => hb B σ G1 H1 _ st1 fun y G2 H2 m2 st2 hy => h2 B δ O2 σ G2 H2 Q x y st2 (s1.mono m2 hx) hy fun v G' H' m3 st3 hv => k v G' H' (m1.trans (m2.trans m3)) st3 hv
theorem atI_all2 {K : Fg} {G : Hp} {vs : List V} {as : List α} {i : Int} {y : α} (r : All2 K G R vs as) (h : atI as i = some y) : ∃ v, atI vs i = some v ∧ (R y).ok K G v := by
  unfold atI at h ⊢
  rw [r.length]
  cases e : ixN as.length i with
  | none => rw [e] at h; cases h -- -
  | some j =>
    rw [e] at h
    exact r.get h
theorem i_lst {as : List α} {i : Int} {y : α} (h : atI as i = some y) : IxE X (sLst R as) (sInt i) (R y) :=
  ⟨_, ix_list, fun B δ O σ G H Q v w st hv hw k => by
    obtain ⟨p, vs, rfl, hp, r⟩ := hv
    cases hw
    obtain ⟨u, h1, h2⟩ := atI_all2 r h
    exact ⟨p, vs, i, u, rfl, rfl, SqL.of (st.stp.gh _ _ hp), h1, k _ G H (Same.refl _) st h2⟩⟩
theorem i_lstK {as : List α} {i : Int} {y : α} (h : atI as i = some y) : IxE X (sLstK R as) (sInt i) (R y) :=
  ⟨_, ix_list, fun B δ O σ G H Q v w st hv hw k => by
    obtain ⟨p, vs, rfl, hp, r⟩ := hv
    cases hw
    obtain ⟨u, h1, h2⟩ := atI_all2 r h
    exact ⟨p, vs, i, u, rfl, rfl, Same.seq st.stp.gh hp, h1, k _ G H (Same.refl _) st h2⟩⟩
theorem i_tupl {as : List α} {i : Int} {y : α} (h : atI as i = some y) : IxE X (sTupl R as) (sInt i) (R y) :=
  ⟨_, ix_tup, fun B δ O σ G H Q v w st hv hw k => by
    obtain ⟨p, vs, rfl, hp, r⟩ := hv
    cases hw
    obtain ⟨u, h1, h2⟩ := atI_all2 r h
    exact ⟨p, vs, i, u, rfl, rfl, sqT_up st.stp.gh hp, h1, k _ G H (Same.refl _) st h2⟩⟩
theorem allS_get {K : Fg} {G : Hp} : ∀ {vs : List V} {ss : List Slot} {j : Nat} {s : Slot}, AllS K G vs ss → ss[j]? = some s → ∃ v, vs[j]? = some v ∧ s.ok K G v
  | _, _, _, _, .nil, h => by simp at h
  | _, _, 0, _, .cons h t, e => by simp at e; subst e; exact ⟨_, rfl, h⟩
  | _, _, j + 1, s, .cons h t, e => by
    obtain ⟨v, h1, h2⟩ := allS_get t (j := j) (s := s) (by simpa using e)
    exact ⟨v, by simpa using h1, h2⟩
theorem i_tup {i : Int} (j : Nat) (h : ixN ss.length i = some j) (hj : ss[j]? = some s) : IxE X (sTup ss) (sInt i) s :=
  ⟨_, ix_tup, fun B δ O σ G H Q v w st hv hw k => by
    obtain ⟨p, vs, rfl, hp, r⟩ := hv
    cases hw
    obtain ⟨u, h1, h2⟩ := allS_get r hj
    refine ⟨p, vs, i, u, rfl, rfl, sqT_up st.stp.gh hp, ?_, k _ G H (Same.refl _) st h2⟩
    unfold atI
    rw [r.length, h]
    exact h1⟩
/-- xs[i] of an owned list, place by place -/
theorem e_ixO {q : Addr} {i : Int} (jw j : Nat) (ha : E X δ O a (sRef q) O1) (hb : E X δ O1 b (sInt i) O2) (hw : O2[jw]? = some (oLstS q ss) := by rfl) (h : ixN ss.length i = some j := by rfl) (hj : ss[j]? = some s := by rfl) (hs : noSlice b = true := by rfl) : E X δ O (.Subscript a b pos) s O2 := by
  intro B σ G H Q st k
  refine e_of (pe_ix ix_list pe_w pe_w (plainIx_of hs)) ?_
  refine ha B σ G H _ st fun x G1 H1 m1 st1 hx => hb B σ G1 H1 _ st1 fun y G2 H2 m2 st2 hy => ?_
  cases hx
  cases hy
  obtain ⟨o, hq, _, vs, rfl, r⟩ := st2.own _ (List.mem_of_getElem? hw)
  obtain ⟨u, h1, h2⟩ := allS_get r hj
  refine ⟨q, vs, i, u, rfl, rfl, SqL.of hq, ?_, k _ G2 H2 (m1.trans m2) st2 h2⟩
  unfold atI
  rw [r.length, h]
  exact h1
/-- a part of a slice -/
def PoE (X : Cx) (δ : List (Option Slot)) (O : List Own) (e : Option Expr) (o : Option Int) (O' : List Own) : Prop :=
  ∃ t, PO X e t ∧ ∀ (B : Bs) (σ : SS) (G H : Hp) (Q : Option Int → Hp → Prop), Sta X.K B δ O σ G H → (∀ G' H', Same G G' → Sta X.K B δ O' σ G' H' → Q o H') → t σ H Q
theorem po_n : PoE X δ O none none O := ⟨_, po_none, fun B σ G H Q st k => k G H (Same.refl _) st⟩
theorem po_s {i : Int} (h : E X δ O e (sInt i) O1) : PoE X δ O (some e) (some i) O1 := ⟨_, po_some pe_w, fun B σ G H Q st k => h B σ G H _ st fun v G' H' m st' hv => ⟨i, hv, k G' H' m st'⟩⟩
/-- a list's stretch -/
def cutA (as : List α) (lo hi : Option Int) : List α := (as.drop (HT.sIx as.length 0 lo)).take (HT.sIx as.length as.length hi - HT.sIx as.length 0 lo)
theorem cut_all2 {K : Fg} {G : Hp} {vs : List V} {as : List α} (lo hi : Option Int) (r : All2 K G R vs as) : All2 K G R (cutV vs lo hi) (cutA as lo hi) := by
  unfold cutV cutA
  rw [r.length]
  exact (r.drop _).take _
theorem ew_slice {as : List α} {lo hi : Option Expr} {l u : Option Int} {p2 : Pos} (he : E X δ O e (sLst R as) O1) (hl : PoE X δ O1 lo l O2) (hu : PoE X δ O2 hi u O3) : EW X δ O (.Subscript e (.Slice lo hi none p2) pos) (fun p => oLst p R (cutA as l u)) O3 := by
  obtain ⟨t1, g1, f1⟩ := hl
  obtain ⟨t2, g2, f2⟩ := hu
  intro B σ G H Q st k
  refine e_of (pe_slice sl_list pe_w g1 g2) ?_
  refine he B σ G H _ st fun x G1 H1 m1 st1 hx => f1 B σ G1 H1 _ st1 fun G2 H2 m2 st2 => f2 B σ G2 H2 _ st2 fun G3 H3 m3 st3 => ?_
  obtain ⟨p, vs, rfl, hp, r⟩ := hx
  refine ⟨p, vs, rfl, SqL.of (st3.stp.gh _ _ (m3 _ _ (m2 _ _ hp))), fun q hq => ?_⟩
  exact k q G3 _ (none_of st3 hq) (m1.trans (m2.trans m3)) (st3.freshO (w := oLst q R (cutA as l u)) hq rfl ⟨_, rfl, cut_all2 l u (r.mono (m2.trans m3))⟩)
theorem ew_sliceK {as : List α} {lo hi : Option Expr} {l u : Option Int} {p2 : Pos} (he : E X δ O e (sLstK R as) O1) (hl : PoE X δ O1 lo l O2) (hu : PoE X δ O2 hi u O3) : EW X δ O (.Subscript e (.Slice lo hi none p2) pos) (fun p => oLst p R (cutA as l u)) O3 := by
  obtain ⟨t1, g1, f1⟩ := hl
  obtain ⟨t2, g2, f2⟩ := hu
  intro B σ G H Q st k
  refine e_of (pe_slice sl_list pe_w g1 g2) ?_
  refine he B σ G H _ st fun x G1 H1 m1 st1 hx => f1 B σ G1 H1 _ st1 fun G2 H2 m2 st2 => f2 B σ G2 H2 _ st2 fun G3 H3 m3 st3 => ?_
  obtain ⟨p, vs, rfl, hp, r⟩ := hx
  refine ⟨p, vs, rfl, Same.seq st3.stp.gh (Same.seq m3 (Same.seq m2 hp)), fun q hq => ?_⟩
  exact k q G3 _ (none_of st3 hq) (m1.trans (m2.trans m3)) (st3.freshO (w := oLst q R (cutA as l u)) hq rfl ⟨_, rfl, cut_all2 l u (r.mono (m2.trans m3))⟩)
theorem ew_rev {as : List α} {k : Nat} {p1 p2 p3 : Pos} (he : E X δ O e (sLst R as) O1) : EW X δ O (.Subscript e (.Slice none none (some (.UnaryOp .USub (.Constant (.int 1) k p1) p2)) p3) pos) (fun p => oLst p R as.reverse) O1 := by
  intro B σ G H Q st q
  refine e_of (pe_revL pe_w) ?_
  refine he B σ G H _ st fun x G1 H1 m1 st1 hx => ?_
  obtain ⟨p, vs, rfl, hp, r⟩ := hx
  exact ⟨p, vs, rfl, SqL.of (st1.stp.gh _ _ hp), fun z hz => q z G1 _ (none_of st1 hz) m1 (st1.freshO (w := oLst z R as.reverse) hz rfl ⟨_, rfl, r.reverse⟩)⟩
end
end Gd

namespace Gd
open PySem L2
section
variable {X : Cx} {B B1 : Bs} {δ δ' : List (Option Slot)} {O O1 O2 O3 : List Own} {a b c e o : Expr} {es : List Expr} {x : Str} {p pos : Pos} {s s1 s2 s3 : Slot} {ss : List Slot} {α β : Type} {R : α → Slot} {S : β → Slot} {D : Ends} {rest sts : List Stmt} {u : Bool}

theorem allS_set {K : Fg} {G : Hp} {s : Slot} {v : V} (h : s.ok K G v) : ∀ {vs : List V} {ss : List Slot} {j : Nat}, AllS K G vs ss → AllS K G (vs.set j v) (ss.set j s)
  | _, _, _, .nil => .nil
  | _, _, 0, .cons _ t => .cons h t
  | _, _, j + 1, .cons q t => .cons q (allS_set h t)
/-! ### frames: what an expression does not own stands -/
theorem Sta.at {K : Fg} {σ : SS} {G H : Hp} (st : Sta K B δ (O1 ++ O) σ G H) : Sta K ⟨O1.map (·.p), G, H⟩ δ O1 σ G H := by
  have nd := st.nd
  rw [List.map_append] at nd
  exact ⟨Stp.refl st.stp.gh, st.env, st.len, fun w hw => st.own w (List.mem_append_left _ hw), fun w hw => .inl (List.mem_map.mpr ⟨w, hw, rfl⟩), (List.nodup_append.mp nd).1⟩
theorem Sta.back {K : Fg} {σ : SS} {G H G' H' : Hp} (st : Sta K B δ (O1 ++ O) σ G H) (t : Sta K ⟨O1.map (·.p), G, H⟩ δ O2 σ G' H') : Sta K B δ (O2 ++ O) σ G' H' := by
  have nd := st.nd
  rw [List.map_append] at nd
  refine ⟨st.stp.trans t.stp fun q hq => ?_, t.env, t.len, fun w hw => ?_, fun w hw => ?_, ?_⟩
  · obtain ⟨w, hw, e⟩ := List.mem_map.mp hq
    rw [← e]; exact st.new w (List.mem_append_left _ hw)
  · rcases List.mem_append.mp hw with hw | hw
    · exact t.own w hw
    · obtain ⟨o, h1, h2, h3⟩ := st.own w (List.mem_append_right _ hw)
      have hn : w.p ∉ O1.map (·.p) := fun z => (List.nodup_append.mp nd).2.2 _ z _ (List.mem_map.mpr ⟨w, hw, rfl⟩) rfl
      exact ⟨o, t.stp.fr _ _ h1 hn, t.stp.nf _ _ h1 h2, w.mono t.stp.ex h3⟩
  · rcases List.mem_append.mp hw with hw | hw
    · rcases t.new w hw with k | k
      · obtain ⟨v, hv, e⟩ := List.mem_map.mp k
        rw [← e]; exact st.new v (List.mem_append_left _ hv)
      · right
        cases e : B.H w.p with
        | none => rfl
        | some o =>
          obtain ⟨o', e'⟩ := st.stp.th _ _ e
          have k : H w.p = none := k
          rw [k] at e'; cases e'
    · exact st.new w (List.mem_append_right _ hw)
  · (rw [List.map_append, List.nodup_append])
    refine ⟨t.nd, (List.nodup_append.mp nd).2.1, fun q hq r hr hqr => ?_⟩
    subst hqr
    obtain ⟨w, hw, e⟩ := List.mem_map.mp hq
    obtain ⟨v, hv, e'⟩ := List.mem_map.mp hr
    obtain ⟨o, h1, _, _⟩ := st.own v (List.mem_append_right _ hv)
    rcases t.new w hw with k | k
    · refine (List.nodup_append.mp nd).2.2 _ k _ (List.mem_map.mpr ⟨v, hv, rfl⟩) ?_
      rw [e, e']
    · have k : H w.p = none := k
      rw [e, ← e', h1] at k; cases k
theorem e_frame (h : E X δ O1 e s O2) : E X δ (O1 ++ O) e s (O2 ++ O) := fun B σ G H Q st k =>
  h _ σ G H Q st.at fun v G' H' m st' hv => k v G' H' m (st.back st') hv
theorem ew_frame {φ : Addr → Own} (h : EW X δ O1 e φ O2) (hφ : ∀ p, (φ p).p = p) : EW X δ (O1 ++ O) e φ (O2 ++ O) := fun B σ G H Q st k =>
  h _ σ G H Q st.at fun p G' H' hb m st' => k p G' H' (by
    cases e : B.H p with
    | none => rfl
    | some o =>
      obtain ⟨o', e'⟩ := st.stp.th _ _ e
      have hb : H p = none := hb
      rw [hb] at e'; cases e') m (st.back (O2 := φ p :: O2) st')
theorem t_frame (h : T X δ O1 e u O2) : T X δ (O1 ++ O) e u (O2 ++ O) := fun B σ G H Q st k =>
  h _ σ G H Q st.at fun G' H' m st' => k G' H' m (st.back st')
/-- the owned objects in another order -/
theorem e_perm (h : E X δ O2 e s O3) (h1 : ∀ w ∈ O2, w ∈ O1) (nd : (O1.map (·.p)).Nodup → (O2.map (·.p)).Nodup) : E X δ O1 e s O3 := fun B σ G H Q st k =>
  h B σ G H Q (st.perm h1 (nd st.nd)) k
theorem e_rot {w : Own} (h : E X δ (O1 ++ [w]) e s O2) : E X δ (w :: O1) e s O2 := e_perm h (fun v hv => by simp at hv ⊢; exact hv.symm) fun nd => by
  (rw [List.map_cons, List.nodup_cons] at nd)
  (rw [List.map_append, List.nodup_append])
  refine ⟨nd.2, by simp, fun q hq r hr e => nd.1 ?_⟩
  simp at hr
  rw [← hr, ← e]; exact hq

/-! ### bases -/
structure BLe (B B1 : Bs) : Prop where
  a : B1.A = B.A
  h : B1.H = B.H
  g : Same B.G B1.G
  n : ∀ p o, B.H p = some o → B.G p = none → B1.G p = none
theorem BLe.refl (B : Bs) : BLe B B := ⟨rfl, rfl, Same.refl _, fun _ _ _ h => h⟩
theorem BLe.trans {B2 : Bs} (h : BLe B B1) (k : BLe B1 B2) : BLe B B2 := ⟨k.a.trans h.a, k.h.trans h.h, h.g.trans k.g, fun p o e n => k.n p o (by rw [h.h]; exact e) (h.n p o e n)⟩
theorem Stp.le {G H : Hp} (l : BLe B B1) (t : Stp B1 G H) : Stp B G H :=
  ⟨t.gh, l.g.trans t.ex, fun p o e n => t.fr p o (by rw [l.h]; exact e) (by rw [l.a]; exact n), fun p o e => t.th p o (by rw [l.h]; exact e), fun p o e n => t.nf p o (by rw [l.h]; exact e) (l.n p o e n)⟩
theorem Sta.le {K : Fg} {σ : SS} {G H : Hp} (l : BLe B B1) (t : Sta K B1 δ O σ G H) : Sta K B δ O σ G H :=
  ⟨t.stp.le l, t.env, t.len, t.own, fun w hw => by have := t.new w hw; rwa [l.a, l.h] at this, t.nd⟩
/-- the base moves up to the frozen heap as it stands -/
theorem Sta.up {K : Fg} {σ : SS} {G H : Hp} (t : Sta K B δ O σ G H) : BLe B ⟨B.A, G, B.H⟩ ∧ Sta K ⟨B.A, G, B.H⟩ δ O σ G H :=
  ⟨⟨rfl, rfl, t.stp.ex, fun p o e n => t.stp.nf p o e n⟩, ⟨⟨t.stp.gh, Same.refl _, t.stp.fr, t.stp.th, fun _ _ _ n => n⟩, t.env, t.len, t.own, t.new, t.nd⟩⟩

/-- slots forgotten -/
inductive WkD : List (Option Slot) → List (Option Slot) → Prop
  | nil : WkD [] []
  | same {s : Option Slot} {a b : List (Option Slot)} : WkD a b → WkD (s :: a) (s :: b)
  | skip {s : Option Slot} {a b : List (Option Slot)} : WkD a b → WkD (none :: a) (s :: b)
theorem WkD.length : ∀ {a b : List (Option Slot)}, WkD a b → a.length = b.length
  | _, _, .nil => rfl
  | _, _, .same h => by simp [h.length]
  | _, _, .skip h => by simp [h.length]
theorem WkD.get : ∀ {a b : List (Option Slot)} {i : Nat} {t : Slot}, WkD a b → a[i]? = some (some t) → b[i]? = some (some t)
  | _, _, _, _, .nil, h => by simp at h
  | _, _, 0, _, .same _, h => by simpa using h
  | _, _, 0, _, .skip _, h => by simp at h
  | _, _, i + 1, t, .same q, h => by simpa using q.get (i := i) (t := t) (by simpa using h)
  | _, _, i + 1, t, .skip q, h => by simpa using q.get (i := i) (t := t) (by simpa using h)
theorem Sta.wk {K : Fg} {σ : SS} {G H : Hp} (st : Sta K B δ O σ G H) (h : WkD δ' δ) : Sta K B δ' O σ G H := st.weak h.length fun i t hi => ⟨t, h.get hi, fun _ _ _ q => q⟩

/-! ### statements -/
/-- behind the statements st -/
def Ends.thenS (X : Cx) (rest : List Stmt) (D : Ends) : Ends := { D with nx := fun σ H => wSs X rest D σ H }
theorem j_cons {st : Stmt} (h : ∀ (σ : SS) (G H : Hp), Sta X.K B δ O σ G H → wS X st { D with nx := fun σ H => wSs X rest D σ H } σ H) : J X B δ O (st :: rest) D := fun σ G H q => ss_of (pss_cons ps_w pss_w) (h σ G H q)
theorem j_nil (h : ∀ (σ : SS) (G H : Hp), Sta X.K B δ O σ G H → D.nx σ H) : J X B δ O [] D := fun σ G H q => ss_of pss_nil (h σ G H q)
/-- at the end of a branch: on with what follows -/
theorem j_on {sts : List Stmt} (h : J X B δ O sts D) : J X B δ O [] { D with nx := fun σ H => wSs X sts D σ H } := j_nil fun σ G H q => h σ G H q
theorem j_pass (h : J X B δ O rest D) : J X B δ O (.Pass pos :: rest) D := j_cons fun σ G H q => s_of ps_pass (h σ G H q)
theorem j_set {px : Pos} (i : Nat) (h : E X δ O e s O1) (q : J X B (δ.set i (some s)) O1 rest D) (hN : X.N.Nodup) (hi : X.N[i]? = some x := by rfl)
    (hx : Loc X.env.scope x := by first | exact Or.inl rfl | exact Or.inr rfl) (hs : noCompr e = true := by rfl) (hf : X.fn x = true ∨ X.env.scope.names.lookup x = some .local := by first | exact .inl rfl | exact .inr rfl) : J X B δ O (.Assign [.Name x px] e pos :: rest) D :=
  j_cons fun σ G H st => s_of (ps_set hN hi hx pe_w (swaps_plain hs) hf) (h B σ G H _ st fun v G' H' m st' hv => q _ G' H' (st'.set hv))
/-- x = a new object -/
theorem j_setW {px : Pos} {φ : Addr → Own} (i : Nat) (h : EW X δ O e φ O1) (q : ∀ r, B.H r = none → J X B (δ.set i (some (sRef r))) (φ r :: O1) rest D) (hN : X.N.Nodup) (hi : X.N[i]? = some x := by rfl)
    (hx : Loc X.env.scope x := by first | exact Or.inl rfl | exact Or.inr rfl) (hs : noCompr e = true := by rfl) (hf : X.fn x = true ∨ X.env.scope.names.lookup x = some .local := by first | exact .inl rfl | exact .inr rfl) : J X B δ O (.Assign [.Name x px] e pos :: rest) D :=
  j_cons fun σ G H st => s_of (ps_set hN hi hx pe_w (swaps_plain hs) hf) (h B σ G H _ st fun r G' H' hb m st' => q r hb _ G' H' (st'.set rfl))
theorem j_aug {px : Pos} {n m : Int} (i : Nat) (hd : δ[i]? = some (some (sInt n))) (h : E X δ O e (sInt m) O1) (q : J X B (δ.set i (some (sInt (n + m)))) O1 rest D) (hN : X.N.Nodup) (hi : X.N[i]? = some x := by rfl)
    (hx : Loc X.env.scope x := by first | exact Or.inl rfl | exact Or.inr rfl) (hf : X.fn x = true ∨ X.env.scope.names.lookup x = some .local := by first | exact .inl rfl | exact .inr rfl) : J X B δ O (.AugAssign (.Name x px) .Add e pos :: rest) D :=
  j_cons fun σ G H st => s_of (ps_aug hN hi hx pe_w ip_add hf) (by
    obtain ⟨v, e1, hv⟩ := st.env i _ hd
    cases hv
    exact ⟨_, e1, h B σ G H _ st fun w G' H' mm st' hw => ⟨n, m, rfl, hw, q _ G' H' (st'.set rfl)⟩⟩)
theorem j_if {ys ns : List Stmt} (h : T X δ O c u O1) (hy : u = true → J X B δ O1 ys { D with nx := fun σ H => wSs X rest D σ H }) (hn : u = false → J X B δ O1 ns { D with nx := fun σ H => wSs X rest D σ H }) : J X B δ O (.If c ys ns pos :: rest) D :=
  j_cons fun σ G H st => s_of (ps_if pt_w pss_w pss_w) (h B σ G H _ st fun G' H' m st' => by
    cases u with
    | true => exact iteT (hy rfl _ G' H' st')
    | false => exact iteF (hn rfl _ G' H' st'))
theorem j_ret (h : E X δ O e s O1) (q : ∀ v σ G' H', Sta X.K B δ O1 σ G' H' → s.ok X.K G' v → D.rt v H') : J X B δ O (.Return (some e) pos :: rest) D :=
  j_cons fun σ G H st => s_of (ps_ret pe_w) (h B σ G H _ st fun v G' H' m st' hv => q v σ G' H' st' hv)
theorem j_expr (h : E X δ O e s O1) (q : J X B δ O1 rest D) (hs : noCompr e = true := by rfl) : J X B δ O (.Expr e pos :: rest) D :=
  j_cons fun σ G H st => s_of (ps_expr pe_w (swaps_plain hs)) (h B σ G H _ st fun v G' H' m st' hv => q _ G' H' st')
theorem j_break (q : ∀ (σ : SS) (G H : Hp), Sta X.K B δ O σ G H → D.bk σ H) : J X B δ O (.Break pos :: rest) D := j_cons fun σ G H st => s_of ps_break (q σ G H st)
theorem j_cont (q : ∀ (σ : SS) (G H : Hp), Sta X.K B δ O σ G H → D.ct σ H) : J X B δ O (.Continue pos :: rest) D := j_cons fun σ G H st => s_of ps_continue (q σ G H st)
/-- a fact of the state -/
theorem j_sta (h : (∃ (σ : SS) (G H : Hp), Sta X.K B δ O σ G H) → J X B δ O sts D) : J X B δ O sts D := fun σ G H q => h ⟨σ, G, H, q⟩ σ G H q
theorem j_weak (δ' : List (Option Slot)) (h : J X B δ' O sts D) (hl : δ'.length = δ.length := by rfl) (hw : ∀ (i : Nat) (t : Slot), δ'[i]? = some (some t) → ∃ u : Slot, δ[i]? = some (some u) ∧ ∀ K G v, u.ok K G v → t.ok K G v) : J X B δ O sts D :=
  fun σ G H q => h σ G H (q.weak hl hw)
theorem j_perm (O' : List Own) (h : J X B δ O' sts D) (h1 : ∀ w ∈ O', w ∈ O) (nd : (O.map (·.p)).Nodup → (O'.map (·.p)).Nodup) : J X B δ O sts D := fun σ G H q => h σ G H (q.perm h1 (nd q.nd))
/-- forget the first owned object -/
theorem j_drop {w : Own} (h : J X B δ O sts D) : J X B δ (w :: O) sts D := j_perm O h (fun v hv => List.mem_cons_of_mem _ hv) fun nd => by
  rw [List.map_cons] at nd
  exact (List.nodup_cons.mp nd).2
/-- the owned list in slot i, new since the entry, is frozen -/
theorem j_freeze (i : Nat) {w : Own} (hd : δ[i]? = some (some (sRef w.p))) (hb : B.H w.p = none) (hs : ∀ (K : Fg) (G : Hp) (o : HO), w.φ K G o → G w.p = none → s.ok K (upd G w.p o) (.ref w.p)) (h : J X B (δ.set i (some s)) O sts D) : J X B δ (w :: O) sts D := fun σ G H q => by
  obtain ⟨o, h1, h2, h3⟩ := q.freeze hb
  obtain ⟨v, e, hv⟩ := q.env i _ hd
  cases hv
  have gp : G w.p = none := by
    obtain ⟨_, _, g, _⟩ := q.own w List.mem_cons_self
    exact g
  have hi : i < σ.length := by
    rcases Nat.lt_or_ge i σ.length with z | z
    · exact z
    · rw [List.getElem?_eq_none z] at e; cases e
  have := h3.set (i := i) (hs _ _ _ h2 gp)
  have eq : σ.set i (some (V.ref w.p)) = σ := by
    (refine List.ext_getElem? fun j => ?_)
    by_cases hj : i = j
    · subst hj; rw [List.getElem?_set_self hi, e]
    · rw [List.getElem?_set_ne hj]
  rw [eq] at this
  exact h σ _ H this
theorem Sta.putI {K : Fg} {σ : SS} {G H : Hp} {w w' : Own} {ob : HO} {j : Nat} (s : Sta K B δ O σ G H) (hj : O[j]? = some w) (hw : w'.p = w.p) (hφ : w'.φ K G ob) : Sta K B δ (O.set j w') σ G (upd H w.p ob) := by
  have hjl : j < O.length := by
    rcases Nat.lt_or_ge j O.length with z | z
    · exact z
    · rw [List.getElem?_eq_none z] at hj; cases hj
  have hm : w ∈ O := List.mem_of_getElem? hj
  obtain ⟨o0, h1, h2, h3⟩ := s.own w hm
  have gne : ∀ q u, G q = some u → q ≠ w.p := fun q u e z => by rw [z, h2] at e; cases e
  have emap : (O.set j w').map (·.p) = O.map (·.p) := by
    refine List.ext_getElem? fun i => ?_
    (rw [List.getElem?_map, List.getElem?_map])
    by_cases hi : j = i
    · subst hi; rw [List.getElem?_set_self hjl, hj]; show some w'.p = some w.p; rw [hw]
    · rw [List.getElem?_set_ne hi]
  have mem : ∀ v ∈ O.set j w', v = w' ∨ (v ∈ O ∧ v.p ≠ w.p) := fun v hv => by
    obtain ⟨i, hi, e⟩ := List.getElem_of_mem hv
    have e' : (O.set j w')[i]? = some v := by rw [List.getElem?_eq_getElem hi, e]
    by_cases hij : j = i
    · subst hij; rw [List.getElem?_set_self hjl] at e'; exact .inl (Option.some.inj e').symm
    · rw [List.getElem?_set_ne hij] at e'
      refine .inr ⟨List.mem_of_getElem? e', fun z => hij ?_⟩
      have hil : i < O.length := by rw [List.length_set] at hi; exact hi
      have n1 : (O.map (·.p))[i]? = some v.p := by rw [List.getElem?_map, e']; rfl
      have n2 : (O.map (·.p))[j]? = some w.p := by rw [List.getElem?_map, hj]; rfl
      have := (List.getElem?_inj (l := O.map (·.p)) (i := j) (j := i) (by rw [List.length_map]; exact hjl) s.nd).mp (by rw [n1, n2, z])
      exact this
  refine ⟨⟨fun q u e => ?_, s.stp.ex, fun q u e ha => ?_, fun q u e => ?_, s.stp.nf⟩, s.env, s.len, fun v hv => ?_, fun v hv => ?_, by rw [emap]; exact s.nd⟩
  · rw [upd_ne (gne _ _ e)]; exact s.stp.gh _ _ e
  · have hq : q ≠ w.p := fun z => by
      rcases s.new w hm with k | k
      · exact ha (by rw [z]; exact k)
      · rw [z, k] at e; cases e
    rw [upd_ne hq]; exact s.stp.fr _ _ e ha
  · by_cases hq : q = w.p
    · exact ⟨ob, by rw [hq]; exact upd_same⟩
    · rw [upd_ne hq]; exact s.stp.th _ _ e
  · rcases mem v hv with rfl | ⟨hv, hq⟩
    · exact ⟨ob, by rw [hw]; exact upd_same, by rw [hw]; exact h2, hφ⟩
    · obtain ⟨u, g1, g2, g3⟩ := s.own v hv
      exact ⟨u, by rw [upd_ne hq]; exact g1, g2, g3⟩
  · rcases mem v hv with rfl | ⟨hv, hq⟩
    · rw [hw]; exact s.new w hm
    · exact s.new v hv
/-- xs.append(e), xs an owned list -/
theorem e_append {q : Addr} {as : List α} {y : α} {apos : Pos} (jw : Nat) (ho : E X δ O o (sRef q) O1) (he : E X δ O1 e (R y) O2) (hz : as.length < sizeLine) (hw1 : O1[jw]? = some (oLst q R as) := by rfl) (hw : O2[jw]? = some (oLst q R as) := by rfl)
    (hbase : noCall0 o = true := by rfl)
    (hfew : ((backTo pos (starEach (e :: []) X.env)).all (fun x => !x.1) && (backToKw pos (keywordEach [] X.env)).all (fun x => x.1.isSome)
      && decide ((e :: []).length + ([] : List Keyword).length + (if ([] : List Keyword).isEmpty then 0 else 1) < 30)) = true := by rfl)
    (hline : (apos.endLine == pos.line) = true := by rfl) (hs : noStar e = true := by rfl) (hplain : (backTo pos (starEach [] X.env)).any (·.1) = false := by rfl) :
    E X δ O (.Call (.Attribute o "append" apos) [e] [] pos) sNon (O2.set jw (oLst q R (as ++ [y]))) := by
  intro B σ G H Q st k
  refine e_of (pe_bm PySem.F.plainAttrs_list PySem.F.slot_list_append PySem.F.type_list_append mt_append pe_w (pa_cons pe_w pa_nil (starEach_plain hs)) (attributeBase_plain hbase) hfew hline (starEach_plain hs) hplain) ?_
  refine ho B σ G H _ st fun v G1 H1 m1 st1 hv => ?_
  cases hv
  obtain ⟨o1, hq1, _, vs1, rfl, _⟩ := st1.own _ (List.mem_of_getElem? hw1)
  refine ⟨.inl ⟨rfl, _, SqL.of hq1⟩, ?_⟩
  refine he B σ G1 H1 _ st1 fun w G2 H2 m2 st2 hw2 => ?_
  obtain ⟨o2, hq2, _, vs2, rfl, r2⟩ := st2.own _ (List.mem_of_getElem? hw)
  refine ⟨q, vs2, w, rfl, rfl, hq2, by rw [r2.length]; exact hz, ?_⟩
  exact k _ G2 _ (m1.trans m2) (st2.putI (w' := oLst q R (as ++ [y])) hw rfl ⟨_, rfl, r2.append (.cons hw2 .nil)⟩) rfl
/-- xs[i] = e, xs an owned list, place by place -/
theorem j_setIx {q : Addr} {i : Int} {tp : Pos} (jw j : Nat) (he : E X δ O e s O1) (ho : E X δ O1 o (sRef q) O2) (hb : E X δ O2 b (sInt i) O3) 
    (k : J X B δ (O3.set jw (oLstS q (ss.set j s))) rest D) (hw : O3[jw]? = some (oLstS q ss) := by rfl) (hi : ixN ss.length i = some j := by rfl) (hs : noCompr e = true := by rfl) (hsw : swappedStores [.Subscript o b tp] e X.env = pure none := by rfl)
    (hpl : ∀ v, assign (.Subscript o b tp) X.env v = (do
      let ov ← holding [v] (eval o X.env) -- -
      let iv ← holding [v, ov] (eval b X.env)
      standAt tp
      holding [v, ov, iv] (setItem ov iv v) -- -
      release [v, ov, iv] []) := by intro _; rfl) : J X B δ O (.Assign [.Subscript o b tp] e pos :: rest) D :=
  j_cons fun σ G H st => s_of (ps_asg pe_w (pg_sub pe_w pe_w set_list hpl) (sole_plain hs) hsw) (by
    refine he B σ G H _ st fun v G1 H1 m1 st1 hv => ?_
    refine ho B σ G1 H1 _ st1 fun w G2 H2 m2 st2 hw2 => ?_
    refine hb B σ G2 H2 _ st2 fun z G3 H3 m3 st3 hz => ?_
    cases hw2
    cases hz
    obtain ⟨o3, hq3, _, vs3, rfl, r3⟩ := st3.own _ (List.mem_of_getElem? hw)
    refine ⟨q, vs3, i, j, rfl, rfl, hq3, by rw [r3.length]; exact hi, ?_⟩
    exact k σ G3 _ (st3.putI (w' := oLstS q (ss.set j s)) hw rfl ⟨_, rfl, allS_set (s.mono (m2.trans m3) hv) r3⟩))
/-- what is stored in an instance's attributes -/
def tabPut (f : Str) (s : Slot) : List (Str × Slot) → List (Str × Slot)
  | [] => [(f, s)]
  | (g, t) :: r => if g = f then (g, s) :: r else (g, t) :: tabPut f s r
theorem insOk_put {C : Addr} {tab : List (Str × Slot)} {K : Fg} {G : Hp} {dx : Addr} {fs : List (Str × V)} {f : Str} {y : V} (hn : (tab.map (·.1)).contains f = false) (h : insOk C tab K G (.ins C dx fs)) (hy : s.ok K G y) : insOk C (tab ++ [(f, s)]) K G (.ins C dx (putF f y fs)) := by
  obtain ⟨dx', fs', e, hl, h1, h2⟩ := h
  cases e
  have hn' : f ∉ tab.map (·.1) := by simpa using hn
  refine ⟨dx, _, rfl, Nat.le_trans (length_putF f y fs) (by rw [List.length_append]; exact Nat.succ_le_succ hl), fun g t hg => ?_, fun g hg => ?_⟩
  · rw [lookup_putF]
    rcases List.mem_append.mp hg with hg | hg
    · have : g ≠ f := fun z => hn' (by rw [← z]; exact List.mem_map.mpr ⟨_, hg, rfl⟩)
      rw [if_neg this]
      exact h1 g t hg
    · simp at hg
      obtain ⟨rfl, rfl⟩ := hg
      exact ⟨y, by rw [if_pos rfl], hy⟩
  · rw [List.map_append] at hg
    simp at hg
    rw [lookup_putF, if_neg (fun z => hg.2 z)]
    exact h2 g (by simpa using hg.1)
theorem insOk_over {C : Addr} {tab : List (Str × Slot)} {K : Fg} {G : Hp} {dx : Addr} {fs : List (Str × V)} {f : Str} {y : V} (j : Nat) {t0 : Slot} (hj : tab[j]? = some (f, t0)) (nd : (tab.map (·.1)).Nodup) (h : insOk C tab K G (.ins C dx fs)) (hlen : (putF f y fs).length ≤ tab.length) (hy : s.ok K G y) :
    insOk C (tab.set j (f, s)) K G (.ins C dx (putF f y fs)) := by
  obtain ⟨dx', fs', e, hl, h1, h2⟩ := h
  cases e
  have hjl : j < tab.length := by
    rcases Nat.lt_or_ge j tab.length with z | z
    · exact z
    · rw [List.getElem?_eq_none z] at hj; cases hj
  refine ⟨dx, _, rfl, by rw [List.length_set]; exact hlen, fun g t hg => ?_, fun g hg => ?_⟩
  · rw [lookup_putF]
    obtain ⟨i, hi, e⟩ := List.getElem_of_mem hg
    have e' : (tab.set j (f, s))[i]? = some (g, t) := by rw [List.getElem?_eq_getElem hi, e]
    by_cases hij : j = i
    · subst hij
      rw [List.getElem?_set_self hjl] at e'
      cases e'
      exact ⟨y, by rw [if_pos rfl], hy⟩
    · rw [List.getElem?_set_ne hij] at e'
      have : g ≠ f := fun z => hij ((List.getElem?_inj (l := tab.map (·.1)) (i := j) (j := i) (by rw [List.length_map]; exact hjl) nd).mp (by rw [List.getElem?_map, List.getElem?_map, e', hj, z]; rfl))
      rw [if_neg this]
      exact h1 g t (List.mem_of_getElem? e')
  · have hg' : g ∉ tab.map (·.1) := fun z => hg (by
      have : (tab.set j (f, s)).map (·.1) = tab.map (·.1) := by
        refine List.ext_getElem? fun i => ?_
        (rw [List.getElem?_map, List.getElem?_map])
        by_cases hij : j = i
        · subst hij; rw [List.getElem?_set_self hjl, hj]; rfl
        · rw [List.getElem?_set_ne hij]
      rw [this]; exact z)
    have : g ≠ f := fun z => hg' (by rw [z]; exact List.mem_map.mpr ⟨_, List.mem_of_getElem? hj, rfl⟩)
    rw [lookup_putF, if_neg this]
    exact h2 g hg'
theorem j_fld {q C : Addr} {tab : List (Str × Slot)} {f : Str} {tp : Pos} (jw : Nat) (hv : E X δ O e s O1) (ho : E X δ O1 o (sRef q) O2) (c : Cls X.K C) (n : NoAttr X.K C f) (k : J X B δ (O2.set jw (oIns q C (tab ++ [(f, s)]))) rest D) (hw : O2[jw]? = some (oIns q C tab) := by rfl)
    (hn : (tab.map (·.1)).contains f = false := by (try simp only [List.map_cons, List.map_nil]); decide +kernel) (hl : tab.length < 1000 := by (try simp only [List.length_cons, List.length_nil]); decide) (hs : noCompr e = true := by rfl) : J X B δ O (.Assign [.Attribute o f tp] e pos :: rest) D :=
  j_cons fun σ G H st => s_of (ps_fld pe_w pe_w (swaps_plain hs)) (by
    refine hv B σ G H _ st fun v G1 H1 m1 st1 hv1 => ?_
    refine ho B σ G1 H1 _ st1 fun w G2 H2 m2 st2 hw2 => ?_
    cases hw2
    obtain ⟨o2, hq2, _, dx, fs, rfl, hle, h1, h2⟩ := st2.own _ (List.mem_of_getElem? hw)
    refine ⟨q, C, dx, fs, rfl, hq2, c, n, Nat.lt_of_le_of_lt hle hl, ?_⟩
    exact k σ G2 _ (st2.putI (w' := oIns q C (tab ++ [(f, s)])) hw rfl (insOk_put hn ⟨dx, fs, rfl, hle, h1, h2⟩ (s.mono m2 hv1))))
end
end Gd

namespace Gd
open PySem L2
section
variable {X : Cx} {B B1 : Bs} {δ δ' : List (Option Slot)} {O O1 O2 O3 : List Own} {a b c e o : Expr} {es : List Expr} {x : Str} {p pos : Pos} {s s1 s2 s3 : Slot} {ss : List Slot} {α β : Type} {R : α → Slot} {S : β → Slot} {D : Ends} {rest sts : List Stmt} {u : Bool}

/-! ### what is walked -/
/-- an iterator gives the items as, of which R tells, while the frozen heap is G1 or more -/
def Wk (K : Fg) (G1 : Hp) (J : It) (R : α → Slot) (as : List α) : Prop :=
  ∀ (B : Bs) (δ : List (Option Slot)) (O : List Own) (σ : SS) (G H : Hp) (i : Nat), Same G1 G → Sta K B δ O σ G H →
    (∀ y, as[i]? = some y → J.go i H ∧ ∀ v H', J.yld i H v H' → ∃ G', Same G G' ∧ Sta K B δ O σ G' H' ∧ (R y).ok K G' v) ∧ (as.length ≤ i → J.stop i H)
def IT (X : Cx) (δ : List (Option Slot)) (O : List Own) (tg e : Expr) (R : α → Slot) (as : List α) (O' : List Own) : Prop :=
  ∃ wi, PI X tg e wi ∧ ∀ (B : Bs) (σ : SS) (G H : Hp) (Q : It → Hp → Prop), Sta X.K B δ O σ G H → (∀ J G' H', Same G G' → Sta X.K B δ O' σ G' H' → Wk X.K G' J R as → Q J H') → wi σ H Q
theorem it_lst {tg : Expr} {as : List α} (h : E X δ O e (sLst R as) O1) : IT X δ O tg e R as O1 :=
  ⟨_, pi_list pe_w, fun B σ G H Q st k => h B σ G H _ st fun v G1 H1 m1 st1 hv => by
    obtain ⟨p, vs, rfl, hp, r⟩ := hv
    refine ⟨p, rfl, ⟨vs, SqL.of (st1.stp.gh _ _ hp)⟩, k _ G1 H1 m1 st1 fun B' δ' O' σ' G' H' i e st' => ⟨fun y hy => ?_, fun hi => ?_⟩⟩
    · obtain ⟨w, hw, hr⟩ := r.get hy
      have hq : SqL X.K H' p vs := SqL.of (st'.stp.gh _ _ (e _ _ hp))
      refine ⟨⟨vs, w, hq, hw⟩, fun v H'' hy' => ?_⟩
      obtain ⟨rfl, hy'⟩ := hy'
      have := hy' vs hq
      rw [hw] at this
      cases this
      exact ⟨G', Same.refl _, st', (R y).mono e hr⟩
    · exact ⟨vs, SqL.of (st'.stp.gh _ _ (e _ _ hp)), by rw [r.length]; exact hi⟩⟩
theorem it_lstK {tg : Expr} {as : List α} (h : E X δ O e (sLstK R as) O1) : IT X δ O tg e R as O1 :=
  ⟨_, pi_list pe_w, fun B σ G H Q st k => h B σ G H _ st fun v G1 H1 m1 st1 hv => by
    obtain ⟨p, vs, rfl, hp, r⟩ := hv
    refine ⟨p, rfl, ⟨vs, Same.seq st1.stp.gh hp⟩, k _ G1 H1 m1 st1 fun B' δ' O' σ' G' H' i e st' => ⟨fun y hy => ?_, fun hi => ?_⟩⟩
    · obtain ⟨w, hw, hr⟩ := r.get hy
      have hq : SqL X.K H' p vs := Same.seq st'.stp.gh (Same.seq e hp)
      refine ⟨⟨vs, w, hq, hw⟩, fun v H'' hy' => ?_⟩
      obtain ⟨rfl, hy'⟩ := hy'
      have := hy' vs hq
      rw [hw] at this
      cases this
      exact ⟨G', Same.refl _, st', (R y).mono e hr⟩
    · exact ⟨vs, Same.seq st'.stp.gh (Same.seq e hp), by rw [r.length]; exact hi⟩⟩
theorem it_tupl {tg : Expr} {as : List α} (h : E X δ O e (sTupl R as) O1) : IT X δ O tg e R as O1 :=
  ⟨_, pi_tup pe_w, fun B σ G H Q st k => h B σ G H _ st fun v G1 H1 m1 st1 hv => by
    obtain ⟨p, vs, rfl, hp, r⟩ := hv
    refine ⟨p, rfl, ⟨vs, sqT_up st1.stp.gh hp⟩, k _ G1 H1 m1 st1 fun B' δ' O' σ' G' H' i e st' => ⟨fun y hy => ?_, fun hi => ?_⟩⟩
    · obtain ⟨w, hw, hr⟩ := r.get hy
      have hq : SqT X.K H' p vs := sqT_up st'.stp.gh (sqT_mono e hp)
      refine ⟨⟨vs, w, hq, hw⟩, fun v H'' hy' => ?_⟩
      obtain ⟨rfl, hy'⟩ := hy'
      have := hy' vs hq
      rw [hw] at this
      cases this
      exact ⟨G', Same.refl _, st', (R y).mono e hr⟩
    · exact ⟨vs, sqT_up st'.stp.gh (sqT_mono e hp), by rw [r.length]; exact hi⟩⟩
/-- range(n): the turns 0, 1, .. -/
theorem it_range {tg : Expr} {n : Int} (hm : X.mg "range" = none) (h : E X δ O e (sInt n) O1) (h1 : -(2 ^ 62) ≤ n) (h2 : n < 2 ^ 62) (hg : Gl X "range" := by rfl) (hs : noStar e = true := by rfl) :
    IT X δ O tg (.Call (.Name "range" p) [e] [] pos) (fun k : Nat => sInt k) (List.range n.toNat) O1 :=
  ⟨_, pi_range1 hg hm (pa_cons pe_w pa_nil (starEach_plain hs)) (starEach_plain hs), fun B σ G H Q st k => h B σ G H _ st fun v G1 H1 m1 st1 hv => by
    cases hv
    refine ⟨n, rfl, h1, h2, k _ G1 H1 m1 st1 fun B' δ' O' σ' G' H' i e st' => ⟨fun y hy => ?_, fun hi => ?_⟩⟩
    · have hlt : i < n.toNat := by
        rcases Nat.lt_or_ge i n.toNat with z | z
        · exact z
        · rw [List.getElem?_eq_none (by rw [List.length_range]; exact z)] at hy; cases hy
      have ey : y = i := by rw [List.getElem?_range hlt] at hy; exact (Option.some.inj hy).symm
      refine ⟨hlt, fun v H'' hy' => ?_⟩
      obtain ⟨rfl, rfl⟩ := hy'
      exact ⟨G', Same.refl _, st', by rw [ey]; show V.int (0 + _) = V.int _; rw [Int.zero_add]⟩
    · rw [List.length_range] at hi; exact hi⟩
/-- a text, sign by sign -/
theorem it_str {tg : Expr} {t : Str} (h : E X δ O e (sStr t) O1) : IT X δ O tg e (fun n : Nat => sStr ⟨#[n]⟩) t.cps.toList O1 :=
  ⟨_, pi_str pe_w, fun B σ G H Q st k => h B σ G H _ st fun v G1 H1 m1 st1 hv => by
    cases hv
    refine ⟨t, rfl, k _ G1 H1 m1 st1 fun B' δ' O' σ' G' H' i e st' => ⟨fun y hy => ?_, fun hi => ?_⟩⟩
    · have hy0 : t.cps[i]? = some y := by rw [← hy, Array.getElem?_toList]
      have hlt : i < t.cps.size := by
        rcases Nat.lt_or_ge i t.cps.size with z | z
        · exact z
        · rw [Array.getElem?_eq_none z] at hy0; cases hy0
      refine ⟨hlt, fun v H'' hy' => ?_⟩
      obtain ⟨rfl, cc, hcc, rfl⟩ := hy'
      rw [hy0] at hcc
      cases hcc
      exact ⟨G', Same.refl _, st', rfl⟩
    · rw [Array.length_toList] at hi; exact hi⟩

/-! ### targets -/
/-- several slots set -/
def setV (σ : SS) : List (Nat × V) → SS
  | [] => σ
  | q :: r => setV (σ.set q.1 (some q.2)) r
def setD (δ : List (Option Slot)) : List (Nat × Slot) → List (Option Slot)
  | [] => δ
  | q :: r => setD (δ.set q.1 (some q.2)) r
/-- a target takes values of which R tells: the slots of ts are set -/
def TGu (X : Cx) (tg : Expr) {α : Type} (R : α → Slot) (ts : α → List (Nat × Slot)) : Prop :=
  ∃ g, PG X tg g ∧ ∀ (B : Bs) (δ : List (Option Slot)) (O : List Own) (σ : SS) (G H : Hp) (y : α) (v : V) (Q : SS → Hp → Prop), Sta X.K B δ O σ G H → (R y).ok X.K G v → (∀ σ', Sta X.K B (setD δ (ts y)) O σ' G H → Q σ' H) → g v σ H Q
theorem tg_name (i : Nat) (hN : X.N.Nodup) (hi : X.N[i]? = some x := by rfl) (hx : Loc X.env.scope x := by first | exact Or.inl rfl | exact Or.inr rfl) (hf : X.fn x = true ∨ X.env.scope.names.lookup x = some .local := by first | exact .inl rfl | exact .inr rfl) : TGu X (.Name x p) R (fun y => [(i, R y)]) :=
  ⟨_, pg_name hN hi hx hf, fun B δ O σ G H y v Q st hv k => k _ (st.set hv)⟩
theorem tg_tup2 (i j : Nat) {x1 x2 : Str} {p1 p2 p3 : Pos} {kk : Nat} {r1 r2 : α → Slot} (hN : X.N.Nodup) (hi : X.N[i]? = some x1 := by rfl) (hj : X.N[j]? = some x2 := by rfl) (hx1 : Loc X.env.scope x1 := by first | exact Or.inl rfl | exact Or.inr rfl) (hx2 : Loc X.env.scope x2 := by first | exact Or.inl rfl | exact Or.inr rfl)
    (hf1 : X.fn x1 = true ∨ X.env.scope.names.lookup x1 = some .local := by first | exact .inl rfl | exact .inr rfl) (hf2 : X.fn x2 = true ∨ X.env.scope.names.lookup x2 = some .local := by first | exact .inl rfl | exact .inr rfl) (hc : X.calm = true := by rfl) :
    TGu X (.Tuple [.Name x1 p1, .Name x2 p2] kk p3) (fun y => sTup [r1 y, r2 y]) (fun y => [(i, r1 y), (j, r2 y)]) :=
  ⟨_, pg_tup hc (pgs_cons (pg_name hN hi hx1 hf1) (pgs_cons (pg_name hN hj hx2 hf2) pgs_nil)), fun B δ O σ G H y v Q st hv k => by
    obtain ⟨p, vs, rfl, hp, h⟩ := hv
    obtain ⟨v1, v2, rfl, e1, e2⟩ := alls2 h
    exact ⟨p, _, rfl, sqT_up st.stp.gh hp, rfl, v1, [v2], rfl, v2, [], rfl, rfl, k _ ((st.set e1).set e2)⟩⟩

/-! ### for -/
/-- between the turns -/
def Mid (X : Cx) (B : Bs) {γ : Type} (P : γ → Prop) (Δ : γ → List (Option Slot)) (Ω : γ → List Own) : SS → Hp → Prop := fun σ H => ∃ g G, P g ∧ Sta X.K B (Δ g) (Ω g) σ G H
theorem j_for {γ : Type} {as : List α} {iter tg : Expr} {body : List Stmt} (P : Nat → γ → Prop) (Δ : γ → List (Option Slot)) (Ω : γ → List Own) (ts : α → List (Nat × Slot)) (hi : IT X δ O tg iter R as O1) (ht : TGu X tg R ts)
    (h0 : ∃ g, P 0 g ∧ ∀ (B : Bs) (σ : SS) (G H : Hp), Sta X.K B δ O1 σ G H → Sta X.K B (Δ g) (Ω g) σ G H)
    (hs : ∀ (B1 : Bs) k y g, BLe B B1 → as[k]? = some y → P k g → J X B1 (setD (Δ g) (ts y)) (Ω g) body { D with nx := Mid X B1 (P (k + 1)) Δ Ω, ct := Mid X B1 (P (k + 1)) Δ Ω, bk := fun σ H => wSs X rest D σ H })
    (hd : ∀ g, P as.length g → J X B (Δ g) (Ω g) rest D) (hp : PassesOwn (model X.prog X.w) X.A X.env X.xe := by exact PassesOwn.never) (hc : X.calm = true := by rfl) (hf : noSet iter = true := by rfl) :
    J X B δ O (.For tg iter body [] pos :: rest) D := by
  obtain ⟨wi, h1, h2⟩ := hi
  obtain ⟨gt, g1, g2⟩ := ht
  refine j_cons fun σ G H st => s_of (ps_for hp hc h1 g1 pss_w (folded_plain hf)) (h2 B σ G H _ st fun Jt G1 H1 m1 st1 wk => ?_)
  obtain ⟨g0, p0, w0⟩ := h0
  refine ⟨fun i m σ H => m = as.length - i ∧ i ≤ as.length ∧ ∃ g G, P i g ∧ Same G1 G ∧ Sta X.K B (Δ g) (Ω g) σ G H, ⟨_, rfl, Nat.zero_le _, g0, G1, p0, Same.refl _, w0 _ _ _ _ st1⟩, ?_⟩
  rintro i m σ2 H2 ⟨rfl, hi, g, G2, pg, e2, st2⟩
  obtain ⟨w1, w2⟩ := wk B _ _ σ2 G2 H2 i e2 st2
  by_cases hlt : i < as.length
  · obtain ⟨hgo, hy⟩ := w1 as[i] (List.getElem?_eq_getElem hlt)
    refine .inr ⟨hgo, Mid X ⟨B.A, G2, B.H⟩ (P (i + 1)) Δ Ω, ?_, fun v H3 y3 => ?_⟩
    · rintro σ' H' ⟨g', G', pg', st'⟩
      exact ⟨as.length - (i + 1), by omega, rfl, hlt, g', G', pg', e2.trans st'.stp.ex, st'.le st2.up.1⟩
    · obtain ⟨G3, e3, st3, r3⟩ := hy v H3 y3
      have up := st2.up.1
      have st3' : Sta X.K ⟨B.A, G2, B.H⟩ (Δ g) (Ω g) σ2 G3 H3 := ⟨⟨st3.stp.gh, e3, st3.stp.fr, st3.stp.th, fun q u e n => by
        refine st3.stp.nf q u e ?_
        cases z : B.G q with
        | none => rfl
        | some o =>
          have n' : G2 q = none := n
          have z' := st2.stp.ex _ _ z
          rw [n'] at z'
          cases z'⟩, st3.env, st3.len, st3.own, st3.new, st3.nd⟩
      exact g2 ⟨B.A, G2, B.H⟩ (Δ g) (Ω g) σ2 G3 H3 as[i] v _ st3' r3 fun σ4 st4 => hs _ i as[i] g up (List.getElem?_eq_getElem hlt) pg σ4 G3 H3 st4
  · have e : i = as.length := by omega
    subst e
    exact .inl ⟨w2 (Nat.le_refl _), hd g pg σ2 G2 H2 st2⟩
/-- while: by a word and a measure over the ghosts -/
theorem j_while {γ : Type} {body : List Stmt} (P : γ → Prop) (μ : γ → Nat) (b : γ → Bool) (Δ : γ → List (Option Slot)) (Ω : γ → List Own)
    (h0 : ∃ g, P g ∧ ∀ (B : Bs) (σ : SS) (G H : Hp), Sta X.K B δ O σ G H → Sta X.K B (Δ g) (Ω g) σ G H) (hc : ∀ g, P g → T X (Δ g) (Ω g) c (b g) (Ω g))
    (hs : ∀ g, P g → b g = true → J X B (Δ g) (Ω g) body { D with nx := Mid X B (fun g' => P g' ∧ μ g' < μ g) Δ Ω, ct := Mid X B (fun g' => P g' ∧ μ g' < μ g) Δ Ω, bk := fun σ H => wSs X rest D σ H })
    (hd : ∀ g, P g → b g = false → J X B (Δ g) (Ω g) rest D) (hp : PassesOwn (model X.prog X.w) X.A X.env X.xe := by exact PassesOwn.never) : J X B δ O (.While c body [] pos :: rest) D := by
  refine j_cons fun σ G H st => s_of (ps_while hp pt_w pss_w) ?_
  obtain ⟨g0, p0, w0⟩ := h0
  refine ⟨fun m σ H => ∃ g G, m = μ g ∧ P g ∧ Sta X.K B (Δ g) (Ω g) σ G H, ⟨_, g0, G, rfl, p0, w0 _ _ _ _ st⟩, ?_⟩
  rintro m σ2 H2 ⟨g, G2, rfl, pg, st2⟩
  refine hc g pg B σ2 G2 H2 _ st2 fun G3 H3 m3 st3 => ?_
  cases hb : b g with
  | true => exact ⟨Mid X B (fun g' => P g' ∧ μ g' < μ g) Δ Ω, fun σ' H' ⟨g', G', ⟨p', l'⟩, st'⟩ => ⟨_, l', g', G', rfl, p', st'⟩, hs g pg hb σ2 G3 H3 st3⟩
  | false => exact hd g pg hb σ2 G3 H3 st3

/-! ### comprehensions -/
def wipeD (δ : List (Option Slot)) : List Nat → List (Option Slot)
  | [] => δ
  | v :: vs => (wipeD δ vs).set v none
theorem Sta.unset {K : Fg} {σ : SS} {G H : Hp} {i : Nat} (st : Sta K B δ O σ G H) : Sta K B (δ.set i none) O (σ.set i none) G H := by
  refine ⟨st.stp, fun j t e => ?_, by rw [List.length_set, List.length_set]; exact st.len, st.own, st.new, st.nd⟩
  by_cases hj : i = j
  · subst hj
    by_cases hi : i < δ.length
    · rw [List.getElem?_set_self hi] at e; cases e
    · rw [List.getElem?_eq_none (by rw [List.length_set]; omega)] at e; cases e
  · rw [List.getElem?_set_ne hj] at e
    obtain ⟨u, a, b⟩ := st.env j t e
    exact ⟨u, by rw [List.getElem?_set_ne hj]; exact a, b⟩
theorem Sta.wiped {K : Fg} {σ : SS} {G H : Hp} (st : Sta K B δ O σ G H) : ∀ vs : List Nat, Sta K B (wipeD δ vs) O (wipe σ vs) G H
  | [] => st
  | v :: vs => (st.wiped vs).unset
theorem wipe_set {σ : SS} {i : Nat} {v : Option V} : ∀ {vs : List Nat}, i ∈ vs → wipe (σ.set i v) vs = wipe σ vs
  | [], h => by cases h
  | w :: vs, h => by
    show (wipe (σ.set i v) vs).set w none = (wipe σ vs).set w none
    by_cases hw : i ∈ vs
    · rw [wipe_set hw]
    · have hiw : i = w := by
        (rcases List.mem_cons.mp h with z | z)
        · exact z
        · exact absurd z hw
      subst hiw
      have aux : ∀ (σ : SS) (us : List Nat), i ∉ us → wipe (σ.set i v) us = (wipe σ us).set i v := by
        intro σ us
        induction us with
        | nil => intro _; rfl
        | cons q us ih =>
          intro hq
          show (wipe (σ.set i v) us).set q none = ((wipe σ us).set q none).set i v
          rw [ih (fun z => hq (List.mem_cons_of_mem _ z)), List.set_comm _ _ (fun z => hq (by rw [z]; exact List.mem_cons_self))]
      rw [aux σ vs hw, List.set_set]
theorem wipe_wipe {σ : SS} : ∀ (vs us : List Nat), (∀ v ∈ us, v ∈ vs) → wipe (wipe σ us) vs = wipe σ vs
  | vs, [], _ => rfl
  | vs, u :: us, h => by
    show wipe ((wipe σ us).set u none) vs = _
    rw [wipe_set (h u List.mem_cons_self), wipe_wipe vs us fun v hv => h v (List.mem_cons_of_mem _ hv)]
/-- the context of a comprehension's block -/
abbrev Blk (X : Cx) (scope : Scope) (s : Shared) (H : Hp) (C : Addr) (cl : List (Str × Addr)) (fp : List Addr) : Cx := X.blk s H scope (compEnvC scope cl C X.env) fp
/-- the tests of a clause -/
def TSs (X : Cx) (δ : List (Option Slot)) (O : List Own) (ifs : List Expr) (b : Bool) (O' : List Own) : Prop :=
  (ifs = [] ∧ b = true ∧ O' = O) ∨ ∃ c, ifs = [c] ∧ T X δ O c b O'
theorem ts_nil : TSs X δ O [] true O := .inl ⟨rfl, rfl, rfl⟩
theorem ts_one (h : T X δ O c u O1) : TSs X δ O [c] u O1 := .inr ⟨c, rfl, h⟩
/-- [elt for x in iter if ..], one name: turn k makes vals k where keeps k says so; acc: what is made so far -/
theorem lc_reading {elt iter : Expr} {ifs : List Expr} {scope : Scope} {own : List (Str × Nat)} {as : List α} (i : Nat) {px : Pos} (Ωs Ωm : Nat → List Own) (keeps : Nat → Bool) (acc : Nat → List β) {wi : TI} {σ : SS} {G H : Hp} {Q : VK}
    (hin : i ∈ own.map (·.2)) (st : Sta X.K B δ O σ G H)
    (h2 : ∀ (B : Bs) (σ : SS) (G H : Hp) (Q : It → Hp → Prop), Sta X.K B δ O σ G H → (∀ J G' H', Same G G' → Sta X.K B δ (Ωs 0) σ G' H' → Wk X.K G' J R as → Q J H') → wi σ H Q)
    (hts : ∀ k y, as[k]? = some y → ∀ s H C cl fp, TSs (Blk X scope s H C cl fp) ((wipeD δ (own.map (·.2))).set i (some (R y))) (Ωs k) ifs (keeps k) (Ωm k))
    (helt : ∀ k y, as[k]? = some y → keeps k = true → ∃ z, acc (k + 1) = acc k ++ [z] ∧ ∀ s H C cl fp, E (Blk X scope s H C cl fp) ((wipeD δ (own.map (·.2))).set i (some (R y))) (Ωm k) elt (S z) (Ωs (k + 1)))
    (hskip : ∀ k, k < as.length → keeps k = false → Ωm k = Ωs (k + 1) ∧ acc (k + 1) = acc k) (ha0 : acc 0 = []) (hz : as.length ≤ sizeLine)
    (k : ∀ p G' H', B.H p = none → Same G G' → Sta X.K B δ (oLst p S (acc as.length) :: Ωs as.length) σ G' H' → Q (.ref p) H') :
    tLc wi (gName i) (fun σ H Q => ∀ s H0 C cl fp, match ifs with | [] => Q true H | c :: _ => wT (Blk X scope s H0 C cl fp) c σ H Q) (fun σ H Q => ∀ s H0 C cl fp, wE (Blk X scope s H0 C cl fp) elt σ H Q) (own.map (·.2)) σ H Q := by
  refine h2 B σ G H _ st fun Jt G1 H1 m1 st1 wk => ?_
  intro Da hDa
  have hacc : ∀ k, k ≤ as.length → (acc k).length ≤ k := by
    intro k
    induction k with
    | zero => intro _; rw [ha0]; exact Nat.le_refl _
    | succ k ih =>
      intro hk
      have := ih (Nat.le_of_lt hk)
      cases hkk : keeps k with
      | true =>
        obtain ⟨z, e, _⟩ := helt k _ (List.getElem?_eq_getElem hk) hkk
        rw [e, List.length_append]; simp; omega
      | false => rw [(hskip k hk hkk).2]; omega
  refine ⟨fun n m H' => m = as.length - n ∧ n ≤ as.length ∧ ∃ G', Same G1 G' ∧ Sta X.K B δ (oLst Da S (acc n) :: Ωs n) σ G' H', ⟨_, rfl, Nat.zero_le _, G1, Same.refl _, ?_⟩, ?_⟩
  · rw [ha0]
    exact st1.freshO (w := oLst Da S []) hDa rfl ⟨[], rfl, .nil⟩
  · rintro n m H2 ⟨rfl, hn, G2, e2, st2⟩
    obtain ⟨w1, w2⟩ := wk B _ _ σ G2 H2 n e2 st2
    by_cases hlt : n < as.length
    · have hget := List.getElem?_eq_getElem hlt
      obtain ⟨hgo, hy⟩ := w1 as[n] hget
      refine .inr ⟨hgo, fun H' => ∃ G', Same G1 G' ∧ Sta X.K B δ (oLst Da S (acc (n + 1)) :: Ωs (n + 1)) σ G' H', fun H' ⟨G', e', st'⟩ => ⟨as.length - (n + 1), by omega, rfl, hlt, G', e', st'⟩, fun v H3 y3 => ?_⟩
      obtain ⟨G3, e3, st3, r3⟩ := hy v H3 y3
      have st4 := (st3.wiped (own.map (·.2))).set (i := i) r3
      have wp : wipe ((wipe σ (own.map (·.2))).set i (some v)) (own.map (·.2)) = wipe σ (own.map (·.2)) := by rw [wipe_set hin, wipe_wipe _ _ fun _ h => h]
      have back : ∀ {O' : List Own} {G' H' : Hp}, Sta X.K B ((wipeD δ (own.map (·.2))).set i (some (R as[n]))) O' ((wipe σ (own.map (·.2))).set i (some v)) G' H' → Same G3 G' → Sta X.K B δ O' σ G' H' := fun {O' G' H'} q e => ⟨q.stp, st3.env.mono e, st3.len, q.own, q.new, q.nd⟩
      have rot : ∀ {O' : List Own} {δ' : List (Option Slot)} {σ' : SS} {G' H' : Hp} {w : Own}, Sta X.K B δ' (w :: O') σ' G' H' → Sta X.K B δ' (O' ++ [w]) σ' G' H' := fun {O' δ' σ' G' H' w} q => q.perm (fun v hv => by simp at hv ⊢; exact hv.symm) (by
        have nd := q.nd
        (rw [List.map_cons, List.nodup_cons] at nd)
        (rw [List.map_append, List.nodup_append])
        refine ⟨nd.2, by simp, fun q hq r hr e => nd.1 ?_⟩
        simp at hr
        rw [← hr, ← e]; exact hq)
      have unrot : ∀ {O' : List Own} {δ' : List (Option Slot)} {σ' : SS} {G' H' : Hp} {w : Own}, Sta X.K B δ' (O' ++ [w]) σ' G' H' → Sta X.K B δ' (w :: O') σ' G' H' := fun {O' δ' σ' G' H' w} q => q.perm (fun v hv => by simp at hv ⊢; exact hv.symm) (by
        have nd := q.nd
        rw [List.map_append, List.nodup_append] at nd
        (rw [List.map_cons, List.nodup_cons])
        exact ⟨fun hm => nd.2.2 _ hm _ (by simp) rfl, nd.1⟩)
      refine ⟨wp, ?_⟩
      -- behind the tests
      have elt_ : keeps n = true → ∀ G5 H5, Same G3 G5 → Sta X.K B ((wipeD δ (own.map (·.2))).set i (some (R as[n]))) (Ωm n ++ [oLst Da S (acc n)]) ((wipe σ (own.map (·.2))).set i (some v)) G5 H5 →
          ∀ s H0 C cl fp, wE (Blk X scope s H0 C cl fp) elt ((wipe σ (own.map (·.2))).set i (some v)) H5 fun y H6 => ∃ ac, H6 Da = some (.lst ac) ∧ ac.length < sizeLine ∧ ∃ G', Same G1 G' ∧ Sta X.K B δ (oLst Da S (acc (n + 1)) :: Ωs (n + 1)) σ G' (upd H6 Da (.lst (ac ++ [y]))) := by
        intro hk G5 H5 e5 st5 s H0 C cl fp
        obtain ⟨zz, ez, helt'⟩ := helt n _ hget hk
        refine e_frame (O := [oLst Da S (acc n)]) (helt' s H0 C cl fp) B _ G5 H5 _ st5 fun y G6 H6 m6 st6 hy6 => ?_
        have st6' := unrot st6
        obtain ⟨o6, h6, _, ac, rfl, r6⟩ := st6'.own _ List.mem_cons_self
        refine ⟨ac, h6, ?_, G6, fun q z w => m6 _ _ (e5 _ _ (e3 _ _ (e2 _ _ w))), ?_⟩
        · rw [r6.length]; exact Nat.lt_of_lt_of_le (Nat.lt_of_le_of_lt (hacc n (Nat.le_of_lt hlt)) hlt) hz
        · rw [ez]
          have st7 := st6'.put (w' := oLst Da S (acc n ++ [zz])) rfl ⟨_, rfl, r6.append (.cons hy6 .nil)⟩
          exact back st7 (e5.trans m6)
      have skip_ : keeps n = false → ∀ G5 H5, Same G3 G5 → Sta X.K B ((wipeD δ (own.map (·.2))).set i (some (R as[n]))) (Ωm n ++ [oLst Da S (acc n)]) ((wipe σ (own.map (·.2))).set i (some v)) G5 H5 →
          ∃ G', Same G1 G' ∧ Sta X.K B δ (oLst Da S (acc (n + 1)) :: Ωs (n + 1)) σ G' H5 := by
        intro hk G5 H5 e5 st5
        refine ⟨G5, fun q z w => e5 _ _ (e3 _ _ (e2 _ _ w)), ?_⟩
        rw [(hskip n hlt hk).2, ← (hskip n hlt hk).1]
        exact back (unrot st5) e5
      intro s H0 C cl fp
      have hh := hts n _ hget
      cases ifs with
      | nil =>
        have hk : keeps n = true ∧ Ωm n = Ωs n := by
          rcases hh s H0 C cl fp with ⟨_, a, b⟩ | ⟨c, e, _⟩
          · exact ⟨a, b⟩
          · cases e
        refine iteT fun s' H0' C' cl' fp' => elt_ hk.1 G3 H3 (Same.refl _) ?_ s' H0' C' cl' fp'
        rw [hk.2]
        exact rot st4
      | cons c r =>
        rcases hh s H0 C cl fp with ⟨e, _⟩ | ⟨c', e, ht⟩
        · cases e
        · cases e
          refine t_frame (O := [oLst Da S (acc n)]) ht B _ G3 H3 _ (rot st4) fun G5 H5 m5 st5 => ?_
          cases hk : keeps n with
          | true => exact iteT fun s' H0' C' cl' fp' => elt_ hk G5 H5 m5 st5 s' H0' C' cl' fp'
          | false => exact iteF (skip_ hk G5 H5 m5 st5)
    · have e : n = as.length := by omega
      subst e
      exact .inl ⟨w2 (Nat.le_refl _), k Da G2 H2 (none_of st1 hDa) (m1.trans e2) st2⟩
end
end Gd

namespace Gd
open PySem L2
section
variable {X : Cx} {B B1 : Bs} {δ δ' : List (Option Slot)} {O O1 O2 O3 : List Own} {a b c e o : Expr} {es : List Expr} {x : Str} {p pos : Pos} {s s1 s2 s3 : Slot} {ss : List Slot} {α β : Type} {R : α → Slot} {S : β → Slot} {D : Ends} {rest sts : List Stmt} {u : Bool}
variable {elt iter : Expr} {ifs : List Expr} {scope : Scope} {own : List (Str × Nat)} {as : List α} {px : Pos}
theorem pts_w (hifs : ifs = [] ∨ ∃ c, ifs = [c]) (s0 : Shared) (H0 : Hp) (C : Addr) (cl : List (Str × Addr)) (fp : List Addr) :
    PTs (Blk X scope s0 H0 C cl fp) ifs (fun σ H Q => ∀ s H0 C cl fp, match ifs with | [] => Q true H | c :: _ => wT (Blk X scope s H0 C cl fp) c σ H Q) := by
  rcases hifs with rfl | ⟨c, rfl⟩
  · exact ⟨fun pins s σ H Q I h => pts_nil.run pins s σ H Q I (h s H 0 [] [])⟩
  · exact ⟨fun pins s σ H Q I h => (pts_one pt_w).run pins s σ H Q I (h s0 H0 C cl fp)⟩
theorem ew_comp (i : Nat) (Ωs Ωm : Nat → List Own) (keeps : Nat → Bool) (acc : Nat → List β) (hN : X.N.Nodup)
    (hi : IT X δ O (.Name x px) iter R as (Ωs 0)) (ok : BlkOk X.N X.env.scope scope own)
    (hts : ∀ k y, as[k]? = some y → ∀ s H C cl fp, TSs (Blk X scope s H C cl fp) ((wipeD δ (own.map (·.2))).set i (some (R y))) (Ωs k) ifs (keeps k) (Ωm k))
    (helt : ∀ k y, as[k]? = some y → keeps k = true → ∃ z, acc (k + 1) = acc k ++ [z] ∧ ∀ s H C cl fp, E (Blk X scope s H C cl fp) ((wipeD δ (own.map (·.2))).set i (some (R y))) (Ωm k) elt (S z) (Ωs (k + 1)))
    (hskip : ∀ k, k < as.length → keeps k = false → Ωm k = Ωs (k + 1) ∧ acc (k + 1) = acc k) (ha0 : acc 0 = []) (hz : as.length ≤ sizeLine)
    (hin : i ∈ own.map (·.2) := by decide) (hix : X.N[i]? = some x := by rfl) (hx : ∀ s H C cl fp, Loc (Blk X scope s H C cl fp).env.scope x := by intro _ _ _ _ _; first | exact Or.inl rfl | exact Or.inr rfl)
    (hf : ∀ s H C cl fp, (Blk X scope s H C cl fp).fn x = true ∨ (Blk X scope s H C cl fp).env.scope.names.lookup x = some .local := by intro _ _ _ _ _; first | exact .inl rfl | exact .inr rfl)
    (hifs : ifs = [] ∨ ∃ c, ifs = [c] := by first | exact .inl rfl | exact .inr ⟨_, rfl⟩) (hc : X.calm = true := by rfl) (hs : noSet iter = true := by rfl) :
    EW X δ O (.ListComp elt [⟨.Name x px, iter, ifs, 0⟩] scope pos) (fun p => oLst p S (acc as.length)) (Ωs as.length) := by
  obtain ⟨wi, h1, h2⟩ := hi
  intro B σ G H Q st k
  refine e_of (pe_lc (te := fun σ H Q => ∀ s H0 C cl fp, wE (Blk X scope s H0 C cl fp) elt σ H Q) hc hN h1 ok (fun s H C cl fp => pg_name hN hix (hx s H C cl fp) (hf s H C cl fp)) (fun s H C cl fp => pts_w hifs s H C cl fp)
    (fun s H C cl fp => ⟨fun pins s' σ H' Q I h => (h s H C cl fp).run pins s' I⟩) (folded_plain hs)) ?_
  exact lc_reading (iter := iter) i (px := px) Ωs Ωm keeps acc hin st h2 hts helt hskip ha0 hz k
/-- x = [..] -/
theorem j_setComp (iy i : Nat) {y : Str} {py spos : Pos} (Ωs Ωm : Nat → List Own) (keeps : Nat → Bool) (acc : Nat → List β) (hN : X.N.Nodup)
    (hi : IT X δ O (.Name x px) iter R as (Ωs 0)) (ok : BlkOk X.N X.env.scope scope own)
    (hts : ∀ k y, as[k]? = some y → ∀ s H C cl fp, TSs (Blk X scope s H C cl fp) ((wipeD δ (own.map (·.2))).set i (some (R y))) (Ωs k) ifs (keeps k) (Ωm k))
    (helt : ∀ k y, as[k]? = some y → keeps k = true → ∃ z, acc (k + 1) = acc k ++ [z] ∧ ∀ s H C cl fp, E (Blk X scope s H C cl fp) ((wipeD δ (own.map (·.2))).set i (some (R y))) (Ωm k) elt (S z) (Ωs (k + 1)))
    (hskip : ∀ k, k < as.length → keeps k = false → Ωm k = Ωs (k + 1) ∧ acc (k + 1) = acc k) (ha0 : acc 0 = []) (hz : as.length ≤ sizeLine)
    (q : ∀ r, B.H r = none → J X B (δ.set iy (some (sRef r))) (oLst r S (acc as.length) :: Ωs as.length) rest D)
    (hyN : X.N[iy]? = some y := by rfl) (hyl : X.env.scope.names.lookup y = some .local := by rfl) (hsw : swapsWith (.ListComp elt [⟨.Name x px, iter, ifs, 0⟩] scope pos) (some (.Name y py)) spos.line X.env = pure true := by exact sw_true rfl rfl rfl (by decide +kernel))
    (hin : i ∈ own.map (·.2) := by decide) (hix : X.N[i]? = some x := by rfl) (hx : ∀ s H C cl fp, Loc (Blk X scope s H C cl fp).env.scope x := by intro _ _ _ _ _; first | exact Or.inl rfl | exact Or.inr rfl)
    (hf : ∀ s H C cl fp, (Blk X scope s H C cl fp).fn x = true ∨ (Blk X scope s H C cl fp).env.scope.names.lookup x = some .local := by intro _ _ _ _ _; first | exact .inl rfl | exact .inr rfl)
    (hifs : ifs = [] ∨ ∃ c, ifs = [c] := by first | exact .inl rfl | exact .inr ⟨_, rfl⟩) (hc : X.calm = true := by rfl) (hs : noSet iter = true := by rfl) :
    J X B δ O (.Assign [.Name y py] (.ListComp elt [⟨.Name x px, iter, ifs, 0⟩] scope pos) spos :: rest) D := by
  obtain ⟨wi, h1, h2⟩ := hi
  refine j_cons fun σ G H st => s_of (ps_setLc (te := fun σ H Q => ∀ s H0 C cl fp, wE (Blk X scope s H0 C cl fp) elt σ H Q) hc hN hyN hyl hsw h1 ok (fun s H C cl fp => pg_name hN hix (hx s H C cl fp) (hf s H C cl fp)) (fun s H C cl fp => pts_w hifs s H C cl fp)
    (fun s H C cl fp => ⟨fun pins s' σ H' Q I h => (h s H C cl fp).run pins s' I⟩) (folded_plain hs)) ?_
  show tLc _ _ _ _ _ σ H (fun v H1 => wSs X rest D (σ.set iy (some v)) H1)
  exact lc_reading (iter := iter) i (px := px) Ωs Ωm keeps acc hin st h2 hts helt hskip ha0 hz fun r G' H' hb m st' => q r hb _ G' H' (st'.set rfl)

/-! ### the simple forms -/
theorem take_succ {k : Nat} {y : α} (h : as[k]? = some y) : as.take (k + 1) = as.take k ++ [y] := by
  have hk : k < as.length := by
    rcases Nat.lt_or_ge k as.length with z | z
    · exact z
    · rw [List.getElem?_eq_none z] at h; cases h
  rw [List.take_succ, h]
  rfl
/-- [elt for x in iter], nothing owned changes -/
theorem ew_map (i : Nat) (f : α → β) (hN : X.N.Nodup) (hi : IT X δ O (.Name x px) iter R as O1) (ok : BlkOk X.N X.env.scope scope own)
    (helt : ∀ y, y ∈ as → ∀ s H C cl fp, E (Blk X scope s H C cl fp) ((wipeD δ (own.map (·.2))).set i (some (R y))) O1 elt (S (f y)) O1) (hz : as.length ≤ sizeLine)
    (hin : i ∈ own.map (·.2) := by decide) (hix : X.N[i]? = some x := by rfl) (hx : ∀ s H C cl fp, Loc (Blk X scope s H C cl fp).env.scope x := by intro _ _ _ _ _; first | exact Or.inl rfl | exact Or.inr rfl)
    (hf : ∀ s H C cl fp, (Blk X scope s H C cl fp).fn x = true ∨ (Blk X scope s H C cl fp).env.scope.names.lookup x = some .local := by intro _ _ _ _ _; first | exact .inl rfl | exact .inr rfl)
    (hc : X.calm = true := by rfl) (hs : noSet iter = true := by rfl) :
    EW X δ O (.ListComp elt [⟨.Name x px, iter, [], 0⟩] scope pos) (fun p => oLst p S (as.map f)) O1 := by
  have h := ew_comp (pos := pos) (S := S) i (fun _ => O1) (fun _ => O1) (fun _ => true) (fun k => (as.take k).map f) hN hi ok (fun k y hy s H C cl fp => ts_nil)
    (fun k y hy _ => ⟨f y, by show (as.take (k + 1)).map f = _; rw [take_succ hy, List.map_append]; rfl, fun s H C cl fp => helt y (List.mem_of_getElem? hy) s H C cl fp⟩) (fun k _ h => by cases h) rfl hz hin hix hx hf (.inl rfl) hc hs
  simpa only [List.take_length] using h
/-- [elt for x in iter if test] -/
theorem ew_filter (i : Nat) (t : α → Bool) (f : α → β) (hN : X.N.Nodup) (hi : IT X δ O (.Name x px) iter R as O1) (ok : BlkOk X.N X.env.scope scope own)
    (htst : ∀ y, y ∈ as → ∀ s H C cl fp, T (Blk X scope s H C cl fp) ((wipeD δ (own.map (·.2))).set i (some (R y))) O1 c (t y) O1)
    (helt : ∀ y, y ∈ as → t y = true → ∀ s H C cl fp, E (Blk X scope s H C cl fp) ((wipeD δ (own.map (·.2))).set i (some (R y))) O1 elt (S (f y)) O1) (hz : as.length ≤ sizeLine)
    (hin : i ∈ own.map (·.2) := by decide) (hix : X.N[i]? = some x := by rfl) (hx : ∀ s H C cl fp, Loc (Blk X scope s H C cl fp).env.scope x := by intro _ _ _ _ _; first | exact Or.inl rfl | exact Or.inr rfl)
    (hf : ∀ s H C cl fp, (Blk X scope s H C cl fp).fn x = true ∨ (Blk X scope s H C cl fp).env.scope.names.lookup x = some .local := by intro _ _ _ _ _; first | exact .inl rfl | exact .inr rfl)
    (hc : X.calm = true := by rfl) (hs : noSet iter = true := by rfl) :
    EW X δ O (.ListComp elt [⟨.Name x px, iter, [c], 0⟩] scope pos) (fun p => oLst p S ((as.filter t).map f)) O1 := by
  have h := ew_comp (pos := pos) (S := S) i (fun _ => O1) (fun _ => O1) (fun k => (as[k]?.map t).getD false) (fun k => ((as.take k).filter t).map f) hN hi ok
    (fun k y hy s H C cl fp => ts_one (by rw [hy]; exact htst y (List.mem_of_getElem? hy) s H C cl fp))
    (fun k y hy ht => by
      rw [hy] at ht
      have ht : t y = true := ht
      refine ⟨f y, ?_, fun s H C cl fp => helt y (List.mem_of_getElem? hy) ht s H C cl fp⟩
      show ((as.take (k + 1)).filter t).map f = _
      rw [take_succ hy, List.filter_append, List.map_append, List.filter_cons_of_pos ht]
      rfl)
    (fun k hk ht => by
      have hy := List.getElem?_eq_getElem hk
      rw [hy] at ht
      have ht : t as[k] = false := ht
      refine ⟨rfl, ?_⟩
      show ((as.take (k + 1)).filter t).map f = _
      rw [take_succ hy, List.filter_append, List.filter_cons_of_neg (by rw [ht]; exact Bool.false_ne_true), List.filter_nil, List.append_nil]) rfl hz hin hix hx hf (.inr ⟨_, rfl⟩) hc hs
  simpa only [List.take_length] using h
/-- [elt for x in iter], turn k leads from Ωs k to Ωs (k + 1) and makes f k -/
theorem ew_mapO (i : Nat) (Ωs : Nat → List Own) (f : Nat → β) (hN : X.N.Nodup) (hi : IT X δ O (.Name x px) iter R as (Ωs 0)) (ok : BlkOk X.N X.env.scope scope own)
    (helt : ∀ k y, as[k]? = some y → ∀ s H C cl fp, E (Blk X scope s H C cl fp) ((wipeD δ (own.map (·.2))).set i (some (R y))) (Ωs k) elt (S (f k)) (Ωs (k + 1))) (hz : as.length ≤ sizeLine)
    (hin : i ∈ own.map (·.2) := by decide) (hix : X.N[i]? = some x := by rfl) (hx : ∀ s H C cl fp, Loc (Blk X scope s H C cl fp).env.scope x := by intro _ _ _ _ _; first | exact Or.inl rfl | exact Or.inr rfl)
    (hf : ∀ s H C cl fp, (Blk X scope s H C cl fp).fn x = true ∨ (Blk X scope s H C cl fp).env.scope.names.lookup x = some .local := by intro _ _ _ _ _; first | exact .inl rfl | exact .inr rfl)
    (hc : X.calm = true := by rfl) (hs : noSet iter = true := by rfl) :
    EW X δ O (.ListComp elt [⟨.Name x px, iter, [], 0⟩] scope pos) (fun p => oLst p S ((List.range as.length).map f)) (Ωs as.length) :=
  ew_comp (pos := pos) (S := S) i Ωs Ωs (fun _ => true) (fun k => (List.range k).map f) hN hi ok (fun k y hy s H C cl fp => ts_nil)
    (fun k y hy _ => ⟨f k, by show (List.range (k + 1)).map f = _; rw [List.range_succ, List.map_append]; rfl, fun s H C cl fp => helt k y hy s H C cl fp⟩) (fun k _ h => by cases h) rfl hz hin hix hx hf (.inl rfl) hc hs

/-! ### a def -/
theorem env_start {K : Fg} {G : Hp} : ∀ {vs : List V} {ss : List Slot} (N : List Str), AllS K G vs ss → EnvOk K G (L2.start N vs) (ss.map some ++ List.replicate (N.length - ss.length) none) := by
  intro vs ss N h i s hs
  have hl := h.length
  unfold L2.start
  by_cases hi : i < ss.length
  · rw [List.getElem?_append_left (by rw [List.length_map]; exact hi), List.getElem?_map] at hs
    cases e : ss[i]? with
    | none => rw [e] at hs; cases hs
    | some t =>
      rw [e] at hs
      cases hs
      obtain ⟨v, h1, h2⟩ := allS_get h e
      refine ⟨v, ?_, h2⟩
      rw [List.getElem?_append_left (by rw [List.length_map, hl]; exact hi), List.getElem?_map, h1]
      rfl
  · rw [List.getElem?_append_right (by rw [List.length_map]; omega), List.getElem?_replicate] at hs
    split at hs <;> cases hs
abbrev cxD (P : Program) (w : World) (K : Fg) (mg : Str → Option Value) (base : Heap) (N : List Str) (qual : Str) (st : Stmt) (f : Addr) (cdv : Value) (A : Around) (outer : List Env) (s : Shared) (H : Hp) (EE : XK) : Cx := (cxOf CX0 P w K mg base N qual (defScope st) f cdv A outer s H EE).nox
/-- what a def's body is to reach at its returns -/
def Fin (K : Fg) (B : Bs) {ι : Type} (S : FS ι) (i : ι) (D : Ends) : Prop := ∀ v G' H', Stp B G' H' → (∀ w ∈ S.own' i, ∃ o, H' w.p = some o ∧ G' w.p = none ∧ w.φ K G' o) → (S.res i).ok K G' v → D.rt v H'
theorem Fin.le {K : Fg} {ι : Type} {S : FS ι} {i : ι} (h : Fin K B S i D) (l : BLe B B1) : Fin K B1 S i D := fun v G' H' t ow hv => h v G' H' (t.le l) ow hv
/-- THE RULE for a def: its body, from its arguments' slots, to its promise -/
theorem fn_ok {P : Program} {w : World} {K : Fg} {mg : Str → Option Value} {base : Heap} {x qual : Str} {st : Stmt} {f : Addr} {fd : FuncData} {N ps : List Str} {k : Nat} {ι : Type} {S : FS ι} {dvs : List V} {ds : List Value} (F : Fun K x qual st f fd) (sc : FnScope N ps (defScope st))
    (hb : Binds K fd ps ds) (hd : Vals dvs ds) (hl : ∀ i, (S.args i).length = ps.length)
    (h : ∀ (i : ι) (cdv : Value) (A : Around) (outer : List Env) (s : Shared) (G H : Hp) (D : Ends) (EE : XK), Room k (cxD P w K mg base N qual st f cdv A outer s H EE).A → S.pre i → Fin K ⟨(S.own i).map (·.p), G, H⟩ S i D → (∀ σ H', D.nx σ H' = D.rt .non H') →
      J (cxD P w K mg base N qual st f cdv A outer s H EE) ⟨(S.own i).map (·.p), G, H⟩ ((S.args i).map some ++ List.replicate (N.length - (S.args i).length) none) (S.own i) (defBody st) D) :
    DefOk P w K mg base (k + 1) f dvs S := by
  refine ⟨⟨fd, ps, ds, F.ok sc (fun vs H Q EE hsp => ?_) (fun cdv A outer s H vs Q EE hr hsp => ?_), hb, hd⟩, F.kp⟩
  · obtain ⟨i, G, _, _, ha, _⟩ := hsp
    rw [ha.length, hl]
  · obtain ⟨i, G, hp, hgh, ha, how, hnd, hq⟩ := hsp
    refine ⟨_, pss_w, ?_⟩
    have hN : ps.length ≤ N.length := by have := congrArg List.length sc.pre; rw [List.length_take] at this; omega
    refine h i cdv A outer s G H { nx := fun _ H' => Q .non H', rt := Q } EE hr hp (fun v G' H' t ow hv => hq v G' H' t ow hv) (fun _ _ => rfl) _ G H ⟨Stp.refl hgh, env_start N ha, ?_, how, fun w hw => .inl (List.mem_map.mpr ⟨w, hw, rfl⟩), hnd⟩
    unfold L2.start
    rw [List.length_append, List.length_append, List.length_map, List.length_map, List.length_replicate, List.length_replicate, ha.length]
/-- THE RULE for a def with defaults: dv those that a call leaves out -/
theorem fn_okD {P : Program} {w : World} {K : Fg} {mg : Str → Option Value} {base : Heap} {x qual : Str} {st : Stmt} {f : Addr} {fd : FuncData} {N ps : List Str} {k : Nat} {ι : Type} {S : FS ι} {dvs dv : List V} {kws : List (Str × V)} (F : FunD K x qual (defArgs st) (defBody st) (defScope st) dvs kws f fd) (sc : FnScope N ps (defScope st))
    (hb : ∃ ds, Vals dv ds ∧ Binds K fd ps ds) (hl : ∀ i, (S.args i).length = ps.length)
    (h : ∀ (i : ι) (cdv : Value) (A : Around) (outer : List Env) (s : Shared) (G H : Hp) (D : Ends) (EE : XK), Room k (cxD P w K mg base N qual st f cdv A outer s H EE).A → S.pre i → Fin K ⟨(S.own i).map (·.p), G, H⟩ S i D → (∀ σ H', D.nx σ H' = D.rt .non H') →
      J (cxD P w K mg base N qual st f cdv A outer s H EE) ⟨(S.own i).map (·.p), G, H⟩ ((S.args i).map some ++ List.replicate (N.length - (S.args i).length) none) (S.own i) (defBody st) D) :
    DefOk P w K mg base (k + 1) f dv S := by
  obtain ⟨ds, hd, hb⟩ := hb
  refine ⟨⟨fd, ps, ds, F.ok sc (fun vs H Q EE hsp => ?_) (fun cdv A outer s H vs Q EE hr hsp => ?_), hb, hd⟩, F.kp⟩
  · obtain ⟨i, G, _, _, ha, _⟩ := hsp
    rw [ha.length, hl]
  · obtain ⟨i, G, hp, hgh, ha, how, hnd, hq⟩ := hsp
    refine ⟨wSs (cxD P w K mg base N qual st f cdv A outer s H EE) (defBody st), PSs.nox pss_w, ?_⟩
    have hN : ps.length ≤ N.length := by have := congrArg List.length sc.pre; rw [List.length_take] at this; omega
    refine h i cdv A outer s G H { nx := fun _ H' => Q .non H', rt := Q } EE hr hp (fun v G' H' t ow hv => hq v G' H' t ow hv) (fun _ _ => rfl) _ G H ⟨Stp.refl hgh, env_start N ha, ?_, how, fun w hw => .inl (List.mem_map.mpr ⟨w, hw, rfl⟩), hnd⟩
    unfold L2.start
    rw [List.length_append, List.length_append, List.length_map, List.length_map, List.length_replicate, List.length_replicate, ha.length]
/-- at a return -/
theorem fin_ret {ι : Type} {S : FS ι} {i : ι} {K : Fg} {O' : List Own} (hf : Fin K B S i D) (ho : ∀ w ∈ S.own' i, w ∈ O') (hs : ∀ G v, s.ok K G v → (S.res i).ok K G v) : ∀ v σ G' H', Sta K B δ O' σ G' H' → s.ok K G' v → D.rt v H' :=
  fun v σ G' H' st hv => hf v G' H' st.stp (fun w hw => st.own w (ho w hw)) (hs _ _ hv)
/-- at the body's end -/
theorem fin_end {ι : Type} {S : FS ι} {i : ι} (hf : Fin X.K B S i D) (hn : ∀ σ H', D.nx σ H' = D.rt .non H') (ho : ∀ w ∈ S.own' i, w ∈ O) (hs : S.res i = sNon := by rfl) : J X B δ O [] D :=
  j_nil fun σ G H st => by
    rw [hn]
    exact hf .non G H st.stp (fun w hw => st.own w (ho w hw)) (by rw [hs]; rfl)
end
end Gd

/-! What an own class's __len__, __bool__, __eq__ (== and !=), __add__ (beside an int), __call__ do -/
namespace Gd
open PySem L2
section
variable {X : Cx} {B : Bs} {δ : List (Option Slot)} {O O1 O2 : List Own} {s s1 s2 s3 : Slot} {ss : List Slot} {ι : Type} {S : FS ι} {k : Nat} {f C : Addr} {tab tab2 : List (Str × Slot)} {pins : List (Addr × Obj)} {σ : SS} {G H : Hp} {sh : Shared} {u v : Bool} {n : Int}
/-- a def's promise, as a raw one -/
theorem DefOk.raw {P : Program} {w : World} {K : Fg} {mg : Str → Option Value} {base : Heap} (F : DefOk P w K mg base k f [] S) : FnR P w K mg base CX0 k f (S.sp K) := by
  obtain ⟨⟨fd, ps, ds, F, hb, hd⟩, hk⟩ := F
  exact (F.raw hb hd).imp fun vs H Q E h => by rwa [List.append_nil]
theorem inst_at {a C dx : Addr} {fs : List (Str × V)} (I : Inv X pins σ H sh) (e : H a = some (.ins C dx fs)) : ∃ od, PySem.W.InstAt sh.heap a (PySem.W.instObj C dx) C (some od) := by
  obtain ⟨mA, J, _⟩ := ins_get I.hok e
  obtain ⟨od, J, _⟩ := J.look
  exact ⟨od, J⟩
/-- a method, run below -/
theorem run_in {A : Around} {Q : VK} {us : List Value} {ws : List V} {sp : Sp} (F : FnR X.prog X.w X.K X.mg X.base CX0 k f sp) (hr : Room k A) (hA : A.frames = X.A.frames) (I : Inv X pins σ H sh) (r : Vals ws us) (h : sp ws H Q E0) :
    wpAny (model X.prog X.w) A (call (.ref f) us) (EP X pins σ Q) X.xe sh := by
  have e := I.env0
  have e0 : Env0 X.prog X.w X.K X.mg X.base A X.stack sh H := ⟨by rw [hA]; exact e.frames, e.mod, e.bs, e.bsz, e.funs, e.frf, e.hok, e.bare⟩
  exact wpAny_call (SlX.run_at (us := us) (ws := ws) F hr e0 pass0 I r h)
theorem sIns_at {K : Fg} {v : V} (h : (sIns C tab).ok K G v) (e : Same G H) : ∃ p dx fs, v = .ref p ∧ H p = some (.ins C dx fs) := by
  obtain ⟨p, o, rfl, hp, dx, fs, rfl, _⟩ := h
  exact ⟨p, dx, fs, rfl, e _ _ hp⟩
/-- a pure promise at a state -/
theorem fs_pure {K : Fg} {Q : VK} {vs : List V} {EE : XK} (j : ι) (hp : S.pre j) (st : Sta K B δ O σ G H) (ha : AllS K G vs (S.args j)) (h1 : S.own j = []) (h2 : S.own' j = [])
    (kk : ∀ v G' H', Same G G' → Sta K B δ O σ G' H' → (S.res j).ok K G' v → Q v H') : S.sp K vs H Q EE :=
  fs_use (O2 := O) j hp (by rw [h1]; exact st) ha (by rw [h1, h2]) fun v G' H' m st' hv => kk v G' H' m (by rw [h2] at st'; exact st') hv

theorem c_lenO (j : ι) (hs : PySem.W.findIn X.K (.ref C) "__len__" = some (some (.ref f))) (hf : PySem.W.isFn X.K (.ref f) = true) (F : DefX X k f [] S) (hr : Room (k + 1) X.A) (hp : S.pre j) (hn : 0 ≤ n ∧ n < 2 ^ 63) (hargs : S.args j = [sIns C tab] := by rfl) (hres : S.res j = sInt n := by rfl)
    (h1 : S.own j = [] := by rfl) (h2 : S.own' j = [] := by rfl) : CallE X (.builtin "len") [sIns C tab] (sInt n) := by
  refine ⟨fun xs H Q => ∃ a dx fs, xs = [.ref a] ∧ H a = some (.ins C dx fs) ∧ S.sp X.K [.ref a] H (fun z H' => z = .int n ∧ Q (.int n) H') E0, ?_, ?_⟩
  · intro pins s σ H xs us Q I r h
    (obtain ⟨a, dx, fs, rfl, ha, q⟩ := h)
    (obtain ⟨u, rfl, ru⟩ := vals1 r)
    cases ru
    obtain ⟨od, J⟩ := inst_at I ha
    obtain ⟨m, hF⟩ := I.fr
    refine PySem.W.len_K hF I.ok.mod.kin J hs hf (wpAny_mono (run_in (us := [.ref a]) (ws := [.ref a]) F.raw hr.in1 rfl I (.cons rfl .nil) q) (fun w s' z => ?_) fun _ _ x => x)
    obtain ⟨z', H', I', rz, ez, qz⟩ := z
    subst ez
    obtain ⟨t, rfl⟩ := rz
    exact ⟨hn, .int n, H', I'.tok _, ⟨_, rfl⟩, qz⟩
  · intro B δ O σ G H Q xs st h q
    obtain ⟨v, rfl, hv⟩ := alls1 h
    obtain ⟨p, dx, fs, rfl, hp'⟩ := sIns_at hv st.stp.gh
    refine ⟨p, dx, fs, rfl, hp', fs_pure j hp st (by rw [hargs]; exact .cons hv .nil) h1 h2 fun v G' H' m st' hv' => ?_⟩
    rw [hres] at hv'
    exact ⟨hv', q _ G' H' m st' rfl⟩
theorem bool_new_in {prog : Program} {w : World} (x : Addr) : MeetsIn prog w (Builtin.«bool.__new__» ⟨[.type "bool", .ref x], []⟩) (fun A R s => wpAny (model prog w) A.in1 (truthy (.ref x)) (fun b s2 => R (.ok (.ret (.bool b))) s2) (fun e s2 => R (.error e) s2) s) :=
  .of_wp fun A R s hs => by
    have f1 := F.conv_sub_bool
    (obtain ⟨hp, g, d, tk, os⟩ := s)
    repeat (any_goals (first | assumption | (with_reducible refine wpAny_mono hs (fun b s2 hb => ?_) fun _ _ z => z) | wp_step))
    all_goals first | exact ⟨_, rfl, hb⟩ | exact hb | skip
/-- bool(x), the instance's own __bool__ -/
theorem bool_own {prog : Program} {w : World} {A : Around} {E : Value → Shared → Prop} {s : Shared} {K : Fg} {x C f : Addr} {L : Addr} {h₀ : Heap} {m : Str → Option Value} {ox : Obj} {od : Option Obj} {Q : Value → Shared → Prop} (Fr : PyProof.Rows.Fr h₀ L s.heap m) (X₀ : K.In h₀) (I : PySem.W.InstAt s.heap x ox C od)
    (hs : PySem.W.findIn K (.ref C) "__bool__" = some (some (.ref f))) (hf : PySem.W.isFn K (.ref f) = true) (h : wpAny (model prog w) A.in1.in1 (call (.ref f) [.ref x]) (fun v s' => ∃ b, v = .bool b ∧ Q (.bool b) s') E s) : wpAny (model prog w) A (call (.type "bool") [.ref x]) Q E s := by
  refine callType_newIn F.called_bool F.newNe_bool (F.typeCall_bool_1 (.ref x)) (F.newCall_bool_1 (.ref x)) (fun obj => F.args_object_init_2 obj (.ref x)) F.entry_bool_new (bool_new_in x) ?_
  refine PySem.W.truthy_K Fr X₀ I hs hf (wpAny_mono h (fun v s' hv => ?_) fun _ _ z => z)
  obtain ⟨b, rfl, hb⟩ := hv
  exact ⟨rfl, hb⟩
theorem c_boolO (j : ι) (hs : PySem.W.findIn X.K (.ref C) "__bool__" = some (some (.ref f))) (hf : PySem.W.isFn X.K (.ref f) = true) (F : DefX X k f [] S) (hr : Room (k + 2) X.A) (hp : S.pre j) (hargs : S.args j = [sIns C tab] := by rfl) (hres : S.res j = sBl u := by rfl)
    (h1 : S.own j = [] := by rfl) (h2 : S.own' j = [] := by rfl) : CallE X (.type "bool") [sIns C tab] (sBl u) := by
  refine ⟨fun xs H Q => ∃ a dx fs, xs = [.ref a] ∧ H a = some (.ins C dx fs) ∧ S.sp X.K [.ref a] H (fun z H' => z = .bl u ∧ Q (.bl u) H') E0, ?_, ?_⟩
  · intro pins s σ H xs us Q I r h
    (obtain ⟨a, dx, fs, rfl, ha, q⟩ := h)
    obtain ⟨w, rfl, ru⟩ := vals1 r
    cases ru
    obtain ⟨od, J⟩ := inst_at I ha
    obtain ⟨m, hF⟩ := I.fr
    have hr2 : Room k X.A.in1.in1 := (show Room (k + 1) X.A.in1 from Room.in1 hr).in1
    refine bool_own hF I.ok.mod.kin J hs hf (wpAny_mono (run_in (us := [.ref a]) (ws := [.ref a]) F.raw hr2 rfl I (.cons rfl .nil) q) (fun w s' z => ?_) fun _ _ x => x)
    obtain ⟨z', H', I', rz, ez, qz⟩ := z
    subst ez
    cases rz
    exact ⟨u, rfl, .bl u, H', I', rfl, qz⟩
  · intro B δ O σ G H Q xs st h q
    obtain ⟨v, rfl, hv⟩ := alls1 h
    obtain ⟨p, dx, fs, rfl, hp'⟩ := sIns_at hv st.stp.gh
    refine ⟨p, dx, fs, rfl, hp', fs_pure j hp st (by rw [hargs]; exact .cons hv .nil) h1 h2 fun v G' H' m st' hv' => ?_⟩
    rw [hres] at hv'
    exact ⟨hv', q _ G' H' m st' rfl⟩
/-- x == y of two instances of one class, by its own __eq__ -/
theorem o_eqO (j : ι) (hs : PySem.W.findIn X.K (.ref C) "__eq__" = some (some (.ref f))) (hf : PySem.W.isFn X.K (.ref f) = true) (F : DefX X k f [] S) (hr : Room k X.A) (hp : S.pre j) (hargs : S.args j = [sIns C tab, sIns C tab2] := by rfl) (hres : S.res j = sBl u := by rfl)
    (h1 : S.own j = [] := by rfl) (h2 : S.own' j = [] := by rfl) : OpE X (compareOp .Eq) (sIns C tab) (sIns C tab2) (sBl u) := by
  refine ⟨fun x y H Q => ∃ a b dx fs dy gs, x = .ref a ∧ y = .ref b ∧ H a = some (.ins C dx fs) ∧ H b = some (.ins C dy gs) ∧ S.sp X.K [.ref a, .ref b] H (fun z H' => z = .bl u ∧ Q (.bl u) H') E0, ?_, ?_⟩
  · intro pins s σ H x y v w Q I rx ry h
    obtain ⟨a, b, dx, fs, dy, gs, rfl, rfl, ha, hb, q⟩ := h
    cases rx
    cases ry
    obtain ⟨od, J⟩ := inst_at I ha
    obtain ⟨od2, J2⟩ := inst_at I hb
    obtain ⟨m, hF⟩ := I.fr
    show wpAny (model X.prog X.w) X.A (richCompare .Eq (.ref a) (.ref b)) (EP X pins σ Q) X.xe s
    refine PySem.W.cmp_K (op := .Eq) (tb := .ref C) hr.units0 hF I.ok.mod.kin J J2.type (by simp [PySem.W.notFirst]) hs hf (wpAny_mono (run_in (us := [.ref a, .ref b]) (ws := [.ref a, .ref b]) F.raw hr rfl I (.cons rfl (.cons rfl .nil)) q) (fun w s' z => ?_) fun _ _ x => x)
    obtain ⟨z', H', I', rz, ez, qz⟩ := z
    subst ez
    cases rz
    exact ⟨.bl u, H', I', rfl, qz⟩
  · intro B δ O σ G H Q x y st hx hy q
    obtain ⟨p, dx, fs, rfl, hp'⟩ := sIns_at hx st.stp.gh
    obtain ⟨p2, dx2, fs2, rfl, hp2⟩ := sIns_at hy st.stp.gh
    refine ⟨p, p2, dx, fs, dx2, fs2, rfl, rfl, hp', hp2, fs_pure j hp st (by rw [hargs]; exact .cons hx (.cons hy .nil)) h1 h2 fun v G' H' m st' hv' => ?_⟩
    rw [hres] at hv'
    exact ⟨hv', q _ G' H' m st' rfl⟩
/-- what the class's own object must look like (for !=) -/
def ClsO (K : Fg) (C : Addr) : Prop := ∃ nm q N bs bm hd sn sub ab col dd k0 k1 k2 k3 k5 id, K.lookup C = some (excClassObj nm q C N bs bm hd sn sub ab col dd k0 k1 k2 k3 k5 id) ∧ bm.contains (.type "object") = true
/-- !=, the class has an own __eq__ and no own __ne__ -/
theorem ne_K {prog : Program} {w : World} {A : Around} {E : Value → Shared → Prop} {s : Shared} {K : Fg} {x y C f : Addr} {L : Addr} {h₀ : Heap} {m : Str → Option Value} {ox oy : Obj} {od od2 : Option Obj} {Q : Value → Shared → Prop} (hu : A.units + 1 < cLine) (Fr : PyProof.Rows.Fr h₀ L s.heap m) (X₀ : K.In h₀)
    (I : PySem.W.InstAt s.heap x ox C od) (I2 : PySem.W.InstAt s.heap y oy C od2) (hox : s.heap.get? x = some ox) (hoc : ox.cls = .ref C) (hC : ClsO K C) (hne : PySem.W.findIn K (.ref C) "__ne__" = some (some (.builtin "object.__ne__")))
    (hs : PySem.W.findIn K (.ref C) "__eq__" = some (some (.ref f))) (hf : PySem.W.isFn K (.ref f) = true)
    (h : wpAny (model prog w) A.in1 (call (.ref f) [.ref x, .ref y]) (fun v s' => ∃ b, v = .bool b ∧ Q (.bool (!b)) s') E s) : wpAny (model prog w) A (richCompare .NotEq (.ref x) (.ref y)) Q E s := by
  have XK := X₀.keeps Fr.keep
  obtain ⟨nm, q, N, bs, bm, hd, sn, sub, ab, col, dd, k0, k1, k2, k3, k5, id, lC, hob⟩ := hC
  have hCh := XK _ _ lC
  unfold richCompare
  simp only [oneThing_ref]
  refine wpAny_holding (wpAny_bind (wpAny_cRoomFor (Nat.lt_of_succ_lt hu) ?_))
  rw [cmpInfo_NotEq]
  dsimp only
  refine wpAny_bind (I.type.here (wpAny_bind (I2.type.here ?_)))
  (rw [show (Value.ref C != Value.ref C) = false from by simp])
  (simp only [Bool.false_eq_true, if_false])
  (refine wpAny_bind (wpAny_pure ?_))
  (simp only [Bool.false_eq_true, if_false])
  have one : wpAny (model prog w) A (tryCompare (.ref x) "__ne__" (.ref y)) (fun r s' => ∃ v, r = some v ∧ Q v s') E s := by
    simp only [tryCompare]
    refine wpAny_bind ?_
    (simp only [callSpecialIfBound?, bindSpecialIfBound?])
    refine wpAny_holding (wpAny_bind (wpAny_bind (wpAny_bind (I.type.here ((PySem.W.looks_findIn XK hne).here ?_)))))
    simp only [F.cmp_object.ne.bind]
    have body : wpAny (model prog w) A (call (.builtin "object.__ne__") [.ref x, .ref y]) (fun v s' => ∃ b, v = .bool b ∧ Q (.bool b) s') E s := by
      obtain ⟨hp, g, d, t, os⟩ := s
      refine wpAny_call (codeAny_call_builtin F.cmp_object.ne.plain F.cmpEntry_ne (wpAny_check_slot_inst F.cmpKind_ne F.cmpSplit_ne (F.cmpArgs_ne _ _) hob hox hoc hCh ?_))
      (unfold Builtin.«object.__ne__»)
      repeat (first
        | with_reducible refine wpAny_cRoomFor (A := A.in1) hu ?_
        | (refine wpAny_bind (m := callSpecialIfBound? (.ref x) (Str.ofString "__eq__") [.ref y]) -- -
            (PySem.W.ifBound_K XK I hs hf (wpAny_mono h (fun r s' hr => by
              obtain ⟨b, rfl, hq⟩ := hr
              repeat (first | exact ⟨_, rfl, hq⟩ | exact wpAny_pure ⟨_, rfl, hq⟩ | exact wpAny_pure (wpAny_pure ⟨_, rfl, hq⟩) | (refine wpAny_bind (m := truthy (.bool _)) (wpAny_truthy_bool ?_)) | wp_step)) fun _ _ e => e)))
        | wp_step)
    have fin : wpAny (model prog w) A (call (.builtin "object.__ne__") ([.ref x] ++ [.ref y]) >>= fun v => pure (some v)) (fun r s' => wpAny (model prog w) A (match r with | some .notImplemented | none => pure none | some v => pure (some v)) (fun r s' => ∃ v, r = some v ∧ Q v s') E s') E s :=
      wpAny_bind (wpAny_mono body (fun v s' ⟨b, e, hq⟩ => by subst e; exact wpAny_pure (wpAny_pure ⟨_, rfl, hq⟩)) fun _ _ z => z)
    (refine wpAny_bind (wpAny_askSetting (wpAny_ite ?_)))
    split
    · (exact wpAny_bind (wpAny_pure (wpAny_pure fin)))
    · (exact wpAny_tryCatch (wpAny_bind (wpAny_pure (wpAny_pure fin))))
  (refine wpAny_bind (wpAny_mono one (fun r s' z => ?_) fun _ _ e => e))
  obtain ⟨v, rfl, hq⟩ := z
  first | exact wpAny_pure hq | exact wpAny_pure (wpAny_pure hq)
theorem o_neO (j : ι) (hs : PySem.W.findIn X.K (.ref C) "__eq__" = some (some (.ref f))) (hf : PySem.W.isFn X.K (.ref f) = true) (hC : ClsO X.K C) (hne : PySem.W.findIn X.K (.ref C) "__ne__" = some (some (.builtin "object.__ne__"))) (F : DefX X k f [] S) (hr : Room (k + 1) X.A) (hp : S.pre j)
    (hargs : S.args j = [sIns C tab, sIns C tab2] := by rfl) (hres : S.res j = sBl u := by rfl) (h1 : S.own j = [] := by rfl) (h2 : S.own' j = [] := by rfl) : OpE X (compareOp .NotEq) (sIns C tab) (sIns C tab2) (sBl (!u)) := by
  refine ⟨fun x y H Q => ∃ a b dx fs dy gs, x = .ref a ∧ y = .ref b ∧ H a = some (.ins C dx fs) ∧ H b = some (.ins C dy gs) ∧ S.sp X.K [.ref a, .ref b] H (fun z H' => z = .bl u ∧ Q (.bl (!u)) H') E0, ?_, ?_⟩
  · intro pins s σ H x y v w Q I rx ry h
    obtain ⟨a, b, dx, fs, dy, gs, rfl, rfl, ha, hb, q⟩ := h
    cases rx
    cases ry
    obtain ⟨od, J⟩ := inst_at I ha
    obtain ⟨od2, J2⟩ := inst_at I hb
    obtain ⟨m, hF⟩ := I.fr
    obtain ⟨_, _, _, hga, _⟩ := (show ObjOk X.prog X.w H s.heap a (.ins C dx fs) from I.hok a _ ha)
    show wpAny (model X.prog X.w) X.A (richCompare .NotEq (.ref a) (.ref b)) (EP X pins σ Q) X.xe s
    refine ne_K (by have := hr.units; omega) hF I.ok.mod.kin J J2 hga rfl hC hne hs hf (wpAny_mono (run_in (us := [.ref a, .ref b]) (ws := [.ref a, .ref b]) F.raw hr.in1 rfl I (.cons rfl (.cons rfl .nil)) q) (fun w s' z => ?_) fun _ _ x => x)
    obtain ⟨z', H', I', rz, ez, qz⟩ := z
    subst ez
    cases rz
    exact ⟨u, rfl, .bl (!u), H', I', rfl, qz⟩
  · intro B δ O σ G H Q x y st hx hy q
    obtain ⟨p, dx, fs, rfl, hp'⟩ := sIns_at hx st.stp.gh
    obtain ⟨p2, dx2, fs2, rfl, hp2⟩ := sIns_at hy st.stp.gh
    refine ⟨p, p2, dx, fs, dx2, fs2, rfl, rfl, hp', hp2, fs_pure j hp st (by rw [hargs]; exact .cons hx (.cons hy .nil)) h1 h2 fun v G' H' m st' hv' => ?_⟩
    rw [hres] at hv'
    exact ⟨hv', q _ G' H' m st' rfl⟩
/-- what x + n asks of the class of x, with an own __add__ at f, n an int -/
structure ClsAdd (K : Fg) (C f : Addr) : Prop where
  hc : PySem.W.selfFirst K C = true
  hs : PySem.W.findIn K (.ref C) (PySem.dunder "add") = some (some (.ref f))
  hf : PySem.W.isFn K (.ref f) = true
  hr : PySem.W.findIn K (.ref C) (PySem.dunderR "add") = some none
  h1 : ∃ fo, PySem.W.findIn K (.type "int") (PySem.dunder "add") = some fo
  h2 : ∃ ro, PySem.W.findIn K (.type "int") (PySem.dunderR "add") = some ro
  hsub : PySem.W.subIn K (.type "int") (.ref C) = some false
theorem o_addO {φ : Slot} (j : ι) (c : ClsAdd X.K C f) (F : DefX X k f [] S) (hr : Room k X.A) (hp : S.pre j) (hargs : S.args j = [sIns C tab, sInt n] := by rfl) (hres : S.res j = φ := by rfl) (hni : ∀ (K : Fg) (G : Hp) (v : V) (u : Value), φ.ok K G v → RelV v u → u ≠ .notImplemented)
    (h1 : S.own j = [] := by rfl) (h2 : S.own' j = [] := by rfl) : OpE X (binaryOp .Add) (sIns C tab) (sInt n) φ := by
  refine ⟨fun x y H Q => ∃ a dx fs, x = .ref a ∧ y = .int n ∧ H a = some (.ins C dx fs) ∧ S.sp X.K [.ref a, .int n] H (fun z H' => (∀ u, RelV z u → u ≠ .notImplemented) ∧ Q z H') E0, ?_, ?_⟩
  · intro pins s σ H x y v w Q I rx ry h
    obtain ⟨a, dx, fs, rfl, rfl, ha, q⟩ := h
    cases rx
    obtain ⟨t, rfl⟩ := (show ∃ t, w = Value.int n t from ry)
    obtain ⟨od, J⟩ := inst_at I ha
    obtain ⟨m, hF⟩ := I.fr
    obtain ⟨fo, e1⟩ := c.h1
    obtain ⟨ro, e2⟩ := c.h2
    refine PySem.W.ksp_binT (op := .Add) (T := "int") hF I.ok.mod.kin J rfl c.hc c.hs c.hf c.hr (.inl rfl) e1 e2 c.hsub (wpAny_mono (run_in (us := [.ref a, .int n t]) (ws := [.ref a, .int n]) F.raw hr rfl I (.cons rfl (.cons ⟨t, rfl⟩ .nil)) q) (fun w s' z => ?_) fun _ _ x => x)
    obtain ⟨z', H', I', rz, ni, qz⟩ := z
    have ni := ni w rz
    have fin : EP X pins σ Q w s' := ⟨z', H', I', rz, qz⟩
    cases w <;> first | exact absurd rfl ni | exact fin
  · intro B δ O σ G H Q x y st hx hy q
    obtain ⟨p, dx, fs, rfl, hp'⟩ := sIns_at hx st.stp.gh
    cases hy
    refine ⟨p, dx, fs, rfl, rfl, hp', fs_pure j hp st (by rw [hargs]; exact .cons hx (.cons rfl .nil)) h1 h2 fun v G' H' m st' hv' => ?_⟩
    rw [hres] at hv'
    exact ⟨fun u ru => hni _ _ _ _ hv' ru, q v G' H' m st' hv'⟩
theorem ins_ni {K : Fg} {G : Hp} {v : V} {u : Value} (h : (sIns C tab).ok K G v) (r : RelV v u) : u ≠ .notImplemented := by
  obtain ⟨p, o, rfl, _⟩ := h
  cases r
  intro z
  cases z
/-- f(e, ..), f an instance with an own __call__ -/
theorem e_callO {fe e : Expr} {es : List Expr} {pos : Pos} (j : ι) (c : StX.CallO X.K C f) (F : DefX X k f [] S) (hr : Room k X.A) (hfe : E X δ O fe (sIns C tab) O1) (ha : EA X δ O1 (e :: es) ss O2) (hp : S.pre j) (hargs : S.args j = sIns C tab :: ss := by rfl) (h1 : S.own j = [] := by rfl) (h2 : S.own' j = [] := by rfl)
    (he : noStar e = true := by rfl) (hpl : noStars es = true := by rfl) (ht : eval (.Call fe (e :: es) [] pos) X.env = (do callWith pos (← eval fe X.env) [] (backTo pos (starEach (e :: es) X.env)) (backToKw pos (keywordEach [] X.env))) := by rfl) :
    E X δ O (.Call fe (e :: es) [] pos) (S.res j) O2 := by
  intro B σ G H Q st k
  refine e_of (StX.pe_callO pe_w c F.raw hr (E := E0) pass0 pa_w ht (starEach_plain he) (backTo_plain hpl)) ?_
  refine hfe B σ G H _ st fun v G1 H1 m1 st1 hv => ?_
  have hv0 := hv
  obtain ⟨q, dx, fs, rfl, hq⟩ := sIns_at hv (Same.refl G1)
  refine ⟨q, rfl, ?_⟩
  refine ha B σ G1 H1 _ st1 fun vs G2 H2 m2 st2 hvs => ⟨.inr ⟨dx, fs, st2.stp.gh _ _ (m2 _ _ hq)⟩, ?_⟩
  exact fs_pure j hp st2 (by rw [hargs]; exact .cons ((sIns C tab).mono m2 hv0) hvs) h1 h2 fun v G' H' m st' hv' => k v G' H' (m1.trans (m2.trans m)) st' hv'
end
end Gd

namespace Gd
open PySem L2
section
variable {X : Cx} {B : Bs} {δ : List (Option Slot)} {O O1 O2 : List Own} {s s1 s2 s3 : Slot} {D : Ends} {rest : List Stmt} {a b : Expr}
/-- a, b = x, y -/
theorem j_par {x y : Str} {px py pt pos pt2 : Pos} {kt k2} (i j : Nat) (ha : E X δ O a s1 O1) (hb : E X δ O1 b s2 O2) (q : J X B ((δ.set i (some s1)).set j (some s2)) O2 rest D) (hN : X.N.Nodup) (hi : X.N[i]? = some x := by rfl) (hj : X.N[j]? = some y := by rfl) (hij : i ≠ j := by decide) (hc : X.calm = true := by rfl)
    (hx : X.env.scope.names.lookup x = some .local := by rfl) (hy : X.env.scope.names.lookup y = some .local := by rfl) (h1 : noStar a = true := by rfl) (h2 : noStar b = true := by rfl)
    (hw : swappedStores [.Tuple [.Name x px, .Name y py] kt pt] (.Tuple [a, b] k2 pt2) X.env = pure (some [x, y]) := by rfl) (hs : swapsWithSole [.Tuple [.Name x px, .Name y py] kt pt] (.Tuple [a, b] k2 pt2) pos.line X.env = pure false := by rfl) :
    J X B δ O (.Assign [.Tuple [.Name x px, .Name y py] kt pt] (.Tuple [a, b] k2 pt2) pos :: rest) D :=
  j_cons fun σ G H st => s_of (ps_par hc hN hi hj hij hx hy (pa_cons pe_w (pa_cons pe_w pa_nil (starEach_plain h2)) (starEach_plain h1)) hw hs)
    (ha B σ G H _ st fun v G1 H1 m1 st1 hv => hb B σ G1 H1 _ st1 fun w G2 H2 m2 st2 hw2 => ⟨v, w, rfl, q _ G2 H2 ((st2.set (s1.mono m2 hv)).set hw2)⟩)
/-- a, b = x, a new object -/
theorem j_parW {x y : Str} {px py pt pos pt2 : Pos} {kt k2} {φ : Addr → Own} (i j : Nat) (ha : E X δ O a s1 O1) (hb : EW X δ O1 b φ O2) (q : ∀ r, B.H r = none → J X B ((δ.set i (some s1)).set j (some (sRef r))) (φ r :: O2) rest D) (hN : X.N.Nodup) (hi : X.N[i]? = some x := by rfl) (hj : X.N[j]? = some y := by rfl) (hij : i ≠ j := by decide) (hc : X.calm = true := by rfl)
    (hx : X.env.scope.names.lookup x = some .local := by rfl) (hy : X.env.scope.names.lookup y = some .local := by rfl) (h1 : noStar a = true := by rfl) (h2 : noStar b = true := by rfl)
    (hw : swappedStores [.Tuple [.Name x px, .Name y py] kt pt] (.Tuple [a, b] k2 pt2) X.env = pure (some [x, y]) := by rfl) (hs : swapsWithSole [.Tuple [.Name x px, .Name y py] kt pt] (.Tuple [a, b] k2 pt2) pos.line X.env = pure false := by rfl) :
    J X B δ O (.Assign [.Tuple [.Name x px, .Name y py] kt pt] (.Tuple [a, b] k2 pt2) pos :: rest) D :=
  j_cons fun σ G H st => s_of (ps_par hc hN hi hj hij hx hy (pa_cons pe_w (pa_cons pe_w pa_nil (starEach_plain h2)) (starEach_plain h1)) hw hs)
    (ha B σ G H _ st fun v G1 H1 m1 st1 hv => hb B σ G1 H1 _ st1 fun r G2 H2 hr m2 st2 => ⟨v, .ref r, rfl, q r hr _ G2 H2 ((st2.set (s1.mono m2 hv)).set rfl)⟩)
/-- a, b = a new object, y -/
theorem j_parW1 {x y : Str} {px py pt pos pt2 : Pos} {kt k2} {φ : Addr → Own} (i j : Nat) (ha : EW X δ O a φ O1) (hb : ∀ r, E X δ (φ r :: O1) b s2 (φ r :: O2)) (q : ∀ r, B.H r = none → J X B ((δ.set i (some (sRef r))).set j (some s2)) (φ r :: O2) rest D) (hN : X.N.Nodup) (hi : X.N[i]? = some x := by rfl) (hj : X.N[j]? = some y := by rfl) (hij : i ≠ j := by decide) (hc : X.calm = true := by rfl)
    (hx : X.env.scope.names.lookup x = some .local := by rfl) (hy : X.env.scope.names.lookup y = some .local := by rfl) (h1 : noStar a = true := by rfl) (h2 : noStar b = true := by rfl)
    (hw : swappedStores [.Tuple [.Name x px, .Name y py] kt pt] (.Tuple [a, b] k2 pt2) X.env = pure (some [x, y]) := by rfl) (hs : swapsWithSole [.Tuple [.Name x px, .Name y py] kt pt] (.Tuple [a, b] k2 pt2) pos.line X.env = pure false := by rfl) :
    J X B δ O (.Assign [.Tuple [.Name x px, .Name y py] kt pt] (.Tuple [a, b] k2 pt2) pos :: rest) D :=
  j_cons fun σ G H st => s_of (ps_par hc hN hi hj hij hx hy (pa_cons pe_w (pa_cons pe_w pa_nil (starEach_plain h2)) (starEach_plain h1)) hw hs)
    (ha B σ G H _ st fun r G1 H1 hr m1 st1 => hb r B σ G1 H1 _ st1 fun w G2 H2 m2 st2 hw2 => ⟨.ref r, w, rfl, q r hr _ G2 H2 ((st2.set rfl).set hw2)⟩)
/-- a, b, c = a new object, y, another new object -/
theorem j_par3W {c' : Expr} {x y z : Str} {px py pz pt pos pt2 : Pos} {kt k2} {φ ψ : Addr → Own} (i j l : Nat) (ha : EW X δ O a φ O1) (hb : ∀ r, E X δ (φ r :: O1) b s2 (φ r :: O2)) (hd : ∀ r, EW X δ (φ r :: O2) c' ψ (φ r :: O2)) (q : ∀ r t, B.H r = none → B.H t = none → J X B (((δ.set i (some (sRef r))).set j (some s2)).set l (some (sRef t))) (ψ t :: φ r :: O2) rest D) (hN : X.N.Nodup)
    (hi : X.N[i]? = some x := by rfl) (hj : X.N[j]? = some y := by rfl) (hl : X.N[l]? = some z := by rfl) (hij : i ≠ j := by decide) (hil : i ≠ l := by decide) (hjl : j ≠ l := by decide) (hc : X.calm = true := by rfl)
    (hx : X.env.scope.names.lookup x = some .local := by rfl) (hy : X.env.scope.names.lookup y = some .local := by rfl) (hz : X.env.scope.names.lookup z = some .local := by rfl) (h1 : noStar a = true := by rfl) (h2 : noStar b = true := by rfl) (h3 : noStar c' = true := by rfl)
    (hw : swappedStores [.Tuple [.Name x px, .Name y py, .Name z pz] kt pt] (.Tuple [a, b, c'] k2 pt2) X.env = pure (some [x, y, z]) := by rfl) (hs : swapsWithSole [.Tuple [.Name x px, .Name y py, .Name z pz] kt pt] (.Tuple [a, b, c'] k2 pt2) pos.line X.env = pure false := by rfl) :
    J X B δ O (.Assign [.Tuple [.Name x px, .Name y py, .Name z pz] kt pt] (.Tuple [a, b, c'] k2 pt2) pos :: rest) D :=
  j_cons fun σ G H st => s_of (ps_par3 hc hN hi hj hl hij hil hjl hx hy hz (pa_cons pe_w (pa_cons pe_w (pa_cons pe_w pa_nil (starEach_plain h3)) (starEach_plain h2)) (starEach_plain h1)) hw hs)
    (ha B σ G H _ st fun r G1 H1 hr m1 st1 => hb r B σ G1 H1 _ st1 fun w G2 H2 m2 st2 hw2 => hd r B σ G2 H2 _ st2 fun t G3 H3 ht m3 st3 => ⟨.ref r, w, .ref t, rfl, q r t hr ht _ G3 H3 (((st3.set rfl).set (s2.mono m3 hw2)).set rfl)⟩)
theorem Sta.drop2 {K : Fg} {w1 w2 w3 : Own} {σ : SS} {G H : Hp} (st : Sta K B δ [w1, w2, w3] σ G H) : Sta K B δ [w1, w3] σ G H := st.perm (fun w hw => by
    simp only [List.mem_cons, List.not_mem_nil, or_false] at hw ⊢
    rcases hw with h | h
    · exact .inl h
    · exact .inr (.inr h)) (by
    have nd := st.nd
    simp only [List.map_cons, List.map_nil, List.nodup_cons, List.mem_cons, List.not_mem_nil, or_false, not_or, not_false_eq_true, List.nodup_nil, and_true] at nd ⊢
    exact nd.1.2)
/-- two owned objects, the other way round -/
theorem j_swap {w1 w2 : Own} {sts : List Stmt} (h : J X B δ [w2, w1] sts D) : J X B δ [w1, w2] sts D :=
  j_perm _ h (fun w hw => by simp only [List.mem_cons, List.not_mem_nil, or_false] at hw ⊢; exact hw.symm) fun nd => by
    simp only [List.map_cons, List.map_nil, List.nodup_cons, List.mem_singleton, List.not_mem_nil, not_false_eq_true, List.nodup_nil, and_true] at nd ⊢
    exact fun e => nd e.symm
/-- two truth values, != -/
theorem neB_dec {u v : Bool} : (!decide (u = v)) = (u != v) := by cases u <;> cases v <;> rfl
/-- THE RULE for the law's own def: as fn_ok, its record kept in sight -/
theorem fn_okF {P : Program} {w : World} {K : Fg} {mg : Str → Option Value} {base : Heap} {x qual : Str} {st : Stmt} {f : Addr} {fd : FuncData} {N ps : List Str} {k : Nat} {ι : Type} {S : FS ι} (F : Fun K x qual st f fd) (sc : FnScope N ps (defScope st))
    (hl : ∀ i, (S.args i).length = ps.length)
    (h : ∀ (i : ι) (cdv : Value) (A : Around) (outer : List Env) (s : Shared) (G H : Hp) (D : Ends) (EE : XK), Room k (cxD P w K mg base N qual st f cdv A outer s H EE).A → S.pre i → Fin K ⟨(S.own i).map (·.p), G, H⟩ S i D → (∀ σ H', D.nx σ H' = D.rt .non H') →
      J (cxD P w K mg base N qual st f cdv A outer s H EE) ⟨(S.own i).map (·.p), G, H⟩ ((S.args i).map some ++ List.replicate (N.length - (S.args i).length) none) (S.own i) (defBody st) D) :
    FnOk P w K mg base CX0 (k + 1) f fd ps (S.sp K) := by
  refine F.ok sc (fun vs H Q EE hsp => ?_) (fun cdv A outer s H vs Q EE hr hsp => ?_)
  · obtain ⟨i, G, _, _, ha, _⟩ := hsp
    rw [ha.length, hl]
  · obtain ⟨i, G, hp, hgh, ha, how, hnd, hq⟩ := hsp
    refine ⟨_, pss_w, ?_⟩
    have hN : ps.length ≤ N.length := by have := congrArg List.length sc.pre; rw [List.length_take] at this; omega
    refine h i cdv A outer s G H { nx := fun _ H' => Q .non H', rt := Q } EE hr hp (fun v G' H' t ow hv => hq v G' H' t ow hv) (fun _ _ => rfl) _ G H ⟨Stp.refl hgh, env_start N ha, ?_, how, fun w hw => .inl (List.mem_map.mpr ⟨w, hw, rfl⟩), hnd⟩
    unfold L2.start
    rw [List.length_append, List.length_append, List.length_map, List.length_map, List.length_replicate, List.length_replicate, ha.length]
end
end Gd

/-! More rules: triples as targets, enumerate, owned lists read, popped, lengthened, copied; methods of owned instances -/
namespace Gd
open PySem L2
section
variable {X : Cx} {B B1 : Bs} {δ δ' : List (Option Slot)} {O O1 O2 O3 : List Own} {a b c e o : Expr} {es : List Expr} {x : Str} {p pos apos : Pos} {s s1 s2 s3 : Slot} {ss : List Slot} {α β : Type} {R : α → Slot} {S : β → Slot} {D : Ends} {rest sts : List Stmt} {u : Bool} {q : Addr} {as : List α}
theorem alls3 {K : Fg} {G : Hp} {vs : List V} (h : AllS K G vs [s1, s2, s3]) : ∃ v w z, vs = [v, w, z] ∧ s1.ok K G v ∧ s2.ok K G w ∧ s3.ok K G z := by
  cases h with
  | cons h1 t =>
    obtain ⟨w, z, rfl, h2, h3⟩ := alls2 t
    exact ⟨_, w, z, rfl, h1, h2, h3⟩
theorem tg_tup3 (i j l : Nat) {x1 x2 x3 : Str} {p1 p2 p3 p4 : Pos} {kk : Nat} {r1 r2 r3 : α → Slot} (hN : X.N.Nodup) (hi : X.N[i]? = some x1 := by rfl) (hj : X.N[j]? = some x2 := by rfl) (hl : X.N[l]? = some x3 := by rfl) (hx1 : Loc X.env.scope x1 := by first | exact Or.inl rfl | exact Or.inr rfl) (hx2 : Loc X.env.scope x2 := by first | exact Or.inl rfl | exact Or.inr rfl) (hx3 : Loc X.env.scope x3 := by first | exact Or.inl rfl | exact Or.inr rfl)
    (hf1 : X.fn x1 = true ∨ X.env.scope.names.lookup x1 = some .local := by first | exact .inl rfl | exact .inr rfl) (hf2 : X.fn x2 = true ∨ X.env.scope.names.lookup x2 = some .local := by first | exact .inl rfl | exact .inr rfl) (hf3 : X.fn x3 = true ∨ X.env.scope.names.lookup x3 = some .local := by first | exact .inl rfl | exact .inr rfl) (hc : X.calm = true := by rfl) :
    TGu X (.Tuple [.Name x1 p1, .Name x2 p2, .Name x3 p3] kk p4) (fun y => sTup [r1 y, r2 y, r3 y]) (fun y => [(i, r1 y), (j, r2 y), (l, r3 y)]) :=
  ⟨_, pg_tup hc (pgs_cons (pg_name hN hi hx1 hf1) (pgs_cons (pg_name hN hj hx2 hf2) (pgs_cons (pg_name hN hl hx3 hf3) pgs_nil))), fun B δ O σ G H y v Q st hv k => by
    obtain ⟨p, vs, rfl, hp, h⟩ := hv
    obtain ⟨v1, v2, v3, rfl, e1, e2, e3⟩ := alls3 h
    exact ⟨p, _, rfl, sqT_up st.stp.gh hp, rfl, v1, [v2, v3], rfl, v2, [v3], rfl, v3, [], rfl, rfl, k _ (((st.set e1).set e2).set e3)⟩⟩
/-- enumerate(xs) -/
theorem it_enum {elts : List Expr} {kk : Nat} {tpos : Pos} (hm : X.mg "enumerate" = none) (h : E X δ O e (sLst R as) O1) (hg : Gl X "enumerate" := by rfl) (hs : noStar e = true := by rfl) :
    IT X δ O (.Tuple elts kk tpos) (.Call (.Name "enumerate" p) [e] [] pos) (fun y : α × Nat => sTup [sInt (y.2 : Nat), R y.1]) as.zipIdx O1 :=
  ⟨_, pi_enum hg hm (pa_cons pe_w pa_nil (starEach_plain hs)) (starEach_plain hs), fun B σ G H Q st k => h B σ G H _ st fun v G1 H1 m1 st1 hv => by
    obtain ⟨q, vs, rfl, hp, r⟩ := hv
    refine ⟨q, vs, rfl, SqL.of (st1.stp.gh _ _ hp), k _ G1 H1 m1 st1 fun B' δ' O' σ' G' H' i e st' => ⟨fun y hy => ?_, fun hi => ?_⟩⟩
    · have hy2 : as[i]? = some y.1 ∧ y.2 = i := by
        rw [List.getElem?_zipIdx] at hy
        cases z : as[i]? with
        | none => rw [z] at hy; cases hy
        | some w => rw [z] at hy; cases hy; exact ⟨rfl, by simp⟩
      obtain ⟨w, hw, hr⟩ := r.get hy2.1
      have hq : SqL X.K H' q vs := SqL.of (st'.stp.gh _ _ (e _ _ hp))
      refine ⟨⟨vs, w, hq, hw⟩, fun v H'' hy' => ?_⟩
      obtain ⟨T, x, rfl, hT, rfl, hx⟩ := hy'
      have hx := hx vs hq
      rw [hw] at hx
      cases hx
      have sg : Same G' (upd G' T (.tup [.int i, w])) := same_new (gnone st'.stp hT)
      refine ⟨_, sg, st'.freshG hT, T, _, rfl, SqT.of upd_same, .cons ?_ (.cons ((R y.1).mono sg ((R y.1).mono e hr)) .nil)⟩
      rw [hy2.2]
      rfl
    · exact ⟨vs, SqL.of (st'.stp.gh _ _ (e _ _ hp)), by rw [r.length]; rw [List.length_zipIdx] at hi; exact hi⟩⟩
theorem c_lenTup : CallE X (.builtin "len") [sTup ss] (sInt ss.length) :=
  ⟨_, call_len_seq, fun B δ O σ G H Q xs st h k => by
    obtain ⟨v, rfl, p, vs, rfl, hp, r⟩ := alls1 h
    exact ⟨p, vs, rfl, .inr (sqT_up st.stp.gh hp), k _ G H (Same.refl _) st (by rw [r.length]; rfl)⟩⟩
/-- what is known of an owned list -/
theorem own_lst {K : Fg} {σ : SS} {G H : Hp} {jw : Nat} (st : Sta K B δ O σ G H) (hw : O[jw]? = some (oLst q R as)) : ∃ vs, H q = some (.lst vs) ∧ G q = none ∧ All2 K G R vs as := by
  obtain ⟨o1, h1, h2, vs, rfl, r⟩ := st.own _ (List.mem_of_getElem? hw)
  exact ⟨vs, h1, h2, r⟩
/-- xs[i] of an owned list -/
theorem e_ixL {i : Int} {y : α} (jw : Nat) (ha : E X δ O a (sRef q) O1) (hb : E X δ O1 b (sInt i) O2) (h : atI as i = some y) (hw : O2[jw]? = some (oLst q R as) := by rfl) (hs : noSlice b = true := by rfl) : E X δ O (.Subscript a b pos) (R y) O2 := by
  intro B σ G H Q st k
  refine e_of (pe_ix ix_list pe_w pe_w (plainIx_of hs)) ?_
  refine ha B σ G H _ st fun x G1 H1 m1 st1 hx => hb B σ G1 H1 _ st1 fun y' G2 H2 m2 st2 hy => ?_
  cases hx
  cases hy
  obtain ⟨vs, hq, _, r⟩ := own_lst st2 hw
  obtain ⟨u, h1, h2⟩ := atI_all2 r h
  exact ⟨q, vs, i, u, rfl, rfl, SqL.of hq, h1, k _ G2 H2 (m1.trans m2) st2 h2⟩
/-- xs.pop(), xs an owned list -/
theorem e_pop {y : α} (jw : Nat) (ho : E X δ O o (sRef q) O1) (hy : as[as.length - 1]? = some y) (hw : O1[jw]? = some (oLst q R as) := by rfl) (hb : noCall0 o = true := by rfl) (hline : (apos.endLine == pos.line) = true := by rfl) :
    E X δ O (.Call (.Attribute o "pop" apos) [] [] pos) (R y) (O1.set jw (oLst q R as.dropLast)) := by
  intro B σ G H Q st k
  refine e_of (pe_bm0 PySem.F.plainAttrs_list PySem.F.slot_list_pop PySem.F.type_list_pop mt_pop pe_w (attributeBase_plain hb) hline) ?_
  refine ho B σ G H _ st fun v G1 H1 m1 st1 hv => ?_
  cases hv
  obtain ⟨vs, hq, _, r⟩ := own_lst st1 hw
  obtain ⟨w, h1, h2⟩ := r.get hy
  refine ⟨.inl ⟨rfl, _, SqL.of hq⟩, q, vs, w, rfl, rfl, hq, by rw [r.length]; exact h1, ?_⟩
  exact k _ G1 _ m1 (st1.putI (w' := oLst q R as.dropLast) hw rfl ⟨_, rfl, r.dropLast⟩) h2
/-- xs.extend(ys), xs an owned list -/
theorem e_extend {bs : List α} (jw : Nat) (ho : E X δ O o (sRef q) O1) (he : E X δ O1 e (sLst R bs) O2) (hz : as.length + bs.length ≤ sizeLine) (hw1 : O1[jw]? = some (oLst q R as) := by rfl) (hw : O2[jw]? = some (oLst q R as) := by rfl)
    (hbase : noCall0 o = true := by rfl)
    (hfew : ((backTo pos (starEach (e :: []) X.env)).all (fun x => !x.1) && (backToKw pos (keywordEach [] X.env)).all (fun x => x.1.isSome)
      && decide ((e :: []).length + ([] : List Keyword).length + (if ([] : List Keyword).isEmpty then 0 else 1) < 30)) = true := by rfl)
    (hline : (apos.endLine == pos.line) = true := by rfl) (hs : noStar e = true := by rfl) (hplain : (backTo pos (starEach [] X.env)).any (·.1) = false := by rfl) :
    E X δ O (.Call (.Attribute o "extend" apos) [e] [] pos) sNon (O2.set jw (oLst q R (as ++ bs))) := by
  intro B σ G H Q st k
  refine e_of (pe_bm PySem.F.plainAttrs_list PySem.F.slot_list_extend PySem.F.type_list_extend mt_extend pe_w (pa_cons pe_w pa_nil (starEach_plain hs)) (attributeBase_plain hbase) hfew hline (starEach_plain hs) hplain) ?_
  refine ho B σ G H _ st fun v G1 H1 m1 st1 hv => ?_
  cases hv
  obtain ⟨vs1, hq1, _, _⟩ := own_lst st1 hw1
  refine ⟨.inl ⟨rfl, _, SqL.of hq1⟩, ?_⟩
  refine he B σ G1 H1 _ st1 fun w G2 H2 m2 st2 hw2 => ?_
  obtain ⟨vs2, hq2, _, r2⟩ := own_lst st2 hw
  obtain ⟨b2, ws, rfl, hb2, rb⟩ := hw2
  refine ⟨q, b2, vs2, ws, rfl, rfl, hq2, st2.stp.gh _ _ hb2, by rw [r2.length, rb.length]; exact hz, ?_⟩
  exact k _ G2 _ (m1.trans m2) (st2.putI (w' := oLst q R (as ++ bs)) hw rfl ⟨_, rfl, r2.append rb⟩) rfl
/-- len(xs), tuple(xs), list(xs), xs an owned list -/
theorem e_lenO (jw : Nat) (hm : X.mg "len" = none) (ho : E X δ O e (sRef q) O1) (hw : O1[jw]? = some (oLst q R as) := by rfl) (hg : Gl X "len" := by rfl) (hs : noStar e = true := by rfl) : E X δ O (.Call (.Name "len" p) [e] [] pos) (sInt as.length) O1 := by
  intro B σ G H Q st k
  refine e_of (pe_callB call_len_seq hg hm PySem.boot_len (pa_cons pe_w pa_nil (starEach_plain hs)) (by decide) (by decide) (starEach_plain hs) rfl) ?_
  refine ho B σ G H _ st fun v G1 H1 m1 st1 hv => ?_
  cases hv
  obtain ⟨vs, hq, _, r⟩ := own_lst st1 hw
  exact ⟨q, vs, rfl, .inl (SqL.of hq), k _ G1 H1 m1 st1 (by rw [r.length]; rfl)⟩
theorem e_tupleO (jw : Nat) (hm : X.mg "tuple" = none) (ho : E X δ O e (sRef q) O1) (hw : O1[jw]? = some (oLst q R as) := by rfl) (hg : Gl X "tuple" := by rfl) (hs : noStar e = true := by rfl) : E X δ O (.Call (.Name "tuple" p) [e] [] pos) (sTupl R as) O1 := by
  intro B σ G H Q st k
  refine e_of (pe_callTy call_tuple_of hg hm (by decide +kernel) (pa_cons pe_w pa_nil (starEach_plain hs)) (by decide) (by decide) (starEach_plain hs) rfl) ?_
  refine ho B σ G H _ st fun v G1 H1 m1 st1 hv => ?_
  cases hv
  obtain ⟨vs, hq, _, r⟩ := own_lst st1 hw
  refine ⟨q, vs, rfl, .inl ⟨SqL.of hq, fun l hl => ?_⟩⟩
  have sg : Same G1 (upd G1 l (.tup vs)) := same_new (gnone st1.stp hl)
  exact k _ _ _ (m1.trans sg) (st1.freshG hl) ⟨l, vs, rfl, SqT.of upd_same, r.mono sg⟩
theorem ew_listO (jw : Nat) (hm : X.mg "list" = none) (ho : E X δ O e (sRef q) O1) (hw : O1[jw]? = some (oLst q R as) := by rfl) (hg : Gl X "list" := by rfl) (hs : noStar e = true := by rfl) : EW X δ O (.Call (.Name "list" p) [e] [] pos) (fun r => oLst r R as) O1 := by
  intro B σ G H Q st k
  refine e_of (pe_callTy call_list_of hg hm (by decide +kernel) (pa_cons pe_w pa_nil (starEach_plain hs)) (by decide) (by decide) (starEach_plain hs) rfl) ?_
  refine ho B σ G H _ st fun v G1 H1 m1 st1 hv => ?_
  cases hv
  obtain ⟨vs, hq, _, r⟩ := own_lst st1 hw
  exact ⟨q, vs, rfl, .inl (SqL.of hq), fun l hl => k l G1 _ (none_of st1 hl) m1 (st1.freshO (w := oLst l R as) hl rfl ⟨vs, rfl, r⟩)⟩
theorem dpAll_up {K : Fg} {G H : Hp} (e : Same G H) : ∀ {vs : List V} {ds : List PyData}, DpAll K G vs ds → DpAll K H vs ds
  | _, _, .nil => .nil
  | _, _, .cons h t => .cons (dp_up e _ _ h) (dpAll_up e t)
/-- xs != [], xs an owned list of things that are data -/
theorem t_neNil {d : α → PyData} {k : Nat} (jw : Nat) (hr : Room k X.A) (hd : ∀ a, IsD (R a) (d a)) (ho : E X δ O e (sRef q) O1) (hsh : SeqAt.shaped (.list (as.map d)) = true) (hw : O1[jw]? = some (oLst q R as) := by rfl) {p2 : Pos} :
    T X δ O (.Compare e [.NotEq] [.List [] p2] pos) (!as.isEmpty) O1 := by
  intro B σ G H Q st k
  refine t_of (pt_cmpR (op_neD hr.units) pe_w pe_w (nomark _)) ?_
  refine ho B σ G H _ st fun v G1 H1 m1 st1 hv => ?_
  cases hv
  refine (ew_lst (R := R) (as := ([] : List α)) el_nil (Nat.zero_le _)) B σ G1 H1 _ st1 fun r G2 H2 hr2 m2 st2 => ?_
  have hw2 : (oLst r R ([] : List α) :: O1)[jw + 1]? = some (oLst q R as) := hw
  obtain ⟨vs, hq, _, r1⟩ := own_lst st2 hw2
  obtain ⟨ws, hq0, _, r0⟩ := own_lst (jw := 0) st2 rfl
  refine ⟨.list (as.map d), .list [], .lst (SqL.of hq) (dpAll_up st2.stp.gh (dpAll hd r1)), ?_, hsh, rfl, _, rfl, ?_⟩
  · cases r0
    exact .lst (SqL.of hq0) .nil
  · have e0 : (!PyData.eqv (.list (as.map d)) (.list [])) = !as.isEmpty := by cases as <;> simp [PyData.eqv, PyData.eqvAll]
    rw [e0]
    exact k G2 H2 (m1.trans m2) (st2.perm (fun w hw => List.mem_cons_of_mem _ hw) (by have := st2.nd; rw [List.map_cons] at this; exact (List.nodup_cons.mp this).2))
end
end Gd

/-! Defs that hand back new owned objects (FSX); owned instances: methods, fields stored anew, lists of theirs -/
namespace Gd
open PySem L2
structure FSX (ι η : Type) where
  args : ι → List Slot
  pre : ι → Prop := fun _ => True
  own : ι → List Own := fun _ => []
  res : ι → η → Slot
  own' : ι → η → List Own := fun _ _ => []
def FSX.sp {ι η : Type} (S : FSX ι η) (K : Fg) : Sp := fun vs H Q _ => ∃ (i : ι) (G : Hp), S.pre i ∧ Same G H ∧ AllS K G vs (S.args i) ∧ (∀ w ∈ S.own i, ∃ o, H w.p = some o ∧ G w.p = none ∧ w.φ K G o) ∧ ((S.own i).map (·.p)).Nodup ∧
  ∀ e v G' H', Stp ⟨(S.own i).map (·.p), G, H⟩ G' H' → (∀ w ∈ S.own' i e, ∃ o, H' w.p = some o ∧ G' w.p = none ∧ w.φ K G' o) → (∀ w ∈ S.own' i e, w.p ∈ (S.own i).map (·.p) ∨ H w.p = none) → ((S.own' i e).map (·.p)).Nodup → (S.res i e).ok K G' v → Q v H'
section
variable {X : Cx} {B B1 : Bs} {δ δ' : List (Option Slot)} {O O1 O2 O3 : List Own} {a b c e o : Expr} {es : List Expr} {x m : Str} {p pos apos : Pos} {s s1 s2 s3 : Slot} {ss : List Slot} {α β : Type} {R : α → Slot} {D : Ends} {rest sts : List Stmt} {q C f : Addr} {as bs : List α} {k : Nat} {tab : List (Str × Slot)} {f' : Str}
theorem Sta.ranX {K : Fg} {σ : SS} {G H G' H' : Hp} {W W' : List Own} (s : Sta K B δ (W ++ O) σ G H) (t : Stp ⟨W.map (·.p), G, H⟩ G' H') (ow : ∀ w ∈ W', ∃ o, H' w.p = some o ∧ G' w.p = none ∧ w.φ K G' o)
    (nw : ∀ w ∈ W', w.p ∈ W.map (·.p) ∨ H w.p = none) (nd' : (W'.map (·.p)).Nodup) : Sta K B δ (W' ++ O) σ G' H' := by
  have nd := s.nd
  rw [List.map_append] at nd
  refine ⟨s.stp.trans t fun p hp' => ?_, s.env.mono t.ex, s.len, fun w hw => ?_, fun w hw => ?_, ?_⟩
  · obtain ⟨w, hw, e⟩ := List.mem_map.mp hp'
    rw [← e]; exact s.new w (List.mem_append_left _ hw)
  · rcases List.mem_append.mp hw with hw | hw
    · exact ow w hw
    · obtain ⟨o, h1, h2, h3⟩ := s.own w (List.mem_append_right _ hw)
      have hn : w.p ∉ W.map (·.p) := fun z => (List.nodup_append.mp nd).2.2 _ z _ (List.mem_map.mpr ⟨w, hw, rfl⟩) rfl
      exact ⟨o, t.fr _ _ h1 hn, t.nf _ _ h1 h2, w.mono t.ex h3⟩
  · rcases List.mem_append.mp hw with hw | hw
    · rcases nw w hw with z | z
      · obtain ⟨v, hv, e⟩ := List.mem_map.mp z
        rw [← e]; exact s.new v (List.mem_append_left _ hv)
      · exact .inr (none_of s z)
    · exact s.new w (List.mem_append_right _ hw)
  · (rw [List.map_append, List.nodup_append])
    refine ⟨nd', (List.nodup_append.mp nd).2.1, fun r hr r2 hr2 e => ?_⟩
    subst e
    obtain ⟨w, hw, e1⟩ := List.mem_map.mp hr
    obtain ⟨v, hv, e2⟩ := List.mem_map.mp hr2
    obtain ⟨o, h1, _, _⟩ := s.own v (List.mem_append_right _ hv)
    rcases nw w hw with z | z
    · exact (List.nodup_append.mp nd).2.2 _ z _ (List.mem_map.mpr ⟨v, hv, rfl⟩) (by rw [e1, e2])
    · rw [e1, ← e2, h1] at z; cases z
structure DefOkX (P : Program) (w : World) (K : Fg) (mg : Str → Option Value) (base : Heap) (k : Nat) (f : Addr) (dvs : List V) {ι η : Type} (S : FSX ι η) : Prop where
  ex : ∃ fd ps ds, FnOk P w K mg base CX0 k f fd ps (S.sp K) ∧ Binds K fd ps ds ∧ Vals dvs ds
  kp : PySem.W.keepIn K (.ref f) = true -- -
def FinX (K : Fg) (B : Bs) {ι η : Type} (S : FSX ι η) (i : ι) (D : Ends) : Prop := ∀ e v G' H', Stp B G' H' → (∀ w ∈ S.own' i e, ∃ o, H' w.p = some o ∧ G' w.p = none ∧ w.φ K G' o) → (∀ w ∈ S.own' i e, w.p ∈ B.A ∨ B.H w.p = none) → ((S.own' i e).map (·.p)).Nodup → (S.res i e).ok K G' v → D.rt v H'
theorem fn_okX {P : Program} {w : World} {K : Fg} {mg : Str → Option Value} {base : Heap} {x qual : Str} {st : Stmt} {f : Addr} {fd : FuncData} {N ps : List Str} {k : Nat} {ι η : Type} {S : FSX ι η} {dvs : List V} {ds : List Value} (F : Fun K x qual st f fd) (sc : FnScope N ps (defScope st))
    (hb : Binds K fd ps ds) (hd : Vals dvs ds) (hl : ∀ i, (S.args i).length = ps.length)
    (h : ∀ (i : ι) (cdv : Value) (A : Around) (outer : List Env) (s : Shared) (G H : Hp) (D : Ends) (EE : XK), Room k (cxD P w K mg base N qual st f cdv A outer s H EE).A → S.pre i → FinX K ⟨(S.own i).map (·.p), G, H⟩ S i D → (∀ σ H', D.nx σ H' = D.rt .non H') →
      J (cxD P w K mg base N qual st f cdv A outer s H EE) ⟨(S.own i).map (·.p), G, H⟩ ((S.args i).map some ++ List.replicate (N.length - (S.args i).length) none) (S.own i) (defBody st) D) :
    DefOkX P w K mg base (k + 1) f dvs S := by
  refine ⟨⟨fd, ps, ds, F.ok sc (fun vs H Q EE hsp => ?_) (fun cdv A outer s H vs Q EE hr hsp => ?_), hb, hd⟩, F.kp⟩
  · obtain ⟨i, G, _, _, ha, _⟩ := hsp
    rw [ha.length, hl]
  · obtain ⟨i, G, hp, hgh, ha, how, hnd, hq⟩ := hsp
    refine ⟨_, pss_w, ?_⟩
    have hN : ps.length ≤ N.length := by have := congrArg List.length sc.pre; rw [List.length_take] at this; omega
    refine h i cdv A outer s G H { nx := fun _ H' => Q .non H', rt := Q } EE hr hp (fun e v G' H' t ow nw nd hv => hq e v G' H' t ow nw nd hv) (fun _ _ => rfl) _ G H ⟨Stp.refl hgh, env_start N ha, ?_, how, fun w hw => .inl (List.mem_map.mpr ⟨w, hw, rfl⟩), hnd⟩
    unfold L2.start
    rw [List.length_append, List.length_append, List.length_map, List.length_map, List.length_replicate, List.length_replicate, ha.length]
theorem fin_retX {ι η : Type} {S : FSX ι η} {i : ι} {K : Fg} {O' : List Own} (ex : η) (hf : FinX K B S i D) (ho : S.own' i ex = O') (hs : ∀ G v, s.ok K G v → (S.res i ex).ok K G v) : ∀ v σ G' H', Sta K B δ O' σ G' H' → s.ok K G' v → D.rt v H' :=
  fun v σ G' H' st hv => hf ex v G' H' st.stp (by rw [ho]; exact st.own) (by rw [ho]; exact st.new) (by rw [ho]; exact st.nd) (hs _ _ hv)
theorem fin_endX {ι η : Type} {S : FSX ι η} {i : ι} (ex : η) (hf : FinX X.K B S i D) (hn : ∀ σ H', D.nx σ H' = D.rt .non H') (ho : S.own' i ex = O) (hs : S.res i ex = sNon := by rfl) : J X B δ O [] D :=
  j_nil fun σ G H st => by
    rw [hn]
    exact hf ex .non G H st.stp (by rw [ho]; exact st.own) (by rw [ho]; exact st.new) (by rw [ho]; exact st.nd) (by rw [hs]; rfl)
theorem fsx_use {ι η : Type} {S : FSX ι η} {K : Fg} {G H : Hp} {σ : SS} {Q : VK} {vs : List V} {EE : XK} (j : ι) (hp : S.pre j) (st : Sta K B δ (S.own j ++ O2) σ G H) (ha : AllS K G vs (S.args j))
    (k : ∀ ex v G' H', Same G G' → Sta K B δ (S.own' j ex ++ O2) σ G' H' → (S.res j ex).ok K G' v → Q v H') : S.sp K vs H Q EE := by
  have nd := st.nd
  rw [List.map_append] at nd
  exact ⟨j, G, hp, st.stp.gh, ha, fun w hw => st.own w (List.mem_append_left _ hw), (List.nodup_append.mp nd).1, fun ex v G' H' t ow nw nd' hv => k ex v G' H' t.ex (st.ranX t ow nw nd') hv⟩
/-- y = C(): its __init__ makes further owned objects -/
theorem j_make0 {ι η : Type} {S : FSX ι η} {y : Str} {py cp : Pos} (i : Nat) (j : Addr → ι) (M : Mk X.K C f) (F : DefOkX X.prog X.w X.K X.mg X.base k f [] S) (hr : Room (k + 1) X.A) (hm : X.mg x = some (.ref C)) (hp : ∀ q, S.pre (j q))
    (q : ∀ r ex, B.H r = none → J X B (δ.set i (some (sRef r))) (S.own' (j r) ex ++ O) rest D) (hN : X.N.Nodup) (hss : ∀ q, [sRef q] = S.args (j q) := by intro _; rfl) (ho : ∀ q, S.own (j q) = [oIns q C []] := by intro _; rfl) (hres : ∀ q ex, S.res (j q) ex = sNon := by intro _ _; rfl)
    (hi : X.N[i]? = some y := by rfl) (hx : Loc X.env.scope y := by first | exact Or.inl rfl | exact Or.inr rfl) (hf : X.fn y = true ∨ X.env.scope.names.lookup y = some .local := by first | exact .inl rfl | exact .inr rfl) (hg : Gl X x := by rfl) (hdb : (x == ("__debug__" : Str)) = false := by decide) :
    J X B δ O (.Assign [.Name y py] (.Call (.Name x p) [] [] cp) pos :: rest) D := by
  obtain ⟨⟨fd, ps, ds, F, hb, hd⟩, hk⟩ := F
  refine j_cons fun σ G H st => s_of (ps_set hN hi hx (pe_make0 M F hr hg hm hb hd (E := E0) pass0 hdb) (swaps_plain rfl) hf) ?_
  intro y dx hy hdx hne
  have st2 := st.freshG (o := HO.own y) hdx
  have hy2 : (upd H dx (HO.own y)) y = none := by rw [upd_ne (fun z => hne z.symm)]; exact hy
  have st3 := st2.freshO (w := oIns y C []) (o := .ins C dx []) hy2 rfl (insOk_nil dx)
  have st4 : Sta X.K B δ (S.own (j y) ++ O) σ (upd G dx (HO.own y)) (upd (upd H dx (HO.own y)) y (.ins C dx [])) := by rw [ho]; exact st3
  have hb0 := none_of st hy
  refine fsx_use (j y) (hp y) st4 (by rw [← hss]; exact .cons rfl .nil) fun ex v G' H' m3 st5 hv => ?_
  rw [hres] at hv
  exact ⟨hv, q y ex hb0 _ G' H' (st5.set rfl)⟩
theorem insOk_at {tab tab' : List (Str × Slot)} {K : Fg} {G : Hp} {o : HO} (hk : tab'.map (·.1) = tab.map (·.1)) (hl : tab'.length = tab.length) (h : insOk C tab K G o) (hi : ∀ f s v, (f, s) ∈ tab' → (∀ t, (f, t) ∈ tab → t.ok K G v) → s.ok K G v) (hm : ∀ f s, (f, s) ∈ tab' → ∃ t, (f, t) ∈ tab) : insOk C tab' K G o := by
  obtain ⟨dx, fs, e, hle, h1, h2⟩ := h
  refine ⟨dx, fs, e, by rw [hl]; exact hle, fun f s hf => ?_, fun f hf => h2 f (by rw [← hk]; exact hf)⟩
  obtain ⟨t, ht⟩ := hm f s hf
  obtain ⟨v, e1, _⟩ := h1 f t ht
  refine ⟨v, e1, hi f s v hf fun t' ht' => ?_⟩
  obtain ⟨v', e2, q⟩ := h1 f t' ht'
  rw [e1] at e2
  cases e2
  exact q
/-- an owned list that a field of an owned instance names is frozen -/
theorem j_freezeT {r : Addr} (jt : Nat) (hb : B.H r = none) (h : J X B δ (oIns q C (tab.set jt (f', sLst R as)) :: O) sts D) (hj : tab[jt]? = some (f', sRef r) := by rfl) (hn : (tab.map (·.1)).Nodup := by (try simp only [List.map_cons, List.map_nil]); decide +kernel) : J X B δ (oLst r R as :: oIns q C tab :: O) sts D := fun σ G H st => by
  obtain ⟨o, h1, ⟨vs, e, r2⟩, st1⟩ := st.freeze hb
  have gr : G r = none := by
    obtain ⟨_, _, g, _⟩ := st.own _ List.mem_cons_self
    exact g
  have sg : Same G (upd G r o) := same_new gr
  have hjl : jt < tab.length := by
    rcases Nat.lt_or_ge jt tab.length with z | z
    · exact z
    · rw [List.getElem?_eq_none z] at hj; cases hj
  have keys : (tab.set jt (f', sLst R as)).map (·.1) = tab.map (·.1) := by
    refine List.ext_getElem? fun i => ?_
    (rw [List.getElem?_map, List.getElem?_map])
    by_cases hi : jt = i
    · subst hi; rw [List.getElem?_set_self hjl, hj]; rfl
    · rw [List.getElem?_set_ne hi]
  refine h σ (upd G r o) H ⟨st1.stp, st1.env, st1.len, fun w hw => ?_, fun w hw => ?_, ?_⟩
  · rcases List.mem_cons.mp hw with rfl | hw
    · obtain ⟨o2, g1, g2, g3⟩ := st1.own (oIns q C tab) List.mem_cons_self
      refine ⟨o2, g1, g2, ?_⟩
      obtain ⟨dx, fs, e2, hle, k1, k2⟩ := g3
      refine ⟨dx, fs, e2, by rw [List.length_set]; exact hle, fun g t hg => ?_, fun g hg => k2 g (by rw [← keys]; exact hg)⟩
      obtain ⟨i, hi, e3⟩ := List.getElem_of_mem hg
      have e4 : (tab.set jt (f', sLst R as))[i]? = some (g, t) := by rw [List.getElem?_eq_getElem hi, e3]
      by_cases hij : jt = i
      · subst hij
        rw [List.getElem?_set_self hjl] at e4
        cases e4
        obtain ⟨v, k3, k4⟩ := k1 f' (sRef r) (List.mem_of_getElem? hj)
        cases k4
        exact ⟨_, k3, r, vs, rfl, by rw [← e]; exact upd_same, r2.mono sg⟩
      · rw [List.getElem?_set_ne hij] at e4
        exact k1 g t (List.mem_of_getElem? e4)
    · exact st1.own w (List.mem_cons_of_mem _ hw)
  · rcases List.mem_cons.mp hw with rfl | hw
    · exact st1.new (oIns q C tab) List.mem_cons_self
    · exact st1.new w (List.mem_cons_of_mem _ hw)
  · exact st1.nd
/-- o.m(e, ..), o an owned instance -/
theorem e_methO {ι : Type} {S : FS ι} {pl : Sem Bool} (j : ι) (jw : Nat) (F : DefX X k f [] S) (hr : Room k X.A) (c : Cls X.K C) (hm : Meth X.K C m f) (h : E X δ O o (sRef q) O1) (ha : EA X δ O1 (e :: es) ss (S.own j ++ O2)) (hp : S.pre j)
    (hO : O1[jw]? = some (oIns q C tab) := by rfl) (hss : sRef q :: ss = S.args j := by rfl) (hno : (tab.map (·.1)).contains m = false := by (try simp only [List.map_cons, List.map_nil]); decide +kernel) (hw : (S.own' j).map (·.p) = (S.own j).map (·.p) := by rfl)
    (hst : noStar e = true := by rfl) (hpl : noStars es = true := by rfl)
    (ht : eval (.Call (.Attribute o m apos) (e :: es) [] pos) X.env = (do -- -
      let ov ← eval o X.env
      standAt apos.atName
      let (f, first) ← holding [ov] (getMethod ov m pl) -- -
      callWith pos f first (backTo pos (starEach (e :: es) X.env)) (backToKw pos (keywordEach [] X.env))) := by rfl) : -- -
    E X δ O (.Call (.Attribute o m apos) (e :: es) [] pos) (S.res j) (S.own' j ++ O2) := by
  obtain ⟨⟨fd, ps, ds, F, hb, hd⟩, hk⟩ := F
  intro B σ G H Q st q'
  refine e_of (pe_meth pe_w c hm F hr hb hd (E := E0) pass0 pa_w (starEach_plain hst) (backTo_plain hpl) ht) ?_
  refine h B σ G H _ st fun v G1 H1 m1 st1 hv => ?_
  cases hv
  obtain ⟨o2, hq, _, dx, fs, rfl, _, h1, h2⟩ := st1.own _ (List.mem_of_getElem? hO)
  refine ⟨q, dx, fs, rfl, hq, h2 m (by simpa using hno), ?_⟩
  refine ha B σ G1 H1 _ st1 fun vs G2 H2 m2 st2 hvs => ?_
  rw [List.append_nil]
  exact fs_use j hp st2 (by rw [← hss]; exact .cons rfl hvs) hw fun v G' H' m3 st3 hv => q' v G' H' (m1.trans (m2.trans m3)) st3 hv
theorem e_methO0 {ι : Type} {S : FS ι} {pl : Sem Bool} (j : ι) (jw : Nat) (F : DefX X k f [] S) (hr : Room k X.A) (c : Cls X.K C) (hm : Meth X.K C m f) (h : E X δ O o (sRef q) (S.own j ++ O2)) (hp : S.pre j)
    (hO : (S.own j ++ O2)[jw]? = some (oIns q C tab) := by rfl) (hss : [sRef q] = S.args j := by rfl) (hno : (tab.map (·.1)).contains m = false := by (try simp only [List.map_cons, List.map_nil]); decide +kernel) (hw : (S.own' j).map (·.p) = (S.own j).map (·.p) := by rfl)
    (ht : eval (.Call (.Attribute o m apos) [] [] pos) X.env = (do -- -
      let ov ← eval o X.env
      standAt apos.atName
      let (f, first) ← holding [ov] (getMethod ov m pl) -- -
      callWith pos f first (backTo pos (starEach [] X.env)) (backToKw pos (keywordEach [] X.env))) := by rfl) : -- -
    E X δ O (.Call (.Attribute o m apos) [] [] pos) (S.res j) (S.own' j ++ O2) := by
  obtain ⟨⟨fd, ps, ds, F, hb, hd⟩, hk⟩ := F
  intro B σ G H Q st q'
  refine e_of (pe_meth0 pe_w c hm F hr hb hd (E := E0) pass0 ht) ?_
  refine h B σ G H _ st fun v G1 H1 m1 st1 hv => ?_
  cases hv
  obtain ⟨o2, hq, _, dx, fs, rfl, _, h1, h2⟩ := st1.own _ (List.mem_of_getElem? hO)
  refine ⟨q, dx, fs, rfl, hq, h2 m (by simpa using hno), ?_⟩
  show S.sp X.K (V.ref q :: ([] ++ [])) H1 Q E0
  exact fs_use j hp st1 (by rw [← hss]; exact .cons rfl .nil) hw fun v G' H' m3 st3 hv => q' v G' H' (m1.trans m3) st3 hv
/-- o.f = a new object, o an owned instance -/
theorem j_fldW {g : Str} {tp : Pos} {φ : Addr → Own} (jw : Nat) (hv : EW X δ O e φ O1) (ho : ∀ r, E X δ (φ r :: O1) o (sRef q) (φ r :: O2)) (c : Cls X.K C) (n : NoAttr X.K C g) (k : ∀ r, J X B δ ((φ r :: O2).set (jw + 1) (oIns q C (tab ++ [(g, sRef r)]))) rest D) (hw : O2[jw]? = some (oIns q C tab) := by rfl)
    (hn : (tab.map (·.1)).contains g = false := by (try simp only [List.map_cons, List.map_nil]); decide +kernel) (hl : tab.length < 1000 := by (try simp only [List.length_cons, List.length_nil]); decide) (hs : noCompr e = true := by rfl) : J X B δ O (.Assign [.Attribute o g tp] e pos :: rest) D :=
  j_cons fun σ G H st => s_of (ps_fld pe_w pe_w (swaps_plain hs)) (by
    refine hv B σ G H _ st fun r G1 H1 hb m1 st1 => ?_
    refine ho r B σ G1 H1 _ st1 fun w G2 H2 m2 st2 hw2 => ?_
    cases hw2
    have hw' : (φ r :: O2)[jw + 1]? = some (oIns q C tab) := hw
    obtain ⟨o2, hq2, _, dx, fs, rfl, hle, h1, h2⟩ := st2.own _ (List.mem_of_getElem? hw')
    refine ⟨q, C, dx, fs, rfl, hq2, c, n, Nat.lt_of_le_of_lt hle hl, ?_⟩
    exact k r σ G2 _ (st2.putI (w' := oIns q C (tab ++ [(g, sRef r)])) hw' rfl (insOk_put hn ⟨dx, fs, rfl, hle, h1, h2⟩ rfl)))
theorem putF_len {g : Str} {v y : V} : ∀ {fs : List (Str × V)}, fs.lookup g = some v → (putF g y fs).length = fs.length
  | [], h => by cases h
  | (h', x) :: r, h => by
    unfold putF
    split
    · rfl
    · rename_i ne
      have : (g == h') = false := by simpa using fun z => ne z.symm
      rw [List.lookup_cons, this] at h
      simp [putF_len h]
/-- o.f = e, f a field that stands already -/
theorem j_fldX {g : Str} {s0 : Slot} {tp : Pos} (jw jt : Nat) (hv : E X δ O e s O1) (ho : E X δ O1 o (sRef q) O2) (c : Cls X.K C) (n : NoAttr X.K C g) (k : J X B δ (O2.set jw (oIns q C (tab.set jt (g, s)))) rest D) (hw : O2[jw]? = some (oIns q C tab) := by rfl) (hj : tab[jt]? = some (g, s0) := by rfl)
    (hn : (tab.map (·.1)).Nodup := by (try simp only [List.map_cons, List.map_nil]); decide +kernel) (hl : tab.length < 1000 := by (try simp only [List.length_cons, List.length_nil]); decide) (hs : noCompr e = true := by rfl) : J X B δ O (.Assign [.Attribute o g tp] e pos :: rest) D :=
  j_cons fun σ G H st => s_of (ps_fld pe_w pe_w (swaps_plain hs)) (by
    refine hv B σ G H _ st fun v G1 H1 m1 st1 hv1 => ?_
    refine ho B σ G1 H1 _ st1 fun w G2 H2 m2 st2 hw2 => ?_
    cases hw2
    obtain ⟨o2, hq2, _, dx, fs, rfl, hle, h1, h2⟩ := st2.own _ (List.mem_of_getElem? hw)
    refine ⟨q, C, dx, fs, rfl, hq2, c, n, Nat.lt_of_le_of_lt hle hl, ?_⟩
    obtain ⟨v0, e0, _⟩ := h1 g s0 (List.mem_of_getElem? hj)
    exact k σ G2 _ (st2.putI (w' := oIns q C (tab.set jt (g, s))) hw rfl (insOk_over jt hj hn ⟨dx, fs, rfl, hle, h1, h2⟩ (by rw [putF_len e0]; exact hle) (s.mono m2 hv1))))
end
end Gd

/-! Comprehensions whose target is a tuple of names -/
namespace Gd
open PySem L2
section
variable {X : Cx} {B B1 : Bs} {δ δ' : List (Option Slot)} {O O1 O2 O3 : List Own} {a b c e o : Expr} {es : List Expr} {x : Str} {p pos : Pos} {s s1 s2 s3 : Slot} {ss : List Slot} {α β : Type} {R : α → Slot} {S : β → Slot} {D : Ends} {rest sts : List Stmt} {u : Bool}
/-- [elt for target in iter if ..], any target g that sets the places idx -/
theorem lcg_reading {elt iter : Expr} {ifs : List Expr} {scope : Scope} {own : List (Str × Nat)} {as : List α} {g : TG} (ts : α → List (Nat × Slot)) (idx : List Nat) (htg : ∀ (B : Bs) (δ : List (Option Slot)) (O : List Own) (σ : SS) (G H : Hp) (y : α) (v : V) (Q : SS → Hp → Prop), Sta X.K B δ O σ G H → (R y).ok X.K G v → (∀ σ', Sta X.K B (setD δ (ts y)) O σ' G H → (∀ vs, (∀ i ∈ idx, i ∈ vs) → wipe σ' vs = wipe σ vs) → Q σ' H) → g v σ H Q) (Ωs Ωm : Nat → List Own) (keeps : Nat → Bool) (acc : Nat → List β) {wi : TI} {σ : SS} {G H : Hp} {Q : VK}
    (hin : ∀ i ∈ idx, i ∈ own.map (·.2)) (st : Sta X.K B δ O σ G H)
    (h2 : ∀ (B : Bs) (σ : SS) (G H : Hp) (Q : It → Hp → Prop), Sta X.K B δ O σ G H → (∀ J G' H', Same G G' → Sta X.K B δ (Ωs 0) σ G' H' → Wk X.K G' J R as → Q J H') → wi σ H Q)
    (hts : ∀ k y, as[k]? = some y → ∀ s H C cl fp, TSs (Blk X scope s H C cl fp) (setD (wipeD δ (own.map (·.2))) (ts y)) (Ωs k) ifs (keeps k) (Ωm k))
    (helt : ∀ k y, as[k]? = some y → keeps k = true → ∃ z, acc (k + 1) = acc k ++ [z] ∧ ∀ s H C cl fp, E (Blk X scope s H C cl fp) (setD (wipeD δ (own.map (·.2))) (ts y)) (Ωm k) elt (S z) (Ωs (k + 1)))
    (hskip : ∀ k, k < as.length → keeps k = false → Ωm k = Ωs (k + 1) ∧ acc (k + 1) = acc k) (ha0 : acc 0 = []) (hz : as.length ≤ sizeLine)
    (k : ∀ p G' H', B.H p = none → Same G G' → Sta X.K B δ (oLst p S (acc as.length) :: Ωs as.length) σ G' H' → Q (.ref p) H') :
    tLc wi g (fun σ H Q => ∀ s H0 C cl fp, match ifs with | [] => Q true H | c :: _ => wT (Blk X scope s H0 C cl fp) c σ H Q) (fun σ H Q => ∀ s H0 C cl fp, wE (Blk X scope s H0 C cl fp) elt σ H Q) (own.map (·.2)) σ H Q := by
  refine h2 B σ G H _ st fun Jt G1 H1 m1 st1 wk => ?_
  intro Da hDa
  have hacc : ∀ k, k ≤ as.length → (acc k).length ≤ k := by
    intro k
    induction k with
    | zero => intro _; rw [ha0]; exact Nat.le_refl _
    | succ k ih =>
      intro hk
      have := ih (Nat.le_of_lt hk)
      cases hkk : keeps k with
      | true =>
        obtain ⟨z, e, _⟩ := helt k _ (List.getElem?_eq_getElem hk) hkk
        rw [e, List.length_append]; simp; omega
      | false => rw [(hskip k hk hkk).2]; omega
  refine ⟨fun n m H' => m = as.length - n ∧ n ≤ as.length ∧ ∃ G', Same G1 G' ∧ Sta X.K B δ (oLst Da S (acc n) :: Ωs n) σ G' H', ⟨_, rfl, Nat.zero_le _, G1, Same.refl _, ?_⟩, ?_⟩
  · rw [ha0]
    exact st1.freshO (w := oLst Da S []) hDa rfl ⟨[], rfl, .nil⟩
  · rintro n m H2 ⟨rfl, hn, G2, e2, st2⟩
    obtain ⟨w1, w2⟩ := wk B _ _ σ G2 H2 n e2 st2
    by_cases hlt : n < as.length
    · have hget := List.getElem?_eq_getElem hlt
      obtain ⟨hgo, hy⟩ := w1 as[n] hget
      refine .inr ⟨hgo, fun H' => ∃ G', Same G1 G' ∧ Sta X.K B δ (oLst Da S (acc (n + 1)) :: Ωs (n + 1)) σ G' H', fun H' ⟨G', e', st'⟩ => ⟨as.length - (n + 1), by omega, rfl, hlt, G', e', st'⟩, fun v H3 y3 => ?_⟩
      obtain ⟨G3, e3, st3, r3⟩ := hy v H3 y3
      refine htg B _ _ _ G3 H3 as[n] v _ (st3.wiped (own.map (·.2))) r3 fun σ' st4 hw => ?_
      have wp : wipe σ' (own.map (·.2)) = wipe σ (own.map (·.2)) := by rw [hw _ hin, wipe_wipe _ _ fun _ h => h]
      have back : ∀ {O' : List Own} {G' H' : Hp}, Sta X.K B (setD (wipeD δ (own.map (·.2))) (ts as[n])) O' σ' G' H' → Same G3 G' → Sta X.K B δ O' σ G' H' := fun {O' G' H'} q e => ⟨q.stp, st3.env.mono e, st3.len, q.own, q.new, q.nd⟩
      have rot : ∀ {O' : List Own} {δ' : List (Option Slot)} {σ' : SS} {G' H' : Hp} {w : Own}, Sta X.K B δ' (w :: O') σ' G' H' → Sta X.K B δ' (O' ++ [w]) σ' G' H' := fun {O' δ' σ' G' H' w} q => q.perm (fun v hv => by simp at hv ⊢; exact hv.symm) (by
        have nd := q.nd
        (rw [List.map_cons, List.nodup_cons] at nd)
        (rw [List.map_append, List.nodup_append])
        refine ⟨nd.2, by simp, fun q hq r hr e => nd.1 ?_⟩
        simp at hr
        rw [← hr, ← e]; exact hq)
      have unrot : ∀ {O' : List Own} {δ' : List (Option Slot)} {σ' : SS} {G' H' : Hp} {w : Own}, Sta X.K B δ' (O' ++ [w]) σ' G' H' → Sta X.K B δ' (w :: O') σ' G' H' := fun {O' δ' σ' G' H' w} q => q.perm (fun v hv => by simp at hv ⊢; exact hv.symm) (by
        have nd := q.nd
        rw [List.map_append, List.nodup_append] at nd
        (rw [List.map_cons, List.nodup_cons])
        exact ⟨fun hm => nd.2.2 _ hm _ (by simp) rfl, nd.1⟩)
      refine ⟨wp, ?_⟩
      -- behind the tests
      have elt_ : keeps n = true → ∀ G5 H5, Same G3 G5 → Sta X.K B (setD (wipeD δ (own.map (·.2))) (ts as[n])) (Ωm n ++ [oLst Da S (acc n)]) σ' G5 H5 →
          ∀ s H0 C cl fp, wE (Blk X scope s H0 C cl fp) elt σ' H5 fun y H6 => ∃ ac, H6 Da = some (.lst ac) ∧ ac.length < sizeLine ∧ ∃ G', Same G1 G' ∧ Sta X.K B δ (oLst Da S (acc (n + 1)) :: Ωs (n + 1)) σ G' (upd H6 Da (.lst (ac ++ [y]))) := by
        intro hk G5 H5 e5 st5 s H0 C cl fp
        obtain ⟨zz, ez, helt'⟩ := helt n _ hget hk
        refine e_frame (O := [oLst Da S (acc n)]) (helt' s H0 C cl fp) B _ G5 H5 _ st5 fun y G6 H6 m6 st6 hy6 => ?_
        have st6' := unrot st6
        obtain ⟨o6, h6, _, ac, rfl, r6⟩ := st6'.own _ List.mem_cons_self
        refine ⟨ac, h6, ?_, G6, fun q z w => m6 _ _ (e5 _ _ (e3 _ _ (e2 _ _ w))), ?_⟩
        · rw [r6.length]; exact Nat.lt_of_lt_of_le (Nat.lt_of_le_of_lt (hacc n (Nat.le_of_lt hlt)) hlt) hz
        · rw [ez]
          have st7 := st6'.put (w' := oLst Da S (acc n ++ [zz])) rfl ⟨_, rfl, r6.append (.cons hy6 .nil)⟩
          exact back st7 (e5.trans m6)
      have skip_ : keeps n = false → ∀ G5 H5, Same G3 G5 → Sta X.K B (setD (wipeD δ (own.map (·.2))) (ts as[n])) (Ωm n ++ [oLst Da S (acc n)]) σ' G5 H5 →
          ∃ G', Same G1 G' ∧ Sta X.K B δ (oLst Da S (acc (n + 1)) :: Ωs (n + 1)) σ G' H5 := by
        intro hk G5 H5 e5 st5
        refine ⟨G5, fun q z w => e5 _ _ (e3 _ _ (e2 _ _ w)), ?_⟩
        rw [(hskip n hlt hk).2, ← (hskip n hlt hk).1]
        exact back (unrot st5) e5
      intro s H0 C cl fp
      have hh := hts n _ hget
      cases ifs with
      | nil =>
        have hk : keeps n = true ∧ Ωm n = Ωs n := by
          rcases hh s H0 C cl fp with ⟨_, a, b⟩ | ⟨c, e, _⟩
          · exact ⟨a, b⟩
          · cases e
        refine iteT fun s' H0' C' cl' fp' => elt_ hk.1 G3 H3 (Same.refl _) ?_ s' H0' C' cl' fp'
        rw [hk.2]
        exact rot st4
      | cons c r =>
        rcases hh s H0 C cl fp with ⟨e, _⟩ | ⟨c', e, ht⟩
        · cases e
        · cases e
          refine t_frame (O := [oLst Da S (acc n)]) ht B _ G3 H3 _ (rot st4) fun G5 H5 m5 st5 => ?_
          cases hk : keeps n with
          | true => exact iteT fun s' H0' C' cl' fp' => elt_ hk G5 H5 m5 st5 s' H0' C' cl' fp'
          | false => exact iteF (skip_ hk G5 H5 m5 st5)
    · have e : n = as.length := by omega
      subst e
      exact .inl ⟨w2 (Nat.le_refl _), k Da G2 H2 (none_of st1 hDa) (m1.trans e2) st2⟩
variable {elt iter : Expr} {ifs : List Expr} {scope : Scope} {own : List (Str × Nat)} {as : List α} {px : Pos}
theorem ew_compG {tg : Expr} {g : TG} (ts : α → List (Nat × Slot)) (idx : List Nat) (Ωs Ωm : Nat → List Own) (keeps : Nat → Bool) (acc : Nat → List β) (hN : X.N.Nodup)
    (hpg : ∀ s H C cl fp, PG (Blk X scope s H C cl fp) tg g) (htg : ∀ (B : Bs) (δ : List (Option Slot)) (O : List Own) (σ : SS) (G H : Hp) (y : α) (v : V) (Q : SS → Hp → Prop), Sta X.K B δ O σ G H → (R y).ok X.K G v → (∀ σ', Sta X.K B (setD δ (ts y)) O σ' G H → (∀ vs, (∀ i ∈ idx, i ∈ vs) → wipe σ' vs = wipe σ vs) → Q σ' H) → g v σ H Q)
    (hi : IT X δ O tg iter R as (Ωs 0)) (ok : BlkOk X.N X.env.scope scope own)
    (hts : ∀ k y, as[k]? = some y → ∀ s H C cl fp, TSs (Blk X scope s H C cl fp) (setD (wipeD δ (own.map (·.2))) (ts y)) (Ωs k) ifs (keeps k) (Ωm k))
    (helt : ∀ k y, as[k]? = some y → keeps k = true → ∃ z, acc (k + 1) = acc k ++ [z] ∧ ∀ s H C cl fp, E (Blk X scope s H C cl fp) (setD (wipeD δ (own.map (·.2))) (ts y)) (Ωm k) elt (S z) (Ωs (k + 1)))
    (hskip : ∀ k, k < as.length → keeps k = false → Ωm k = Ωs (k + 1) ∧ acc (k + 1) = acc k) (ha0 : acc 0 = []) (hz : as.length ≤ sizeLine)
    (hin : ∀ i ∈ idx, i ∈ own.map (·.2) := by decide)
    (hifs : ifs = [] ∨ ∃ c, ifs = [c] := by first | exact .inl rfl | exact .inr ⟨_, rfl⟩) (hc : X.calm = true := by rfl) (hs : noSet iter = true := by rfl) :
    EW X δ O (.ListComp elt [⟨tg, iter, ifs, 0⟩] scope pos) (fun p => oLst p S (acc as.length)) (Ωs as.length) := by
  obtain ⟨wi, h1, h2⟩ := hi
  intro B σ G H Q st k
  refine e_of (pe_lc (te := fun σ H Q => ∀ s H0 C cl fp, wE (Blk X scope s H0 C cl fp) elt σ H Q) hc hN h1 ok hpg (fun s H C cl fp => pts_w hifs s H C cl fp)
    (fun s H C cl fp => ⟨fun pins s' σ H' Q I h => (h s H C cl fp).run pins s' I⟩) (folded_plain hs)) ?_
  exact lcg_reading (iter := iter) ts idx htg Ωs Ωm keeps acc hin st h2 hts helt hskip ha0 hz k
end
end Gd

/-! Slices of tuples, tuples read backwards, slices stored, texts lengthened, list.index, in of lists -/
namespace Gd
open PySem L2
section
variable {X : Cx} {B B1 : Bs} {δ δ' : List (Option Slot)} {O O1 O2 O3 O4 : List Own} {a b c e o : Expr} {es : List Expr} {x : Str} {p pos apos : Pos} {s s1 s2 s3 : Slot} {ss : List Slot} {α β : Type} {R : α → Slot} {S : β → Slot} {D : Ends} {rest sts : List Stmt} {u : Bool} {as bs : List α} {q : Addr}
theorem cutA_whole {lo hi : Option Int} (h : HT.sIx as.length 0 lo = 0 ∧ HT.sIx as.length as.length hi = as.length) : cutA as lo hi = as := by
  unfold cutA
  rw [h.1, h.2, List.drop_zero, Nat.sub_zero, List.take_length]
/-- t[a:b] -/
theorem e_sliceT {lo hi : Option Expr} {l v : Option Int} {p2 : Pos} (he : E X δ O e (sTupl R as) O1) (hl : PoE X δ O1 lo l O2) (hu : PoE X δ O2 hi v O3) : E X δ O (.Subscript e (.Slice lo hi none p2) pos) (sTupl R (cutA as l v)) O3 := by
  obtain ⟨t1, g1, f1⟩ := hl
  obtain ⟨t2, g2, f2⟩ := hu
  intro B σ G H Q st k
  refine e_of (pe_slice sl_tupA pe_w g1 g2) ?_
  refine he B σ G H _ st fun x G1 H1 m1 st1 hx => f1 B σ G1 H1 _ st1 fun G2 H2 m2 st2 => f2 B σ G2 H2 _ st2 fun G3 H3 m3 st3 => ?_
  obtain ⟨p, vs, rfl, hp, r⟩ := hx
  have m := m2.trans m3
  refine ⟨p, vs, rfl, sqT_up st3.stp.gh (sqT_mono m hp), fun hw => ?_, fun hw q hq => ?_⟩
  · rw [r.length] at hw
    rw [cutA_whole hw] at k
    exact k _ G3 H3 (m1.trans m) st3 ⟨p, vs, rfl, sqT_mono m hp, r.mono m⟩
  · have sg : Same G3 (upd G3 q (.tup (cutV vs l v))) := same_new (gnone st3.stp hq)
    exact k _ _ _ (m1.trans (m.trans sg)) (st3.freshG hq) ⟨q, _, rfl, SqT.of upd_same, (cut_all2 l v (r.mono m)).mono sg⟩
/-- xs[a:b] = ys, at the value level -/
def gSl (to : TE) (tl th : TO) : TG := fun v σ H Q => to σ H fun o H1 => tl σ H1 fun l H2 => th σ H2 fun u H3 => ∃ r b xs ys a c, o = .ref r ∧ v = .ref b ∧ l = some a ∧ u = some c ∧ H3 r = some (.lst xs) ∧ H3 b = some (.lst ys) ∧ r ≠ b ∧ 0 ≤ a ∧ a ≤ c ∧ c ≤ xs.length ∧
  xs.length + ys.length ≤ sizeLine ∧ Q σ (upd H3 r (.lst (xs.take a.toNat ++ ys ++ xs.drop c.toNat)))
theorem pg_sl {to : TE} {tl th : TO} {lo hi : Option Expr} {p2 : Pos} (ho : PE X o to) (hl : PO X lo tl) (hu : PO X hi th)
    (ha : ∀ v, assign (.Subscript o (.Slice lo hi none p2) pos) X.env v = (do
      let ov ← holding [v] (eval o X.env) -- -
      let iv ← holding [v, ov] (eval (.Slice lo hi none p2) X.env)
      standAt pos
      holding [v, ov, iv] (setItem ov iv v) -- -
      release [iv, v, ov] []) := by intro _; rfl) : PG X (.Subscript o (.Slice lo hi none p2) pos) (gSl to tl th) := by
  (refine ⟨fun pins s σ H v u Q I r h => ?_⟩)
  rw [ha]
  (refine wpAny_bind (wpAny_holding (thn (ho.run pins s σ H _ I h) fun ov s1 ⟨x, H1, I1, r1, q1⟩ => ?_)))
  (refine wpAny_bind (wpAny_holding ?_))
  refine wpAny_Slice (thn (hl.run pins s1 σ H1 _ I1 q1) fun vl s2 ⟨l, H2, I2, pl, q2⟩ => thn (hu.run pins s2 σ H2 _ I2 q2) fun vu s3 ⟨u', H3, I3, pu, q3⟩ => ?_)
  rw [evalPart_none]
  refine wpAny_pure ?_
  (have I4 : Inv X pins σ H3 { s3 with heap := s3.heap.push { cls := .type "slice", data := .fields #[vl, vu, .none] } } := I3.kept (t' := s3.toks) fun b ob q => Heap.get?_push_of_some _ q)
  obtain ⟨l0, b0, xs, ys, i, j, rfl, rfl, rfl, rfl, hx, hy, hne, h0, h1, h2, hz, q⟩ := q3
  cases r1
  cases r
  (refine wpAny_bind (wpAny_standAt (wpAny_bind (wpAny_holding ?_))))
  cases pl with
  | int i t =>
    cases pu with
    | int j t' =>
      refine set_slice I4 hx hy hne (Heap.IsSliceOf.new ..) ⟨t, rfl⟩ ⟨t', rfl⟩ h0 h1 h2 hz fun s5 I5 => ?_
      exact wpAny_release ⟨σ, _, I5, q⟩
/-- xs[a:b] = e, xs an owned list -/
theorem j_setSl {lo hi : Expr} {i j : Int} {tp p2 : Pos} (jw : Nat) (he : E X δ O e (sLst R bs) O1) (ho : E X δ O1 o (sRef q) O2) (hl : E X δ O2 lo (sInt i) O3) (hu : E X δ O3 hi (sInt j) O4) (h0 : 0 ≤ i) (h1 : i ≤ j) (h2 : j ≤ as.length) (hz : as.length + bs.length ≤ sizeLine)
    (k : J X B δ (O4.set jw (oLst q R (as.take i.toNat ++ bs ++ as.drop j.toNat))) rest D) (hw : O4[jw]? = some (oLst q R as) := by rfl) (hss : swapsWithSole [.Subscript o (.Slice (some lo) (some hi) none p2) tp] e pos.line X.env = pure false := by first | exact sole_plain rfl | rfl) (hsw : swappedStores [.Subscript o (.Slice (some lo) (some hi) none p2) tp] e X.env = pure none := by rfl)
    (hpl : ∀ v, assign (.Subscript o (.Slice (some lo) (some hi) none p2) tp) X.env v = (do
      let ov ← holding [v] (eval o X.env) -- -
      let iv ← holding [v, ov] (eval (.Slice (some lo) (some hi) none p2) X.env)
      standAt tp
      holding [v, ov, iv] (setItem ov iv v) -- -
      release [iv, v, ov] []) := by intro _; rfl) : J X B δ O (.Assign [.Subscript o (.Slice (some lo) (some hi) none p2) tp] e pos :: rest) D :=
  j_cons fun σ G H st => s_of (ps_asg pe_w (pg_sl pe_w (po_some pe_w) (po_some pe_w) hpl) hss hsw) (by
    refine he B σ G H _ st fun v G1 H1 m1 st1 hv => ?_
    refine ho B σ G1 H1 _ st1 fun w G2 H2 m2 st2 hw2 => ?_
    refine hl B σ G2 H2 _ st2 fun y G3 H3 m3 st3 hy => ⟨i, hy, ?_⟩
    refine hu B σ G3 H3 _ st3 fun z G4 H4 m4 st4 hz4 => ⟨j, hz4, ?_⟩
    cases hw2
    obtain ⟨b0, ys, rfl, hb, rb⟩ := hv
    have m := m2.trans (m3.trans m4)
    obtain ⟨vs, hq, gq, r⟩ := own_lst st4 hw
    have hb4 := m _ _ hb
    refine ⟨q, b0, vs, ys, i, j, rfl, rfl, rfl, rfl, hq, st4.stp.gh _ _ hb4, (fun z => by rw [z, hb4] at gq; cases gq), h0, h1, by rw [r.length]; exact h2, by rw [r.length, rb.length]; exact hz, ?_⟩
    exact k σ G4 _ (st4.putI (w' := oLst q R (as.take i.toNat ++ bs ++ as.drop j.toNat)) hw rfl ⟨_, rfl, ((r.take _).append (rb.mono m)).append (r.drop _)⟩))
theorem o_addS {t v : Str} (h : t.length + v.length ≤ sizeLine) : OpE X (binaryOp .Add) (sStr t) (sStr v) (sStr (t ++ v)) :=
  ⟨_, op_add_str, fun B δ O σ G H Q x y st hx hy k => ⟨t, v, hx, hy, h, k _ G H (Same.refl _) st rfl⟩⟩
end
end Gd

/-! t[::-1] of a tuple -/
namespace Gd
open PySem L2 PySem.Spec PyProof.Rows
theorem rev_pick (xs : Array Value) : ((List.range xs.size).filterMap fun (k : Nat) => xs[(((xs.size : Int) - 1) + (k : Int) * (-1)).toNat]?) = xs.toList.reverse := by
  have h : ∀ n, n ≤ xs.size → ((List.range n).filterMap fun (k : Nat) => xs[(((xs.size : Int) - 1) + (k : Int) * (-1)).toNat]?) = xs.toList.reverse.take n := by
    intro n
    induction n with
    | zero => intro _; simp
    | succ n ih =>
      intro hn
      have e : (((xs.size : Int) - 1) + (n : Int) * (-1)).toNat = xs.size - 1 - n := by omega
      rw [List.range_succ, List.filterMap_append, ih (by omega), List.take_succ]
      congr 1
      have h1 : xs.toList.reverse[n]? = xs[xs.size - 1 - n]? := by
        rw [List.getElem?_reverse (by rw [Array.length_toList]; omega), Array.length_toList, Array.getElem?_toList]
      rw [h1]
      have h2 : xs[xs.size - 1 - n]? = some (xs[xs.size - 1 - n]'(by omega)) := Array.getElem?_eq_getElem (by omega)
      rw [h2]
      show List.filterMap _ [n] = [_]
      rw [List.filterMap_cons, e, h2]
      rfl
  rw [h _ (Nat.le_refl _), List.take_of_length_le (by rw [List.length_reverse, Array.length_toList]; exact Nat.le_refl _)]
section
variable {w : World} {prog : Program} {A : Around} {s : Shared} {E : Value → Shared → Prop}
theorem applied_rev {sl : Addr} {vs : Value} {n : Nat} {Q : Int × Int × Nat → Shared → Prop} (hs : s.heap.IsSliceOf sl .none .none vs) (ps : IsPart vs (some (-1)))
    (h : Q ((n : Int) - 1, -1, n) s) : wpAny (model prog w) A (Builtin.Slice.sliceApplied (.ref sl) (pure (n : Int))) Q E s := by
  obtain ⟨ob, gob, cob, dob⟩ := id hs
  (unfold Builtin.Slice.sliceApplied Builtin.Slice.sliceFields)
  refine wpAny_bind (wpAny_bind (wpAny_field gob dob (x := .none) rfl (wpAny_bind (wpAny_field gob dob (x := .none) rfl (wpAny_bind (wpAny_field gob dob (x := vs) rfl (wpAny_pure ?_)))))))
  refine wpAny_bind (HT.slicePart_ ps ?_)
  show wpAny _ _ (if ((-1 : Int) == 0) = true then _ else _) _ _ s
  rw [if_neg (by decide)]
  refine wpAny_bind (slicePart_none (wpAny_bind (slicePart_none (wpAny_bind (wpAny_pure ?_)))))
  have e : Builtin.Slice.slicePlaces ((n : Int) - 1) (-1) (-1) = n := by
    (unfold Builtin.Slice.slicePlaces)
    (have h1 : ¬ ((-1 : Int) > 0) := by decide)
    rw [if_neg h1]
    split
    · rename_i hl
      rw [show (- -1 : Int) = 1 from rfl, Int.ediv_one]
      omega
    · rename_i hl
      have : n = 0 := by omega
      subst this
      rfl
  show wpAny _ _ (pure ((n : Int) - 1, (-1 : Int), Builtin.Slice.slicePlaces ((n : Int) - 1) (-1) (-1))) _ _ s
  rw [e]
  exact wpAny_pure h
theorem getItem_tup_rev {t sl : Addr} {items : Array Value} {vs : Value} {Q : Value → Shared → Prop} (ht : IsTup s.heap t items) (hs : s.heap.IsSliceOf sl .none .none vs) (ps : IsPart vs (some (-1)))
    (h : Q (.ref s.heap.objs.size) { s with heap := s.heap.push { cls := .type "tuple", data := .seq items.toList.reverse.toArray } }) (hsz : items.size ≤ sizeLine) : wpAny (model prog w) A (getItem (.ref t) (.ref sl)) Q E s := by
  have hok : sizeOk (.seq items.toList.reverse.toArray) := by
    show items.toList.reverse.toArray.size ≤ sizeLine
    rw [List.size_toArray, List.length_reverse, Array.length_toList]
    exact hsz
  obtain ⟨ob, gob, cob, dob⟩ := id hs
  have hT : s.TypeIs (.ref sl) "slice" := ⟨ob, gob, cob⟩
  unfold getItem
  try with_reducible refine wpAny_holding ?_ -- -
  first | refine wpAny_bind (wpAny_pure ?_) | skip -- -
  refine wpAny_bind (wpAny_sequenceKey ht.typeIs (by decide) (wpAny_bind (wpAny_callSpecial?_slot (name := Str.ofString "__getitem__") ht.typeIs slot_tuple_getitem (wpAny_call_entry slot_tuple_getitem ht.typeIs entry_tuple_getitem ?_ (args_tuple_getitem _ _)))))
  (show wpAny _ _ (Builtin.Tuple.tupleItemsOf (.ref t) >>= _) _ _ s)
  refine wpAny_bind (tupleItemsOf_ ht (wpAny_bind (wpAny_typeOf hT ?_)))
  rw [if_pos (by decide)]
  refine wpAny_bind (applied_rev hs ps ?_)
  have hno : ¬ (((((items.size : Int) - 1) == 0) && ((-1 : Int) == 1) && (items.size == items.size)) = true) := by simp
  show wpAny _ _ (if ((((items.size : Int) - 1) == 0) && ((-1 : Int) == 1) && (items.size == items.size)) = true then _ else _) _ _ s
  rw [if_neg hno, rev_pick]
  first
    | exact wpAny_bind (m := Builtin.Tuple.tupleExact _) (wpAny_newObj_type (wpAny_pure ⟨_, rfl, wpAny_pure h⟩) hok)
    | exact wpAny_bind (m := Builtin.Tuple.tupleExact _) (wpAny_newObj_type (wpAny_bind (wpAny_pure (wpAny_pure ⟨_, rfl, wpAny_pure h⟩))) hok)
    | exact wpAny_bind (wpAny_bind (m := Builtin.Tuple.tupleExact _) (wpAny_newObj_type (wpAny_pure (wpAny_pure ⟨_, rfl, wpAny_pure h⟩)) hok))
    | exact wpAny_bind (wpAny_bind (m := Builtin.Tuple.tupleExact _) (wpAny_newObj_type (wpAny_pure ⟨_, rfl, wpAny_pure h⟩) hok))
end
section
variable {X : Cx} {δ : List (Option Slot)} {O O1 : List Own} {e : Expr} {pos : Pos} {α : Type} {R : α → Slot} {as : List α}
def tRevT (K : PySem.W.Frag) (te : TE) : TE := fun σ H Q => te σ H fun x H1 => ∃ a xs, x = .ref a ∧ SqT K H1 a xs ∧ ∀ p, H1 p = none → Q (.ref p) (upd H1 p (.tup xs.reverse))
theorem pe_revT {te : TE} {k : Nat} {p1 p2 p3 : Pos} (he : PE X e te) : PE X (.Subscript e (.Slice none none (some (.UnaryOp .USub (.Constant (.int 1) k p1) p2)) p3) pos) (tRevT X.K te) := by
  (refine ⟨fun pins s σ H Q I h => ?_⟩)
  refine Subscript_ (thn (he.run pins s σ H _ I h) fun v s1 ⟨x, H1, I1, r1, a, xs, ex, hx, q⟩ => ?_)
  subst ex
  cases r1
  (have hst : PO X (some (.UnaryOp .USub (.Constant (.int 1) k p1) p2)) (tPart (tUn (rU fun i => .int (-i)) (tC (.int 1)))) := po_some (pe_un un_neg pe_int))
  (refine wpAny_Slice (thn (po_none.run pins s1 σ H1 (fun o H2 => o = none ∧ H2 = H1) I1 ⟨rfl, rfl⟩) fun vl s2 ⟨l, H2, I2, pl, el, e2⟩ => ?_))
  subst el e2
  (refine thn (po_none.run pins s2 σ H2 (fun o H3 => o = none ∧ H3 = H2) I2 ⟨rfl, rfl⟩) fun vu s3 ⟨u, H3, I3, pu, eu, e3⟩ => ?_)
  subst eu e3
  (refine thn (hst.run pins s3 σ H3 (fun o H4 => o = some (-1) ∧ H4 = H3) I3 ⟨1, rfl, -1, rfl, rfl, rfl⟩) fun vs s4 ⟨o, H4, I4, ps, eo, e4⟩ => ?_)
  subst eo e4
  cases pl
  cases pu
  have I5 : Inv X pins σ H4 { s4 with heap := s4.heap.push { cls := .type "slice", data := .fields #[.none, .none, vs] } } := I4.kept (t' := s4.toks) fun b ob q => Heap.get?_push_of_some _ q
  obtain ⟨its, r, ht, hz⟩ := I5.tuple hx
  have hlen := r.length
  show wpAny (model X.prog X.w) X.A (subscriptTail e (.Slice none none (some (.UnaryOp .USub (.Constant (.int 1) k p1) p2)) p3) (.ref a) (.ref s4.heap.objs.size)) (EP X pins σ Q) X.xe { s4 with heap := s4.heap.push { cls := .type "slice", data := .fields #[.none, .none, vs] } }
  refine tail_any (ops := [.ref a, .ref s4.heap.objs.size]) ht.typeIs (slot_tuple_getitem.lookup) ?_ (by with_unfolding_all rfl)
  refine getItem_tup_rev ht (Heap.IsSliceOf.new _ .none .none vs) ps ?_ (by rw [List.size_toArray]; omega)
  refine ⟨.ref _, _, I5.laid (t' := s4.toks) (o := .tup xs.reverse) (fun b ob q => Heap.get?_push_of_some _ q) (Nat.le_refl _) ?_, rfl, q _ (I5.hok.fresh (Nat.le_refl _))⟩
  exact ⟨by rw [List.length_reverse]; exact hz, _, r.reverse, IsTup.new _ _⟩
theorem e_revT {k : Nat} {p1 p2 p3 : Pos} (he : E X δ O e (sTupl R as) O1) : E X δ O (.Subscript e (.Slice none none (some (.UnaryOp .USub (.Constant (.int 1) k p1) p2)) p3) pos) (sTupl R as.reverse) O1 := by
  intro B σ G H Q st q
  refine e_of (pe_revT pe_w) ?_
  refine he B σ G H _ st fun x G1 H1 m1 st1 hx => ?_
  obtain ⟨p, vs, rfl, hp, r⟩ := hx
  refine ⟨p, vs, rfl, sqT_up st1.stp.gh hp, fun z hz => ?_⟩
  have sg : Same G1 (upd G1 z (.tup vs.reverse)) := same_new (gnone st1.stp hz)
  exact q _ _ _ (m1.trans sg) (st1.freshG hz) ⟨z, _, rfl, SqT.of upd_same, r.reverse.mono sg⟩
end
end Gd

namespace Gd
open PySem L2
section
variable {X : Cx} {B B1 : Bs} {δ δ' : List (Option Slot)} {O O1 O2 O3 : List Own} {a b c e o : Expr} {es : List Expr} {x : Str} {p pos apos : Pos} {s s1 s2 s3 : Slot} {ss : List Slot} {α β : Type} {R : α → Slot} {S : β → Slot} {D : Ends} {rest sts : List Stmt} {u : Bool} {as bs : List α} {q : Addr}
/-- s[i] of a text -/
theorem i_str {z : Str} {i : Int} {n : Nat} (h : atI z.cps.toList i = some n) (hz : z.length ≤ sizeLine) : IxE X (sStr z) (sInt i) (sStr ⟨#[n]⟩) :=
  ⟨_, ix_str, fun B δ O σ G H Q v w st hv hw k => by
    cases hv
    cases hw
    exact ⟨z, i, n, rfl, rfl, hz, h, k _ G H (Same.refl _) st rfl⟩⟩
theorem op_mulS1 : OpR X (binaryOp .Mult) (fun x y H Q => ∃ z, x = .str z ∧ y = .int 1 ∧ Q (.str z) H) := by
  intro pins s σ H x y v w Q I rx ry h
  obtain ⟨z, rfl, rfl, q⟩ := h
  obtain ⟨t, rfl⟩ := rx
  obtain ⟨t', rfl⟩ := ry
  refine PySem.P.mul_str (by decide) (fun _ h => ?_) (fun _ h => ?_) ?_
  · simp at h
  · simp at h
  · rw [if_neg (by decide), if_pos (by simp)]
    (exact ⟨.str z, H, I, ⟨t, rfl⟩, q⟩)
theorem o_mulS1 {z : Str} : OpE X (binaryOp .Mult) (sStr z) (sInt 1) (sStr z) :=
  ⟨_, op_mulS1, fun B δ O σ G H Q v w st hv hw k => by
    cases hv
    cases hw
    exact ⟨z, rfl, rfl, k _ G H (Same.refl _) st rfl⟩⟩
theorem o_inL {z : Str} {ts : List Str} : OpE X (compareOp .In) (sStr z) (sLst sStr ts) (sBl (decide (z ∈ ts))) :=
  ⟨_, op_in_seq, fun B δ O σ G H Q v w st hv hw k => by
    obtain ⟨p, vs, rfl, hp, r⟩ := hw
    cases hv
    have e := r.vals (f := V.str)
    subst e
    refine ⟨p, _, rfl, .inl (SqL.of (st.stp.gh _ _ hp)), rfl, flat_strs, ?_⟩
    rw [if_neg Bool.false_ne_true, inV_str]
    exact k _ G H (Same.refl _) st rfl⟩
theorem eqV_str {t z : Str} : eqV (.str t) (.str z) = decide (t = z) := by
  unfold eqV
  by_cases e : t = z
  · subst e; simp
  · simp [e]
theorem idxOf_le {z : Str} : ∀ {ts : List Str} {m : Nat}, ts[m]? = some z → ts.idxOf z ≤ m
  | [], m, h => by simp at h
  | t :: ts, 0, h => by simp at h; subst h; simp
  | t :: ts, m + 1, h => by
    have ih := idxOf_le (ts := ts) (z := z) (m := m) (by simpa using h)
    rw [List.idxOf_cons]
    cases (t == z) <;> simp <;> omega
/-- xs.index(e), xs a list of texts that holds it -/
theorem e_index {ts : List Str} {z : Str} (ho : E X δ O o (sLst sStr ts) O1) (he : E X δ O1 e (sStr z) O2) (hm : z ∈ ts)
    (hbase : noCall0 o = true := by rfl)
    (hfew : ((backTo pos (starEach (e :: []) X.env)).all (fun x => !x.1) && (backToKw pos (keywordEach [] X.env)).all (fun x => x.1.isSome)
      && decide ((e :: []).length + ([] : List Keyword).length + (if ([] : List Keyword).isEmpty then 0 else 1) < 30)) = true := by rfl)
    (hline : (apos.endLine == pos.line) = true := by rfl) (hs : noStar e = true := by rfl) (hplain : (backTo pos (starEach [] X.env)).any (·.1) = false := by rfl) :
    E X δ O (.Call (.Attribute o "index" apos) [e] [] pos) (sInt (ts.idxOf z : Nat)) O2 := by
  intro B σ G H Q st k
  refine e_of (pe_bm PySem.F.plainAttrs_list PySem.F.slot_list_index PySem.F.type_list_index mt_index pe_w (pa_cons pe_w pa_nil (starEach_plain hs)) (attributeBase_plain hbase) hfew hline (starEach_plain hs) hplain) ?_
  refine ho B σ G H _ st fun v G1 H1 m1 st1 hv => ?_
  obtain ⟨p, vs, rfl, hp, r⟩ := hv
  have ev := r.vals (f := V.str)
  subst ev
  refine ⟨.inl ⟨rfl, _, SqL.of (st1.stp.gh _ _ hp)⟩, ?_⟩
  refine he B σ G1 H1 _ st1 fun w G2 H2 m2 st2 hw2 => ?_
  cases hw2
  have hlt : ts.idxOf z < ts.length := List.idxOf_lt_length_of_mem hm
  refine ⟨p, ts.map V.str, .str z, ts.idxOf z, .str z, rfl, rfl, SqL.of (st2.stp.gh _ _ (m2 _ _ hp)), rfl, flat_strs, ?_, ?_, fun m z' hmj hz' => ?_, ?_⟩
  · rw [List.getElem?_map, List.getElem?_eq_getElem hlt, List.getElem_idxOf]
    rfl
  · rw [eqV_str]; simp
  · rw [List.getElem?_map] at hz'
    have hm' : m < ts.length := Nat.lt_trans hmj hlt
    rw [List.getElem?_eq_getElem hm'] at hz'
    cases hz'
    rw [eqV_str, decide_eq_false_iff_not]
    intro e
    have := idxOf_le (ts := ts) (z := z) (m := m) (by rw [List.getElem?_eq_getElem hm', e])
    omega
  · exact k _ G2 H2 (m1.trans m2) st2 rfl
end
end Gd

namespace Gd
open PySem L2
section
variable {X : Cx} {B B1 : Bs} {δ δ' : List (Option Slot)} {O O1 O2 O3 : List Own} {a b c e o tg : Expr} {es : List Expr} {x : Str} {p pos apos : Pos} {s s1 s2 s3 : Slot} {ss : List Slot} {α β : Type} {R : α → Slot} {S : β → Slot} {D : Ends} {rest sts : List Stmt} {u : Bool} {as bs : List α} {q : Addr}
/-- a, b, .. = e -/
theorem j_asgT {ts : α → List (Nat × Slot)} {y : α} (ht : TGu X tg R ts) (he : E X δ O e (R y) O1) (k : J X B (setD δ (ts y)) O1 rest D) (hs : noCompr e = true := by rfl) (hw : swappedStores [tg] e X.env = pure none := by rfl) (h1 : (assignEach [tg] X.env).map (·.2) = [assign tg X.env] := by rfl) : J X B δ O (.Assign [tg] e pos :: rest) D := by
  obtain ⟨g, g1, g2⟩ := ht
  exact j_cons fun σ G H st => s_of (ps_asg pe_w g1 (sole_plain hs) hw h1) (he B σ G H _ st fun v G1 H1 m1 st1 hv => g2 B δ O1 σ G1 H1 y v _ st1 hv fun σ' st' => k σ' G1 H1 st')
/-- a tuple of three as data -/
theorem isD_tup3 {d1 d2 d3 : PyData} (h1 : IsD s1 d1) (h2 : IsD s2 d2) (h3 : IsD s3 d3) : IsD (sTup [s1, s2, s3]) (.tuple [d1, d2, d3]) := fun K G v q => by
  obtain ⟨p, vs, rfl, hp, r⟩ := q
  obtain ⟨v1, v2, v3, rfl, e1, e2, e3⟩ := alls3 r
  exact .tup hp (.cons (h1 _ _ _ e1) (.cons (h2 _ _ _ e2) (.cons (h3 _ _ _ e3) .nil)))
theorem el_starT1 {ws : List α} (h : E X δ O e (sTupl R ws) O1) : EL X δ O R [.Starred e p] ws O1 := by
  have := el_starT (p := p) h (el_nil (R := R))
  rwa [List.append_nil] at this
theorem el_star1 {ws : List α} (h : E X δ O e (sLst R ws) O1) : EL X δ O R [.Starred e p] ws O1 := by
  have := el_star (p := p) h (el_nil (R := R))
  rwa [List.append_nil] at this
theorem atI_neg1 {xs : List α} {v : α} (h : xs.getLast? = some v) : atI xs (-1) = some v := by
  obtain ⟨ys, rfl⟩ : ∃ ys, xs = ys ++ [v] := by
    rcases List.eq_nil_or_concat xs with rfl | ⟨ys, y, rfl⟩
    · simp at h
    · simp at h
      exact ⟨ys, by rw [h, List.concat_eq_append]⟩
  exact atI_last ys v
theorem last_ix {xs : List α} {v : α} (h : xs.getLast? = some v) : xs[xs.length - 1]? = some v := by
  rw [← h, List.getLast?_eq_getElem?]
/-- [x for x in iter if test] -/
theorem ew_filter1 {elt iter : Expr} {scope : Scope} {own : List (Str × Nat)} {px : Pos} (i : Nat) (t : α → Bool) (hN : X.N.Nodup) (hi : IT X δ O (.Name x px) iter R as O1) (ok : BlkOk X.N X.env.scope scope own)
    (htst : ∀ y, y ∈ as → ∀ s H C cl fp, T (Blk X scope s H C cl fp) ((wipeD δ (own.map (·.2))).set i (some (R y))) O1 c (t y) O1)
    (helt : ∀ y, y ∈ as → t y = true → ∀ s H C cl fp, E (Blk X scope s H C cl fp) ((wipeD δ (own.map (·.2))).set i (some (R y))) O1 elt (R y) O1) (hz : as.length ≤ sizeLine)
    (hin : i ∈ own.map (·.2) := by decide) (hix : X.N[i]? = some x := by rfl) (hx : ∀ s H C cl fp, Loc (Blk X scope s H C cl fp).env.scope x := by intro _ _ _ _ _; first | exact Or.inl rfl | exact Or.inr rfl)
    (hf : ∀ s H C cl fp, (Blk X scope s H C cl fp).fn x = true ∨ (Blk X scope s H C cl fp).env.scope.names.lookup x = some .local := by intro _ _ _ _ _; first | exact .inl rfl | exact .inr rfl)
    (hc : X.calm = true := by rfl) (hs : noSet iter = true := by rfl) :
    EW X δ O (.ListComp elt [⟨.Name x px, iter, [c], 0⟩] scope pos) (fun p => oLst p R (as.filter t)) O1 := by
  have h := ew_filter (pos := pos) (S := R) i t (fun y => y) hN hi ok htst helt hz hin hix hx hf hc hs
  simpa only [List.map_id'] using h
/-- [elt for a, b, c in iter] -/
theorem ew_mapT3 {elt iter : Expr} {scope : Scope} {own : List (Str × Nat)} {r1 r2 r3 : α → Slot} (i j l : Nat) {x1 x2 x3 : Str} {p1 p2 p3 p4 : Pos} {kk : Nat} (f : α → β) (hN : X.N.Nodup) (hi : IT X δ O (.Tuple [.Name x1 p1, .Name x2 p2, .Name x3 p3] kk p4) iter (fun y => sTup [r1 y, r2 y, r3 y]) as O1) (ok : BlkOk X.N X.env.scope scope own)
    (helt : ∀ y, y ∈ as → ∀ s H C cl fp, E (Blk X scope s H C cl fp) (setD (wipeD δ (own.map (·.2))) [(i, r1 y), (j, r2 y), (l, r3 y)]) O1 elt (S (f y)) O1) (hz : as.length ≤ sizeLine)
    (hin : ∀ z ∈ [i, j, l], z ∈ own.map (·.2) := by decide) (h1 : X.N[i]? = some x1 := by rfl) (h2 : X.N[j]? = some x2 := by rfl) (h3 : X.N[l]? = some x3 := by rfl)
    (hx1 : ∀ s H C cl fp, Loc (Blk X scope s H C cl fp).env.scope x1 := by intro _ _ _ _ _; first | exact Or.inl rfl | exact Or.inr rfl) (hx2 : ∀ s H C cl fp, Loc (Blk X scope s H C cl fp).env.scope x2 := by intro _ _ _ _ _; first | exact Or.inl rfl | exact Or.inr rfl) (hx3 : ∀ s H C cl fp, Loc (Blk X scope s H C cl fp).env.scope x3 := by intro _ _ _ _ _; first | exact Or.inl rfl | exact Or.inr rfl)
    (hf1 : ∀ s H C cl fp, (Blk X scope s H C cl fp).fn x1 = true ∨ (Blk X scope s H C cl fp).env.scope.names.lookup x1 = some .local := by intro _ _ _ _ _; first | exact .inl rfl | exact .inr rfl) (hf2 : ∀ s H C cl fp, (Blk X scope s H C cl fp).fn x2 = true ∨ (Blk X scope s H C cl fp).env.scope.names.lookup x2 = some .local := by intro _ _ _ _ _; first | exact .inl rfl | exact .inr rfl) (hf3 : ∀ s H C cl fp, (Blk X scope s H C cl fp).fn x3 = true ∨ (Blk X scope s H C cl fp).env.scope.names.lookup x3 = some .local := by intro _ _ _ _ _; first | exact .inl rfl | exact .inr rfl)
    (hc : X.calm = true := by rfl) (hcb : ∀ s H C cl fp, (Blk X scope s H C cl fp).calm = true := by intro _ _ _ _ _; rfl) (hs : noSet iter = true := by rfl) :
    EW X δ O (.ListComp elt [⟨.Tuple [.Name x1 p1, .Name x2 p2, .Name x3 p3] kk p4, iter, [], 0⟩] scope pos) (fun p => oLst p S (as.map f)) O1 := by
  have h := ew_compG (pos := pos) (S := S) (g := gTup X.K 3 (gCons (gName i) (gCons (gName j) (gCons (gName l) gNil)))) (fun y => [(i, r1 y), (j, r2 y), (l, r3 y)]) [i, j, l] (fun _ => O1) (fun _ => O1) (fun _ => true) (fun k => (as.take k).map f) hN
    (fun s H C cl fp => pg_tup (hcb s H C cl fp) (pgs_cons (pg_name hN h1 (hx1 s H C cl fp) (hf1 s H C cl fp)) (pgs_cons (pg_name hN h2 (hx2 s H C cl fp) (hf2 s H C cl fp)) (pgs_cons (pg_name hN h3 (hx3 s H C cl fp) (hf3 s H C cl fp)) pgs_nil))))
    (fun B δ O σ G H y v Q st hv k => by
      obtain ⟨p, vs, rfl, hp, h⟩ := hv
      obtain ⟨v1, v2, v3, rfl, e1, e2, e3⟩ := alls3 h
      refine ⟨p, _, rfl, sqT_up st.stp.gh hp, rfl, v1, [v2, v3], rfl, v2, [v3], rfl, v3, [], rfl, rfl, k _ (((st.set e1).set e2).set e3) fun vs hvs => ?_⟩
      rw [wipe_set (hvs l (by simp)), wipe_set (hvs j (by simp)), wipe_set (hvs i (by simp))])
    hi ok (fun k y hy s H C cl fp => ts_nil)
    (fun k y hy _ => ⟨f y, by show (as.take (k + 1)).map f = _; rw [take_succ hy, List.map_append]; rfl, fun s H C cl fp => helt y (List.mem_of_getElem? hy) s H C cl fp⟩) (fun k _ h => by cases h) rfl hz hin (.inl rfl) hc hs
  simpa only [List.take_length] using h
end
end Gd

/-! Walks' ends while an exception is handled -/
namespace Gd
open L2 HotX PySem PySem.Spec PyProof.Rows
section
variable {prog : Program} {w : World} {A : Around} {E : Value → Shared → Prop} {s : Shared} {x1 it a : Addr}
theorem hot_ne {h : Heap} {o : Obj} {fv : Array Value} (hot : HotAt A x1 h) (e : h.get? it = some o) (d : o.data = .fields fv) (hz : fv.size = 2) : x1 ≠ it := by
  obtain ⟨_, o1, v1, h1, d1, c1⟩ := hot
  rintro rfl
  rw [e] at h1; cases h1
  rw [d] at d1; cases d1
  have := (Array.getElem?_eq_some_iff.mp c1).1
  omega
theorem hot_upd {h : Heap} {f : Obj → Obj} (hot : HotAt A x1 h) (hne : x1 ≠ it) : HotAt A x1 (h.update it f) := by
  obtain ⟨h0, o1, v1, h1, d1, c1⟩ := hot
  exact ⟨h0, o1, v1, (Heap.get?_update_other _ _ (Ne.symm hne)).trans h1, d1, c1⟩
theorem hot_kept {h h' : Heap} (hot : HotAt A x1 h) (k : ∀ b o, h.get? b = some o → h'.get? b = some o) : HotAt A x1 h' := by
  obtain ⟨h0, o1, v1, h1, d1, c1⟩ := hot
  exact ⟨h0, o1, v1, k _ _ h1, d1, c1⟩
theorem ext_hot {h : Heap} {f g : Obj → Obj} {p q : Obj} : Heap.ExtBut it h ((((h.update it f).push p).push q).update ((h.update it f).push p).objs.size g) := fun b o hb e => by
  have e1 : (h.update it f).get? b = some o := (Heap.get?_update_other _ _ (Ne.symm hb)).trans e
  have e2 := Heap.get?_push_of_some (h := h.update it f) p e1
  rw [Heap.get?_update_other _ _ (Nat.ne_of_gt (Heap.lt_size e2))]
  exact Heap.get?_push_of_some _ e2
theorem list_end_hot {l : Addr} {i : Nat} {items} {Q : Option Value → Shared → Prop} (hot : HotAt A x1 s.heap) (hit : s.heap.IsListIter it l i) (hl : s.heap.IsList l items) (hx : items[i]? = none)
    (hQ : ∀ h', Heap.ExtBut it s.heap h' → Q none { s with heap := h' }) : wpAny (model prog w) A (pyNext (.ref it)) Q E s := by -- -
  obtain ⟨o, ho, hc, hd⟩ := id hit; obtain ⟨ol, hol, _, nl, hdl⟩ := hl
  have hne : x1 ≠ it := hot_ne hot ho hd rfl
  unfold pyNext
  refine wpAny_bind (wpAny_attempt (wpAny_callSpecial?_slot (name := Str.ofString "__next__") hit.typeIs slot_listiter_next (wpAny_call_entry slot_listiter_next hit.typeIs entry_listiter_next ?_ (args_listiter_next _))))
  show wpAny _ _ (field (.ref it) 0 >>= _) _ _ s; refine wpAny_bind (wpAny_field ho hd (x := .ref l) rfl ?_)
  show wpAny _ _ (if (Value.ref l == Value.none) = true then _ else _) _ _ s; rw [if_neg (show ¬ ((Value.ref l == Value.none) = true) from Bool.false_ne_true)]
  show wpAny _ _ (field (.ref it) 1 >>= _) _ _ s; refine wpAny_bind (wpAny_field ho hd (x := .int i 0) rfl ?_)
  show wpAny _ _ (seqItems? (.ref l) >>= _) _ _ s; refine wpAny_bind (wpAny_seqItems hol hdl ?_)
  (simp only [Int.toNat_natCast, hx])
  (refine wpAny_bind (wpAny_rule (wpAny_bind (wpAny_setField ho hd (by simp) ?_))))
  have hotu := hot_upd (f := Obj.mapFields (·.setIfInBounds 0 Value.none)) hot hne
  show wpAny _ _ (newExc (.type "StopIteration") [] >>= _) _ _ _; refine wpAny_bind ?_; simp only [newExc, newTuple]
  refine wpAny_bind (wpAny_newObj_type ?_ (by size_fits)); refine wpAny_bind (m := firstArgMember _ _) (wpAny_of_eq (a := Value.none) (by first | rfl | (simp only [firstArgMember]; rfl)) ?_); refine wpAny_newObj_type ?_ (by size_fits)
  refine raiseNew_hot (hot_kept hotu fun b o e => Heap.get?_push_of_some _ (Heap.get?_push_of_some _ e)) (by obtain ⟨_, o1, v1, h1, d1, c1⟩ := hotu; exact Nat.ne_of_lt (Heap.lt_size (Heap.get?_push_of_some _ h1))) (Heap.get?_push_size _ rfl) rfl (by first | (simp; done) | (simp; omega) | (simp only [Array.size_append]; simp; omega)) ?_
  (refine wpAny_bind (wpAny_isInstance (T := "StopIteration") (b := true) ⟨_, Heap.get?_update_self _ (Heap.get?_push_size _ rfl) rfl, rfl⟩ isSubtype_stop ?_))
  exact wpAny_pure (hQ _ ext_hot)
theorem tuple_end_hot {t : Addr} {i : Nat} {items} {Q : Option Value → Shared → Prop} (hot : HotAt A x1 s.heap) (hit : s.heap.IsTupleIter it t i) (ht : s.heap.IsTuple t items) (hx : items[i]? = none)
    (hQ : ∀ h', Heap.ExtBut it s.heap h' → Q none { s with heap := h' }) : wpAny (model prog w) A (pyNext (.ref it)) Q E s := by -- -
  obtain ⟨o, ho, hc, hd⟩ := id hit; obtain ⟨ol, hol, _, nl, hdl⟩ := ht
  have hne : x1 ≠ it := hot_ne hot ho hd rfl
  unfold pyNext
  refine wpAny_bind (wpAny_attempt (wpAny_callSpecial?_slot (name := Str.ofString "__next__") hit.typeIs F.slot_tuple_iterator_next (wpAny_call_entry F.slot_tuple_iterator_next hit.typeIs F.entry_tuple_iterator_next ?_ (F.args_tuple_iterator_next_1 _))))
  show wpAny _ _ (field (.ref it) 0 >>= _) _ _ s; refine wpAny_bind (wpAny_field ho hd (x := .ref t) rfl ?_)
  show wpAny _ _ (if (Value.ref t == Value.none) = true then _ else _) _ _ s; rw [if_neg (show ¬ ((Value.ref t == Value.none) = true) from Bool.false_ne_true)]
  show wpAny _ _ (field (.ref it) 1 >>= _) _ _ s; refine wpAny_bind (wpAny_field ho hd (x := .int i 0) rfl ?_)
  show wpAny _ _ (seqItems? (.ref t) >>= _) _ _ s; refine wpAny_bind (wpAny_seqItems hol hdl ?_)
  (simp only [Int.toNat_natCast, hx])
  (refine wpAny_bind (wpAny_rule (wpAny_bind (wpAny_setField ho hd (by simp) ?_))))
  have hotu := hot_upd (f := Obj.mapFields (·.setIfInBounds 0 Value.none)) hot hne
  show wpAny _ _ (newExc (.type "StopIteration") [] >>= _) _ _ _; refine wpAny_bind ?_; simp only [newExc, newTuple]
  refine wpAny_bind (wpAny_newObj_type ?_ (by size_fits)); refine wpAny_bind (m := firstArgMember _ _) (wpAny_of_eq (a := Value.none) (by first | rfl | (simp only [firstArgMember]; rfl)) ?_); refine wpAny_newObj_type ?_ (by size_fits)
  refine raiseNew_hot (hot_kept hotu fun b o e => Heap.get?_push_of_some _ (Heap.get?_push_of_some _ e)) (by obtain ⟨_, o1, v1, h1, d1, c1⟩ := hotu; exact Nat.ne_of_lt (Heap.lt_size (Heap.get?_push_of_some _ h1))) (Heap.get?_push_size _ rfl) rfl (by first | (simp; done) | (simp; omega) | (simp only [Array.size_append]; simp; omega)) ?_
  (refine wpAny_bind (wpAny_isInstance (T := "StopIteration") (b := true) ⟨_, Heap.get?_update_self _ (Heap.get?_push_size _ rfl) rfl, rfl⟩ isSubtype_stop ?_))
  exact wpAny_pure (hQ _ ext_hot)
theorem tup_end_hot {t : Addr} {i : Nat} {items} {Q : Option Value → Shared → Prop} (hot : HotAt A x1 s.heap) (hit : IsTupIter s.heap it t i) (ht : IsTup s.heap t items) (hx : items[i]? = none)
    (hQ : ∀ h', Heap.ExtBut it s.heap h' → Q none { s with heap := h' }) : wpAny (model prog w) A (pyNext (.ref it)) Q E s := by -- -
  obtain ⟨o, ho, hc, hd⟩ := id hit; obtain ⟨ol, hol, _, nl, hdl⟩ := ht
  have hne : x1 ≠ it := hot_ne hot ho hd rfl
  unfold pyNext
  refine wpAny_bind (wpAny_attempt (wpAny_callSpecial?_slot (name := Str.ofString "__next__") hit.typeIs slot_tupleiter_next (wpAny_call_entry slot_tupleiter_next hit.typeIs entry_tupleiter_next ?_ (args_tupleiter_next _))))
  show wpAny _ _ (field (.ref it) 0 >>= _) _ _ s; refine wpAny_bind (wpAny_field ho hd (x := .ref t) rfl ?_)
  show wpAny _ _ (if (Value.ref t == Value.none) = true then _ else _) _ _ s; rw [if_neg (show ¬ ((Value.ref t == Value.none) = true) from Bool.false_ne_true)]
  show wpAny _ _ (field (.ref it) 1 >>= _) _ _ s; refine wpAny_bind (wpAny_field ho hd (x := .int i 0) rfl ?_)
  show wpAny _ _ (seqItems? (.ref t) >>= _) _ _ s; refine wpAny_bind (wpAny_seqItems hol hdl ?_)
  (simp only [Int.toNat_natCast, hx])
  (refine wpAny_bind (wpAny_rule (wpAny_bind (wpAny_setField ho hd (by simp) ?_))))
  have hotu := hot_upd (f := Obj.mapFields (·.setIfInBounds 0 Value.none)) hot hne
  show wpAny _ _ (newExc (.type "StopIteration") [] >>= _) _ _ _; refine wpAny_bind ?_; simp only [newExc, newTuple]
  refine wpAny_bind (wpAny_newObj_type ?_ (by size_fits)); refine wpAny_bind (m := firstArgMember _ _) (wpAny_of_eq (a := Value.none) (by first | rfl | (simp only [firstArgMember]; rfl)) ?_); refine wpAny_newObj_type ?_ (by size_fits)
  refine raiseNew_hot (hot_kept hotu fun b o e => Heap.get?_push_of_some _ (Heap.get?_push_of_some _ e)) (by obtain ⟨_, o1, v1, h1, d1, c1⟩ := hotu; exact Nat.ne_of_lt (Heap.lt_size (Heap.get?_push_of_some _ h1))) (Heap.get?_push_size _ rfl) rfl (by first | (simp; done) | (simp; omega) | (simp only [Array.size_append]; simp; omega)) ?_
  (refine wpAny_bind (wpAny_isInstance (T := "StopIteration") (b := true) ⟨_, Heap.get?_update_self _ (Heap.get?_push_size _ rfl) rfl, rfl⟩ isSubtype_stop ?_))
  exact wpAny_pure (hQ _ ext_hot)
theorem ascii_end_hot {x : Str} {t : Tok} {i : Nat} {Q : Option Value → Shared → Prop} (hot : HotAt A x1 s.heap) (hit : s.heap.IsStrIter it "str_ascii_iterator" x t i) (hx : x.cps[i]? = none)
    (hQ : ∀ h', Heap.ExtBut it s.heap h' → Q none { s with heap := h' }) : wpAny (model prog w) A (pyNext (.ref it)) Q E s := by -- -
  obtain ⟨o, ho, hc, hd⟩ := id hit; have hne : x1 ≠ it := hot_ne hot ho hd rfl
  unfold pyNext
  refine wpAny_bind (wpAny_attempt (wpAny_callSpecial?_slot (name := Str.ofString "__next__") hit.typeIs F.slot_str_ascii_iterator_next (wpAny_call_entry F.slot_str_ascii_iterator_next hit.typeIs F.entry_str_ascii_iterator_next ?_ (F.args_str_ascii_iterator_next_1 _))))
  show wpAny _ _ (field (.ref it) 0 >>= _) _ _ s; refine wpAny_bind (wpAny_field ho hd (x := .str x t) rfl ?_)
  show wpAny _ _ (field (.ref it) 1 >>= _) _ _ s; refine wpAny_bind (wpAny_field ho hd (x := .int i 0) rfl ?_)
  (simp only [Int.toNat_natCast, hx])
  (refine wpAny_bind (wpAny_rule (wpAny_bind (wpAny_setField ho hd (by simp) (wpAny_bind (wpAny_letGo ?_))))))
  have hotu := hot_upd (f := Obj.mapFields (·.setIfInBounds 0 Value.none)) hot hne
  show wpAny _ _ (newExc (.type "StopIteration") [] >>= _) _ _ _; refine wpAny_bind ?_; simp only [newExc, newTuple]
  refine wpAny_bind (wpAny_newObj_type ?_ (by size_fits)); refine wpAny_bind (m := firstArgMember _ _) (wpAny_of_eq (a := Value.none) (by first | rfl | (simp only [firstArgMember]; rfl)) ?_); refine wpAny_newObj_type ?_ (by size_fits)
  refine raiseNew_hot (hot_kept hotu fun b o e => Heap.get?_push_of_some _ (Heap.get?_push_of_some _ e)) (by obtain ⟨_, o1, v1, h1, d1, c1⟩ := hotu; exact Nat.ne_of_lt (Heap.lt_size (Heap.get?_push_of_some _ h1))) (Heap.get?_push_size _ rfl) rfl (by first | (simp; done) | (simp; omega) | (simp only [Array.size_append]; simp; omega)) ?_
  (refine wpAny_bind (wpAny_isInstance (T := "StopIteration") (b := true) ⟨_, Heap.get?_update_self _ (Heap.get?_push_size _ rfl) rfl, rfl⟩ isSubtype_stop ?_))
  exact wpAny_pure (hQ _ ext_hot)
theorem wide_end_hot {x : Str} {t : Tok} {i : Nat} {Q : Option Value → Shared → Prop} (hot : HotAt A x1 s.heap) (hit : s.heap.IsStrIter it "str_iterator" x t i) (hx : x.cps[i]? = none)
    (hQ : ∀ h', Heap.ExtBut it s.heap h' → Q none { s with heap := h' }) : wpAny (model prog w) A (pyNext (.ref it)) Q E s := by -- -
  obtain ⟨o, ho, hc, hd⟩ := id hit; have hne : x1 ≠ it := hot_ne hot ho hd rfl
  unfold pyNext
  refine wpAny_bind (wpAny_attempt (wpAny_callSpecial?_slot (name := Str.ofString "__next__") hit.typeIs F.slot_str_iterator_next (wpAny_call_entry F.slot_str_iterator_next hit.typeIs F.entry_str_iterator_next ?_ (F.args_str_iterator_next_1 _))))
  show wpAny _ _ (field (.ref it) 0 >>= _) _ _ s; refine wpAny_bind (wpAny_field ho hd (x := .str x t) rfl ?_)
  show wpAny _ _ (field (.ref it) 1 >>= _) _ _ s; refine wpAny_bind (wpAny_field ho hd (x := .int i 0) rfl ?_)
  (simp only [Int.toNat_natCast, hx])
  (refine wpAny_bind (wpAny_rule (wpAny_bind (wpAny_setField ho hd (by simp) (wpAny_bind (wpAny_letGo ?_))))))
  have hotu := hot_upd (f := Obj.mapFields (·.setIfInBounds 0 Value.none)) hot hne
  show wpAny _ _ (newExc (.type "StopIteration") [] >>= _) _ _ _; refine wpAny_bind ?_; simp only [newExc, newTuple]
  refine wpAny_bind (wpAny_newObj_type ?_ (by size_fits)); refine wpAny_bind (m := firstArgMember _ _) (wpAny_of_eq (a := Value.none) (by first | rfl | (simp only [firstArgMember]; rfl)) ?_); refine wpAny_newObj_type ?_ (by size_fits)
  refine raiseNew_hot (hot_kept hotu fun b o e => Heap.get?_push_of_some _ (Heap.get?_push_of_some _ e)) (by obtain ⟨_, o1, v1, h1, d1, c1⟩ := hotu; exact Nat.ne_of_lt (Heap.lt_size (Heap.get?_push_of_some _ h1))) (Heap.get?_push_size _ rfl) rfl (by first | (simp; done) | (simp; omega) | (simp only [Array.size_append]; simp; omega)) ?_
  (refine wpAny_bind (wpAny_isInstance (T := "StopIteration") (b := true) ⟨_, Heap.get?_update_self _ (Heap.get?_push_size _ rfl) rfl, rfl⟩ isSubtype_stop ?_))
  exact wpAny_pure (hQ _ ext_hot)
end
end Gd

/-! Loops, comprehensions, calls while an exception is handled -/
namespace Gd
open L2 HotX PySem PySem.Spec PyProof.Rows
open L2H (Hot1 PinOk FnH RoomH roomH_of)
/-- in every state of X, p's object is the handled exception -/
structure Warm (X : Cx) (p : Addr × Obj) : Prop where
  hot : Hot1 X.A p
  ok : ∀ {pins : List (Addr × Obj)} {σ : L2.St} {H : Hp} {s : Shared}, Inv X pins σ H s → PinOk X.stack H s p
section
variable {X : Cx} {p : Addr × Obj} {pins : List (Addr × Obj)} {σ : L2.St} {H : Hp} {s : Shared}
theorem Warm.of_pn (hot : Hot1 X.A p) (hp : p ∈ X.pn) : Warm X p := ⟨hot, fun I => by
  have q := I.pin p (List.mem_append_left _ hp)
  exact ⟨q.1, q.2.1, fun hm => (List.mem_cons.mp (I.stkSub p.1 hm)).elim q.2.2.1 q.2.2.2.1, q.2.2.2.2⟩⟩
theorem Warm.at (W : Warm X p) (I : Inv X pins σ H s) : HotAt X.A p.1 s.heap := by
  obtain ⟨hh, v1, d1, c1⟩ := W.hot
  exact ⟨hh, p.2, v1, (W.ok I).get, d1, c1⟩
theorem Warm.blk (W : Warm X p) {scope : Scope} {ce : Env} {fp : List Addr} (I : Inv X pins σ H s) (hfp : p.1 ∉ fp) : Warm (X.blk s H scope ce fp) p := ⟨W.hot, fun I' => by
  have q := W.ok I
  have b := I'.base
  exact ⟨b.keep p.1 p.2 q.get q.free q.nofs hfp, b.free p.1 p.2 q.get q.free hfp, q.nofs, q.nocell⟩⟩
end
/-! ### unpacking -/
section
variable {prog : Program} {w : World} {A : Around} {E : Value → Shared → Prop} {s : Shared} {x1 : Addr}
theorem unpackItems_hot {t : Addr} {items : Array Value} {Q : List Value → Shared → Prop} (hot : HotAt A x1 s.heap) (ht : IsTup s.heap t items)
    (hQ : ∀ h', Heap.ExtBut s.heap.objs.size s.heap h' → Q items.toList { s with heap := h' }) : wpAny (model prog w) A (unpackItems (.ref t) items.size none) Q E s := by -- -
  (have hlt : t ≠ s.heap.objs.size := by obtain ⟨o, ho, _⟩ := ht; exact Nat.ne_of_lt (Heap.lt_size ho))
  have hx : x1 ≠ s.heap.objs.size := by obtain ⟨_, o, _, ho, _⟩ := hot; exact Nat.ne_of_lt (Heap.lt_size ho)
  unfold unpackItems
  refine wpAny_bind ?_
  unfold notIterableAtAll
  refine wpAny_bind (wpAny_specialOf ht.typeIs slot_tuple_iter.lookup ?_); refine wpAny_pure ?_
  (simp only [Bool.false_eq_true, if_false])
  (refine wpAny_bind (wpAny_holding (iter_tuple ht ?_)))
  refine wpAny_bind (wpAny_holding (draw_tuple hlt items.size 0 _ _ ⟨_, Heap.get?_push_size _ rfl, rfl, rfl⟩ (ht.push _) (by omega) fun g1 hitq hsq => ?_))
  have hall : List.take items.size (List.drop 0 items.toList) = items.toList := by rw [List.drop_zero]; exact List.take_of_length_le (by simp)
  rw [hall, if_neg (by simp)]
  have htq : IsTup g1 t items := (ht.push _).extBut hsq.extBut hlt
  have hotq : HotAt A x1 g1 := by
    obtain ⟨hh, o1, v1, h1, d1, c1⟩ := hot
    exact ⟨hh, o1, v1, hsq.extBut _ _ hx (Heap.get?_push_of_some _ h1), d1, c1⟩
  refine wpAny_bind (wpAny_holding (tup_end_hot hotq hitq htq (by simp) fun g2 heq => ?_))
  (simp only [Option.isSome_none, Bool.false_eq_true, if_false])
  exact wpAny_pure (hQ g2 fun b o hb e => heq b o hb (hsq.extBut b o hb (Heap.get?_push_of_some _ e)))
theorem assign_tup_hot {env : Env} {elts : List Expr} {k} {pos : Pos} {t : Addr} {items : Array Value} {Q : Unit → Shared → Prop} (hot : HotAt A x1 s.heap) (ht : IsTup s.heap t items)
    (hn : (assignEach elts env).length = items.size) (hstar : (assignEach elts env).findIdx? (·.1) = none) -- -
    (h : ∀ h', Heap.ExtBut s.heap.objs.size s.heap h' → wpAny (model prog w) A (assignInOrder ((assignEach elts env).map (·.2)) items.toList) Q E { s with heap := h' }) : wpAny (model prog w) A (assign (.Tuple elts k pos) env (.ref t)) Q E s := by
  rw [assign_Tuple]
  (refine wpAny_bind (wpAny_standAt ?_))
  unfold unpack
  rw [hn, hstar]
  exact wpAny_bind (wpAny_holding (unpackItems_hot hot ht h))
end
section
variable {X : Cx} {p : Addr × Obj} {pos : Pos}
theorem pg_tupW {es : List Expr} {k : Nat} {t : TGs} {n : Nat} (W : Warm X p) (h : PGs X es t)
    (hn : (assignEach es X.env).length = n := by rfl) (hst : (assignEach es X.env).findIdx? (·.1) = none := by rfl) : PG X (.Tuple es k pos) (gTup X.K n t) := by -- -
  (refine ⟨fun pins s σ H v u Q I r hw => ?_⟩)
  obtain ⟨a, xs, e1, hq, hl, hw⟩ := hw; subst e1; cases r
  (obtain ⟨its, rv, ht, hz⟩ := I.tuple hq)
  refine assign_tup_hot (W.at I) ht (by simp [hn, ← hl, rv.length]) hst fun h' hx => ?_
  have Iq : Inv X pins σ H { s with heap := h' } := I.kept (t' := s.toks) fun b o e => hx b o (Nat.ne_of_lt (Heap.lt_size e)) e
  exact h.run pins _ σ H xs _ Q Iq (by simpa using rv) hw
end
/-! ### what is walked -/
structure TurnW (P : Program) (w : World) (K : PySem.W.Frag) (tg : Expr) (J : It) (fp : List Addr) (it : Addr) (tn : Nat → Heap → Prop) : Prop where
  mem : it ∈ fp
  obj : ∀ i h, tn i h → ∀ b ∈ fp, ∃ o, h.get? b = some o ∧ ∀ v, o.data ≠ .cell v -- -
  keep : ∀ i h h', tn i h → (∀ b ∈ fp, ∀ o, h.get? b = some o → h'.get? b = some o) → tn i h' -- -
  item : ∀ (X : Cx), X.prog = P → X.w = w → X.K = K → ∀ x1 (i : Nat) (pins : List (Addr × Obj)) (s : Shared) (σ : L2.St) (H : Hp) (E : Value → Shared → Prop), Inv X pins σ H s → (∀ b ∈ fp, FpOk X pins H b) → tn i s.heap → J.go i H → HotAt X.A x1 s.heap →
    wpAny (model P w) X.A (pyNext (.ref it)) (fun r s1 => ∃ u, r = some u ∧ -- -
      wpAny (model P w) X.A (letOwnedTupleGo tg (.ref it) u) (fun _ s2 => ∃ x H', Inv X pins σ H' s2 ∧ RelV x u ∧ J.yld i H x H' ∧ tn (i + 1) s2.heap ∧ ∀ b ∈ fp, H' b = none) E s1) E s -- -
  done : ∀ (X : Cx), X.prog = P → X.w = w → X.K = K → ∀ x1 (i : Nat) (pins : List (Addr × Obj)) (s : Shared) (σ : L2.St) (H : Hp) (E : Value → Shared → Prop), Inv X pins σ H s → (∀ b ∈ fp, FpOk X pins H b) → tn i s.heap → J.stop i H → HotAt X.A x1 s.heap →
    wpAny (model P w) X.A (pyNext (.ref it)) (fun r s1 => r = none ∧ Inv X pins σ H s1) E s -- -
  self : ∀ (A : Around) (i : Nat) (s : Shared) (Q : Value → Shared → Prop) (E : Value → Shared → Prop), tn i s.heap → Q (.ref it) s → wpAny (model P w) A (pyIter (.ref it)) Q E s -- -
theorem turn_tupW {P : Program} {w : World} {K : PySem.W.Frag} {tg : Expr} (a it : Addr) : TurnW P w K tg (Itt K a) [it] it (fun i h => h.IsTupleIter it a i) where
  mem := by simp
  obj := fun i h st b hb => by
    obtain rfl : b = it := by simpa using hb
    obtain ⟨o, e, c, d⟩ := st
    (exact ⟨o, e, fun v z => by rw [d] at z; cases z⟩)
  keep := fun i h h' st k => st.at fun o e => k it (by simp) o e -- -
  item := by
    intro X hP hw hK x1 i pins s σ H E I hf st hg _; subst hP hw hK
    obtain ⟨xs, x, hq, hx⟩ := hg; obtain ⟨its, rv, pq, hz⟩ := I.tuple hq
    obtain ⟨u, hu, ru⟩ := rv.get hx; obtain ⟨f0, f1, f2, f3, f4, f5⟩ := hf it (by simp)
    refine wpAny_pyNext_tuple_item st (show s.heap.IsTuple a its.toArray from pq) (x := u) (by simpa using hu) fun h' st' sb => ?_
    have Iq : Inv X pins σ H { s with heap := h' } := I.turned (t' := s.toks) (fun b o hb e => (sb.2 b hb).trans e) f0 f1 f3 f4 f5
    obtain ⟨o, e, c, d⟩ := id st'
    exact ⟨u, rfl, go_of (s := { s with heap := h' }) e c d (by decide) ⟨x, H, Iq, ru, ⟨rfl, fun ys hy => by rw [I.tuple_inj hy hq]; exact hx⟩, st', fun b hb => (hf b hb).1⟩⟩
  done := by
    intro X hP hw hK x1 i pins s σ H E I hf st hg hot; subst hP hw hK
    obtain ⟨xs, hq, hx⟩ := hg; obtain ⟨its, rv, pq, hz⟩ := I.tuple hq
    obtain ⟨f0, f1, f2, f3, f4, f5⟩ := hf it (by simp); have hl := rv.length
    exact tuple_end_hot hot st (show s.heap.IsTuple a its.toArray from pq) (by simp; omega) fun h' eb => ⟨rfl, I.turned (t' := s.toks) (fun b o hb e => eb b o hb e) f0 f1 f3 f4 f5⟩
  self := fun _ _ _ _ _ st h => wpAny_pyIter_tupleiter st h -- -
theorem turn_strW {P : Program} {w : World} {K : PySem.W.Frag} {tg : Expr} (it : Addr) (x : Str) (t : Tok) (ty : String) (hty : ty = "str_ascii_iterator" ∨ ty = "str_iterator") : TurnW P w K tg (Its x) [it] it (fun i h => h.IsStrIter it ty x t i) where
  mem := by simp
  obj := fun i h st b hb => by
    obtain rfl : b = it := by simpa using hb
    obtain ⟨o, e, c, d⟩ := st
    (exact ⟨o, e, fun v z => by rw [d] at z; cases z⟩)
  keep := fun i h h' st k => let ⟨o, ho, r⟩ := st; ⟨o, k it (by simp) o ho, r⟩ -- -
  item := by
    intro X hP hw hK x1 i pins s σ H E I hf st hg _; subst hP hw hK
    (obtain ⟨f0, f1, f2, f3, f4, f5⟩ := hf it (by simp))
    have hno : ["enumerate", "zip", "dict_itemiterator", "dict_reverseitemiterator", "odict_iterator", "itertools.zip_longest", "itertools.pairwise"].contains ty = false := by rcases hty with e | e <;> (rw [e]; decide)
    have hlt : i < x.cps.size := hg
    have hx : x.cps[i]? = some x.cps[i] := by simp [hlt]
    rcases hty with e | e
    · subst e
      refine wpAny_pyNext_ascii_item st hx fun h' st' sb => ?_
      have Iq : Inv X pins σ H { s with heap := h', toks := s.toks + 1 } := I.turned (fun b o hb e => (sb.2 b hb).trans e) f0 f1 f3 f4 f5
      (obtain ⟨oi, e, cc, dd⟩ := id st')
      exact ⟨_, rfl, go_of (s := { s with heap := h', toks := s.toks + 1 }) e cc dd hno ⟨.str ⟨#[x.cps[i]]⟩, H, Iq, ⟨_, rfl⟩, ⟨rfl, _, hx, rfl⟩, st', fun b hb => (hf b hb).1⟩⟩
    · subst e
      refine wpAny_pyNext_wide_item st hx fun h' st' sb => ?_
      have Iq : Inv X pins σ H { s with heap := h', toks := s.toks + 1 } := I.turned (fun b o hb e => (sb.2 b hb).trans e) f0 f1 f3 f4 f5
      (obtain ⟨oi, e, cc, dd⟩ := id st')
      exact ⟨_, rfl, go_of (s := { s with heap := h', toks := s.toks + 1 }) e cc dd hno ⟨.str ⟨#[x.cps[i]]⟩, H, Iq, ⟨_, rfl⟩, ⟨rfl, _, hx, rfl⟩, st', fun b hb => (hf b hb).1⟩⟩
  done := by
    intro X hP hw hK x1 i pins s σ H E I hf st hg hot; subst hP hw hK
    (obtain ⟨f0, f1, f2, f3, f4, f5⟩ := hf it (by simp))
    (have hx : x.cps[i]? = none := Array.getElem?_eq_none hg)
    rcases hty with e | e
    · rw [e] at st
      exact ascii_end_hot hot st hx fun h' eb => ⟨rfl, I.turned (t' := s.toks) (fun b o hb e => eb b o hb e) f0 f1 f3 f4 f5⟩
    · rw [e] at st
      exact wide_end_hot hot st hx fun h' eb => ⟨rfl, I.turned (t' := s.toks) (fun b o hb e => eb b o hb e) f0 f1 f3 f4 f5⟩
  self := fun A i s Q E st h => by -- -
    rcases hty with e | e
    · (rw [e] at st; exact wpAny_pyIter_striter_ascii st h)
    · (rw [e] at st; exact wpAny_pyIter_striter_wide st h)
def PIEW (X : Cx) (pins : List (Addr × Obj)) (σ : L2.St) (tg : Expr) (R : It → Hp → Prop) (itv : Value) (s2 : Shared) : Prop :=
  ∃ (it : Addr) (fp : List Addr) (tn : Nat → Heap → Prop) (J : It) (H' : Hp), itv = .ref it ∧ Inv X pins σ H' s2 ∧ TurnW X.prog X.w X.K tg J fp it tn ∧ tn 0 s2.heap ∧ (∀ b ∈ fp, FpOk X pins H' b) ∧ R J H'
structure PIW (X : Cx) (tg iter : Expr) (wi : TI) : Prop where
  run : ∀ (pins : List (Addr × Obj)) (s : Shared) (σ : L2.St) (H : Hp) (R : It → Hp → Prop), Inv X pins σ H s → wi σ H R →
    wpAny (model X.prog X.w) X.A (eval iter X.env) (fun v s1 => wpAny (model X.prog X.w) X.A (pyIter v) (PIEW X pins σ tg R) X.xe s1) X.xe s
section
variable {X : Cx} {tg : Expr} {pins : List (Addr × Obj)} {σ : L2.St} {H : Hp} {s : Shared} {R : It → Hp → Prop} {J : It} {tn : Nat → Heap → Prop} {tk : Nat}
theorem pi_oneW (I : Inv X pins σ H s) (o : Obj) (T : TurnW X.prog X.w X.K tg J [s.heap.objs.size] s.heap.objs.size tn) (st : tn 0 (s.heap.push o)) (q : R J H) : PIEW X pins σ tg R (.ref s.heap.objs.size) { s with heap := s.heap.push o, toks := tk } := by
  (refine ⟨s.heap.objs.size, [s.heap.objs.size], tn, J, H, rfl, I.kept fun b ob e => Heap.get?_push_of_some _ e, T, st, fun b hb => ?_, q⟩)
  obtain rfl : b = s.heap.objs.size := by simpa using hb
  (exact I.fpOk (Nat.le_refl _) (I.hok.fresh (Nat.le_refl _)))
theorem pi_tupW {l : Expr} {tl : TE} (hl : PE X l tl) : PIW X tg l (iTup X.K tl) := by
  refine ⟨fun pins s σ H R I h => thn (hl.run pins s σ H _ I h) fun v s1 ⟨x, Hq, Iq, rq, a, e, ⟨xs, hq⟩, q⟩ => ?_⟩
  subst e; cases rq
  obtain ⟨its, rv, pq, hz⟩ := Iq.tuple hq
  exact wpAny_pyIter_tuple (show s1.heap.IsTuple a its.toArray from pq) (pi_oneW (tk := s1.toks) Iq _ (turn_tupW a _) ⟨_, Heap.get?_push_size _ rfl, rfl, rfl⟩ q)
theorem pi_strW {e : Expr} {te : TE} (he : PE X e te) : PIW X tg e (iStr te) := by
  refine ⟨fun pins s σ H R I h => thn (he.run pins s σ H _ I h) fun v s1 ⟨y, Hq, Iq, rq, x, ex, q⟩ => ?_⟩
  subst ex; obtain ⟨t, rfl⟩ := rq
  cases ha : x.cps.all (· < 128) -- -
  · exact wpAny_pyIter_wide ha (pi_oneW (tk := s1.toks) Iq _ (turn_strW _ x t "str_iterator" (.inr rfl)) ⟨_, Heap.get?_push_size _ rfl, rfl, rfl⟩ q)
  · exact wpAny_pyIter_ascii ha (pi_oneW (tk := s1.toks) Iq _ (turn_strW _ x t "str_ascii_iterator" (.inl rfl)) ⟨_, Heap.get?_push_size _ rfl, rfl, rfl⟩ q)
theorem ps_forW {p : Addr × Obj} (Wm : Warm X p) {iter : Expr} {body : List Stmt} {wi : TI} {g : TG} {tb : TS} {pos : Pos} (hp : PassesOwn (model X.prog X.w) X.A X.env X.xe) (hi : PIW X tg iter wi) (hg : PG X tg g) (hb : PSs X body tb)
    (hs : ∀ x, foldedSetIterable iter X.env x = pure x := by intro _; rfl) : PS X (.For tg iter body [] pos) (tFor wi g tb) := by -- -
  (refine ⟨fun pins s σ H D I h => ?_⟩)
  refine wpAny_For (thn (hi.run pins s σ H _ I h) fun v sq1 h1 => thn h1 fun itv sq2 h2 => ?_) hs
  obtain ⟨it, fp, tn, J, Hq2, e, Jv2, T, stq2, f2, W, ⟨m0, w0⟩, turn⟩ := h2
  subst e
  -- what stays true of the iterator's objects through the loop -- -
  have statq : ∀ {H' : Hp}, (∀ b ∈ fp, H' b = none) → ∀ b ∈ fp, FpOk X pins H' b := fun hn b hb => ⟨hn b hb, (f2 b hb).2⟩
  refine codeAny_forLoop_any (fun n s' => ∃ i σ' H', Inv X pins σ' H' s' ∧ tn i s'.heap ∧ (∀ b ∈ fp, H' b = none) ∧ W i n σ' H') ?_ m0 ⟨0, σ, Hq2, Jv2, stq2, fun b hb => (f2 b hb).1, w0⟩
  rintro n sq3 ⟨i, σ3, Hq3, Jv3, stq3, fr3, w3⟩
  rcases turn i n σ3 Hq3 w3 with ⟨stop, qn⟩ | ⟨go, N, hN, step⟩
  · refine wpAny_passesOwn hp (thn (T.done X rfl rfl rfl p.1 i pins sq3 σ3 Hq3 X.xe Jv3 (statq fr3) stq3 stop (Wm.at Jv3)) fun r sq4 ⟨hr, Jv4⟩ => ?_)
    subst hr
    exact wpAny_execs_nil ⟨σ3, Hq3, Jv4, qn⟩
  · refine wpAny_passesOwn hp (thn (T.item X rfl rfl rfl p.1 i pins sq3 σ3 Hq3 X.xe Jv3 (statq fr3) stq3 go (Wm.at Jv3)) fun r sq4 ⟨u, hr, h4⟩ => ?_)
    subst hr
    refine wpAny_passesOwn hp (thn h4 fun _ sq5 ⟨x, Hq5, Jv5, r5, y5, stq5, fr5⟩ => ?_)
    have Jv5' := Jv5.pinned (statq fr5) (T.obj _ _ stq5)
    refine wpAny_passesOwn hp (thn (hg.run _ sq5 σ3 Hq5 x u _ Jv5' r5 (step x Hq5 y5)) fun _ sq6 ⟨σ6, Hq6, Jv6, q6⟩ => ?_)
    refine wpAny_passesOwn hp (thn (hb.run _ sq6 σ6 Hq6 _ Jv6 q6) fun f sq7 q7 => ?_)
    have againq : ∀ {σ7 : L2.St} {Hq7 : Hp}, Inv X (pins ++ pinsAt fp sq5.heap) σ7 Hq7 sq7 → N σ7 Hq7 → ∃ m, m < n ∧ ∃ i σ' H', Inv X pins σ' H' sq7 ∧ tn i sq7.heap ∧ (∀ b ∈ fp, H' b = none) ∧ W i m σ' H' := fun {σ7 Hq7} Jv7 n7 => by
      obtain ⟨m', hm, w7⟩ := hN σ7 Hq7 n7
      refine ⟨m', hm, i + 1, σ7, Hq7, Jv7.unpinned, T.keep _ _ _ stq5 fun b hb o e => (Jv7.pin (b, o) (List.mem_append_right _ (List.mem_append_right _ (mem_pinsAt hb e)))).1, fun b hb => ?_, w7⟩
      obtain ⟨o, e, d⟩ := T.obj _ _ stq5 b hb
      exact (Jv7.pin (b, o) (List.mem_append_right _ (List.mem_append_right _ (mem_pinsAt hb e)))).2.1
    cases f with
    | next => obtain ⟨σ7, Hq7, Jv7, n7⟩ := q7; exact againq Jv7 n7
    | cont => obtain ⟨σ7, Hq7, Jv7, n7⟩ := q7; exact againq Jv7 n7
    | brk => obtain ⟨σ7, Hq7, Jv7, q7⟩ := q7; exact ⟨σ7, Hq7, Jv7.unpinned, q7⟩
    | ret v => obtain ⟨x7, σ7, Hq7, Jv7, r7, q7⟩ := q7; exact ⟨x7, σ7, Hq7, Jv7.unpinned, r7, q7⟩end
section
variable {X : Cx}
theorem lc_coreW {p : Addr × Obj} (hot : Hot1 X.A p) (hpn : p ∈ X.pn) {pins : List (Addr × Obj)} {s : Shared} {σ : L2.St} {H : Hp} {Q : VK} {elt tg iter : Expr} {ifs : List Expr} {scope : Scope} {own : List (Str × Nat)} {pos pos' : Pos} {wi : TI} {g : TG} {tt : TT} {te : TE} {use : Option (Value → Sem Unit)} {Qf : Value → Shared → Prop}
    (hN : X.N.Nodup) (I : Inv X pins σ H s) (hi : PIW X tg iter wi) (ok : BlkOk X.N X.env.scope scope own)
    (hg : ∀ (s : Shared) (H : Hp) (C : Addr) (cl : List (Str × Addr)) (fp : List Addr), PG (X.blk s H scope (compEnvC scope cl C X.env) fp) tg g) (ht : ∀ (s : Shared) (H : Hp) (C : Addr) (cl : List (Str × Addr)) (fp : List Addr), PTs (X.blk s H scope (compEnvC scope cl C X.env) fp) ifs tt) -- -
    (he : ∀ (s : Shared) (H : Hp) (C : Addr) (cl : List (Str × Addr)) (fp : List Addr), Warm (X.blk s H scope (compEnvC scope cl C X.env) fp) p → PE (X.blk s H scope (compEnvC scope cl C X.env) fp) elt te) (hs : ∀ x, foldedSetIterable iter X.env x = pure x)
    (h : tLc wi g tt te (own.map (·.2)) σ H Q) -- -
    (hRR : ∀ D C s' m H', Inv X pins σ H' s' → Q (.ref D) H' → s'.heap.Ns C m → FpOk X pins H' C → compPost (model X.prog X.w) X.A X.xe use Qf (.ref D) C (.ok .next) s') : -- -
    wpAny (model X.prog X.w) X.A (comprehension (.ListComp elt [⟨tg, iter, ifs, 0⟩] scope pos) scope X.env pos' (newList []) false (eval iter X.env) use) Qf X.xe s := by -- -
  have hfrq : ∀ y ∈ scope.names, y.2 = .free → ∃ c, X.env.cells.lookup y.1 = some c := fun y hy e => by
    (rcases ok.free y hy e with k | k)
    · exact I.ok.has _ (.inl k)
    · exact I.ok.has _ (.inr k)
  refine wpAny_comprehension_free (use := use) rfl hs (closure_ok hfrq) ok.kind (fun y hy e => by rw [ok.uniq y hy, e])
    (thn (hi.run pins s σ H _ I h) fun xv sq1 hx => thn hx fun itv sq2 h2 => ?_)
  obtain ⟨it, fp, tn, J, Hq2, e, Jv2, T, stq2, f2, q⟩ := h2
  subst e
  (refine wpAny_newObj_type (newEnv_comp ?_) (by show 0 ≤ sizeLine; decide))
  generalize hD : sq2.heap.objs.size = D
  have hDn : Hq2 D = none := Jv2.hok.fresh (Nat.le_of_eq hD)
  (obtain ⟨W, ⟨m0, w0⟩, turn⟩ := q D hDn)
  -- the new list
  generalize hs3 : ({ sq2 with heap := sq2.heap.push { cls := .type "list", data := .seq ([] : List Value).toArray } } : Shared) = sq3
  have Jv3 : Inv X pins σ (upd Hq2 D (.lst [])) sq3 := by
    rw [← hs3]
    refine Jv2.laid (t' := sq2.toks) (fun b o e => Heap.get?_push_of_some _ e) (Nat.le_of_eq hD) ⟨Nat.zero_le _, [], 0, .nil, ?_⟩
    rw [← hD]
    (exact Heap.get?_push_size _ rfl)
  have h3 : sq3.heap = sq2.heap.push { cls := .type "list", data := .seq ([] : List Value).toArray } := by rw [← hs3]
  have szq : ∀ b ∈ fp, b < sq2.heap.objs.size := fun b hb => by
    obtain ⟨o, e, _⟩ := T.obj _ _ stq2 b hb
    exact Heap.lt_size e
  have f3 : ∀ b ∈ fp, FpOk X pins (upd Hq2 D (.lst [])) b ∧ b < sq3.heap.objs.size := fun b hb => by
    have hlt := szq b hb
    (refine ⟨⟨?_, (f2 b hb).2⟩, by rw [h3, Heap.size_push]; exact Nat.lt_succ_of_lt hlt⟩)
    (rw [upd_ne (by rw [← hD]; exact Nat.ne_of_lt hlt)])
    exact (f2 b hb).1
  have stq3 : tn 0 sq3.heap := T.keep _ _ _ stq2 fun b _ o e => by rw [h3]; exact Heap.get?_push_of_some _ e
  have Jv4 := block_start Jv3 ok hN f3
  have pgq := hg sq3 (upd Hq2 D (.lst [])) sq3.heap.objs.size (cellsFrom (sq3.heap.objs.size + 1) scope.names (cloFrom X.env.cells scope.names [])) fp
  have ptq := ht sq3 (upd Hq2 D (.lst [])) sq3.heap.objs.size (cellsFrom (sq3.heap.objs.size + 1) scope.names (cloFrom X.env.cells scope.names [])) fp
  have nfpp : p.1 ∉ fp := fun hm => (f2 p.1 hm).2.2.2.2.2 p (List.mem_append_left _ hpn) rfl
  have Wb : ∀ cv, Warm (X.blk sq3 (upd Hq2 D (.lst [])) scope cv fp) p := fun cv => (Warm.of_pn hot hpn).blk Jv3 nfpp
  have peq := he sq3 (upd Hq2 D (.lst [])) sq3.heap.objs.size (cellsFrom (sq3.heap.objs.size + 1) scope.names (cloFrom X.env.cells scope.names [])) fp (Wb _)
  show codeAny _ _ (.compStart (.ListComp elt [⟨tg, iter, ifs, 0⟩] scope pos) 0 (.ref it) (.ref D) (compEnvC scope (cellsFrom (sq3.heap.objs.size + 1) scope.names (cloFrom X.env.cells scope.names [])) sq3.heap.objs.size X.env)) (compPost (model X.prog X.w) X.A X.xe use Qf (.ref D) sq3.heap.objs.size) { sq3 with heap := pushCells (sq3.heap.push { cls := .type "dict", data := .dict #[] }) scope.names }
  have nfq : ∀ b ∈ fp, (upd Hq2 D (.lst [])) b = none := fun b hb => (f3 b hb).1.1
  have Wb := Wb (compEnvC scope (cellsFrom (sq3.heap.objs.size + 1) scope.names (cloFrom X.env.cells scope.names [])) sq3.heap.objs.size X.env)
  generalize hcq : compEnvC scope (cellsFrom (sq3.heap.objs.size + 1) scope.names (cloFrom X.env.cells scope.names [])) sq3.heap.objs.size X.env = cv at Jv4 pgq ptq peq Wb ⊢
  have cL : cv.locals = sq3.heap.objs.size := by subst hcq; rfl
  generalize hH3 : upd Hq2 D (.lst []) = Hq3 at Jv3 Jv4 pgq ptq peq w0 nfq f3 Wb
  generalize hs4 : ({ sq3 with heap := pushCells (sq3.heap.push { cls := .type "dict", data := .dict #[] }) scope.names } : Shared) = sq4 at Jv4 ⊢
  have stq4 : tn 0 sq4.heap := T.keep _ _ _ stq3 fun b _ o e => by rw [← hs4]; exact pushCells_keeps _ _ _ _ (Heap.get?_push_of_some _ e)
  have statq : ∀ {σ' : L2.St} {H' : Hp} {s' : Shared}, Inv (X.blk sq3 Hq3 scope cv fp) [] σ' H' s' → (∀ b ∈ fp, H' b = none) → ∀ b ∈ fp, FpOk (X.blk sq3 Hq3 scope cv fp) [] H' b := fun {σ' H' s'} I' hn b hb =>
    ⟨hn b hb, (I'.ok.exf b hb).1, I'.ok.exfs b hb, .inl hb, fun x c e => (I'.ok.exf b hb).2 x c e, fun p hp => absurd (show p ∈ ([] : List (Addr × Obj)) ++ [] from hp) (by simp)⟩ -- -
  have loop : codeAny (model X.prog X.w) X.A (.compLoop (.ListComp elt [⟨tg, iter, ifs, 0⟩] scope pos) 0 (.ref it) (.ref D) cv) (compPost (model X.prog X.w) X.A X.xe use Qf (.ref D) sq3.heap.objs.size) sq4 := by
    refine compLoop_any (fun n s' => ∃ i H', Inv (X.blk sq3 Hq3 scope cv fp) [] (wipe σ (own.map (·.2))) H' s' ∧ tn i s'.heap ∧ (∀ b ∈ fp, H' b = none) ∧ W i n H') ?_ m0 ⟨0, Hq3, Jv4, stq4, nfq, w0⟩
    rintro n sq5 ⟨i, Hq5, Jv5, stq5, n5, w5⟩
    rcases turn i n Hq5 w5 with ⟨stop, qq⟩ | ⟨go, Nx, hNx, step⟩
    · have td := T.done (X.blk sq3 Hq3 scope cv fp) rfl rfl rfl p.1 i [] sq5 _ Hq5 (fun _ _ => False) Jv5 (statq Jv5 n5) stq5 stop (Wb.at Jv5)
      refine thnF td fun r sq6 ⟨hr, Jv6⟩ => ?_
      subst hr
      -- back in the def's context
      have Jv7 : Inv X pins σ Hq5 sq6 := Jv3.call' (ch := fp) Jv6.os Jv6.base Jv6.hok Jv6.bare fun b hb => ⟨(f3 b hb).1.2.2.2.1, (f3 b hb).1.2.1, (f3 b hb).1.2.2.2.2.1, (f3 b hb).1.2.2.2.2.2⟩
      have nC : Hq5 sq3.heap.objs.size = none := by
        have z : Hq5 cv.locals = none := Jv6.free
        rw [cL] at z
        exact z
      obtain ⟨m, hn, _⟩ := Jv6.loc
      have hn : sq6.heap.Ns cv.locals m := hn
      rw [cL] at hn
      exact hRR D sq3.heap.objs.size sq6 m Hq5 Jv7 qq hn (Jv3.fpOk (Nat.le_refl _) nC)
    · have ti := T.item (X.blk sq3 Hq3 scope cv fp) rfl rfl rfl p.1 i [] sq5 _ Hq5 (fun _ _ => False) Jv5 (statq Jv5 n5) stq5 go (Wb.at Jv5)
      refine thnF ti fun r sq6 ⟨u, hr, h6⟩ => ?_
      subst hr
      refine thnF h6 fun _ sq7 ⟨x, Hq7, Jv7, r7, y7, stq7, n7⟩ => ?_
      have Jv7' := Jv7.pinned (statq Jv7 n7) (T.obj _ _ stq7)
      refine thnF (pgq.run _ sq7 _ Hq7 x u _ Jv7' r7 (step x Hq7 y7)) fun _ sq8 ⟨σ8, Hq8, Jv8, hw8, q8⟩ => ?_
      refine thnF (ptq.run _ sq8 σ8 Hq8 _ Jv8 q8) fun b sq9 ⟨Hq9, Jv9, q9⟩ => ?_
      -- the turn's end
      have finq : ∀ {s' : Shared} {H' : Hp}, Inv (X.blk sq3 Hq3 scope cv fp) ([] ++ pinsAt fp sq7.heap) σ8 H' s' → Nx H' → ∃ m, m < n ∧ ∃ i H', Inv (X.blk sq3 Hq3 scope cv fp) [] (wipe σ (own.map (·.2))) H' s' ∧ tn i s'.heap ∧ (∀ b ∈ fp, H' b = none) ∧ W i m H' := fun {s' H'} I' nxq => by
        obtain ⟨m', hm, w'⟩ := hNx H' nxq
        have pinq' : ∀ b ∈ fp, ∀ o, sq7.heap.get? b = some o → s'.heap.get? b = some o ∧ H' b = none := fun b hb o e =>
          let z := I'.pin (b, o) (List.mem_append_right _ (List.mem_append_right _ (mem_pinsAt hb e))) -- -
          ⟨z.1, z.2.1⟩
        (have hl : (wipe σ (own.map (·.2))).length = σ8.length := by rw [← hw8, wipe_length])
        refine ⟨m', hm, i + 1, H', (I'.unpinned (pins := [])).weak hl (fun j v e => ?_), T.keep _ _ _ stq7 fun b hb o e => (pinq' b hb o e).1, fun b hb => ?_, w'⟩
        · rw [← hw8] at e
          exact (wipe_some e).1
        · obtain ⟨o, e, _⟩ := T.obj _ _ stq7 b hb
          exact (pinq' b hb o e).2
      cases b with
      | false =>
        (simp only [Bool.false_eq_true, if_false] at q9 ⊢)
        exact finq Jv9 q9
      | true =>
        simp only [if_true] at q9 ⊢
        refine thnF (peq.run _ sq9 σ8 Hq9 _ Jv9 q9) fun z sq10 ⟨yv, Hq10, Jv10, r10, acc, hD10, hz10, nxq⟩ => ?_
        exact app_ok (X := X.blk sq3 Hq3 scope cv fp) Jv10 hD10 hz10 r10 fun sq11 Jv11 => finq Jv11 nxq
  exact codeAny_compStart_list loop (T.self X.A 0 _ _ _ stq4 loop)
theorem pe_lcW {p : Addr × Obj} {elt tg iter : Expr} {ifs : List Expr} {scope : Scope} {own : List (Str × Nat)} {pos : Pos} {wi : TI} {g : TG} {tt : TT} {te : TE} (hot : Hot1 X.A p) (hpn : p ∈ X.pn) (hN : X.N.Nodup) (hi : PIW X tg iter wi) (ok : BlkOk X.N X.env.scope scope own)
    (hg : ∀ (s : Shared) (H : Hp) (C : Addr) (cl : List (Str × Addr)) (fp : List Addr), PG (X.blk s H scope (compEnvC scope cl C X.env) fp) tg g) (ht : ∀ (s : Shared) (H : Hp) (C : Addr) (cl : List (Str × Addr)) (fp : List Addr), PTs (X.blk s H scope (compEnvC scope cl C X.env) fp) ifs tt) -- -
    (he : ∀ (s : Shared) (H : Hp) (C : Addr) (cl : List (Str × Addr)) (fp : List Addr), Warm (X.blk s H scope (compEnvC scope cl C X.env) fp) p → PE (X.blk s H scope (compEnvC scope cl C X.env) fp) elt te) (hs : ∀ x, foldedSetIterable iter X.env x = pure x := by intro _; rfl) :
    PE X (.ListComp elt [⟨tg, iter, ifs, 0⟩] scope pos) (tLc wi g tt te (own.map (·.2))) := by -- -
  (refine ⟨fun pins s σ H Q I h => ?_⟩)
  rw [eval_ListComp]
  refine lc_coreW hot hpn hN I hi ok hg ht he hs h fun D C s' m H' I' q hn f => ⟨m, hn, fun h'' sb => ?_⟩
  (obtain ⟨f0, f1, f2, f3, f4, f5⟩ := f)
  (exact ⟨.ref D, H', I'.turned (t' := s'.toks) (fun b o hb e => (sb.2 b hb).trans e) f0 f1 f3 f4 f5, rfl, q⟩)
end
/-! ### all(..) -/
theorem walks_listW {prog : Program} {w : World} {A : Around} {x1 : Addr} {h0 : Heap} (hot : HotAt A x1 h0) (I ax : Addr) (hne : ax ≠ I) (hx1 : x1 ≠ I) (items : Array Value) :
    Walks prog w A I [I, ax, x1] [I] items.size (fun i v => items[i]? = some v) (fun i h => (h.IsListIter I ax i ∧ h.IsList ax items) ∧ HotAt A x1 h) where
  sub := fun b hb => by simp at hb; simp [hb] -- -
  frame := fun _ _ _ st hk => ⟨⟨st.1.1.at fun o e => hk I (by simp) o e, st.1.2.at fun o e => hk ax (by simp) o e⟩, by
    obtain ⟨hh, o1, v1, h1, d1, c1⟩ := st.2
    exact ⟨hh, o1, v1, hk x1 (by simp) _ h1, d1, c1⟩⟩
  item := fun i s Q E hi st hQ => wpAny_pyNext_list_item st.1.1 st.1.2 (x := items[i]) (by simp [hi]) fun h' hit' hs' => hQ _ h' s.toks (by simp [hi]) ⟨⟨hit', st.1.2.extBut hs'.extBut hne⟩, by
    obtain ⟨hh, o1, v1, h1, d1, c1⟩ := st.2
    exact ⟨hh, o1, v1, hs'.extBut _ _ hx1 h1, d1, c1⟩⟩ fun b o hb e => hs'.extBut b o (fun h => hb (by simp [h])) e
  done := fun s Q E st hQ => list_end_hot st.2 st.1.1 st.1.2 (by simp) fun h' he' => hQ h' s.toks fun b o hb e => he' b o (fun h => hb (by simp [h])) e
  self := fun _ _ _ _ st hQ => wpAny_pyIter_listiter st.1.1 hQ
section
variable {X : Cx} {p : Addr × Obj}
theorem cr_allW (W : Warm X p) : CallR X (.builtin "all") (rAll X.K) := by
  (intro pins s σ H vs us Q I r h)
  (obtain ⟨a, bs, rfl, hs, q⟩ := h)
  (obtain ⟨its, rv, hl, _⟩ := I.list hs)
  rw [Vals.ref1 r]
  have hb := rv.bls; have hot := W.at I
  have hx : p.1 ≠ s.heap.objs.size := Nat.ne_of_lt (Heap.lt_size (W.ok I).get)
  refine call_all_walk (iter_any hl.isList fun sq e2 st hne => ?_); subst e2
  have hotq := hot_kept (h' := (s.heap.push { cls := .type "list_iterator", data := .fields #[.ref a, .int 0 0] })) hot fun b o e => Heap.get?_push_of_some _ e
  refine ⟨_, _, _, _, _, _, _, rfl, walks_listW (A := X.A.in1) hotq s.heap.objs.size a hne hx its.toArray, ⟨st, hotq⟩, truth_bools hb, fun h' tk hk => ?_⟩
  (refine ⟨.bl _, H, I.kept fun b o eo => hk b o (fun hmem => ?_) (Heap.get?_push_of_some _ eo), ?_, q⟩)
  · (rcases List.mem_cons.mp hmem with e1 | hmem)
    · (exact absurd (e1 ▸ Heap.lt_size eo) (Nat.lt_irrefl _))
    · cases hmem
  · show Value.bool _ = Value.bool _; rw [← L2.all_range, hb, List.size_toArray, List.length_map]
end
end Gd

/-! The rules while an exception is handled, over data -/
namespace Gd
open PySem L2
open L2H (Hot1 PinOk FnH RoomH roomH_of)
section
variable {X : Cx} {B B1 : Bs} {δ δ' : List (Option Slot)} {O O1 O2 O3 : List Own} {a b c e o : Expr} {es : List Expr} {x : Str} {p pos : Pos} {s s1 s2 s3 : Slot} {ss : List Slot} {α β : Type} {R : α → Slot} {S : β → Slot} {D : Ends} {rest sts : List Stmt} {u : Bool} {pw : Addr × Obj}
/-- IT, where an exception is handled -/
def ITW (X : Cx) (δ : List (Option Slot)) (O : List Own) (tg e : Expr) (R : α → Slot) (as : List α) (O' : List Own) : Prop :=
  ∃ wi, PIW X tg e wi ∧ ∀ (B : Bs) (σ : SS) (G H : Hp) (Q : It → Hp → Prop), Sta X.K B δ O σ G H → (∀ J G' H', Same G G' → Sta X.K B δ O' σ G' H' → Wk X.K G' J R as → Q J H') → wi σ H Q
theorem it_tuplW {tg : Expr} {as : List α} (h : E X δ O e (sTupl R as) O1) : ITW X δ O tg e R as O1 :=
  ⟨_, pi_tupW pe_w, fun B σ G H Q st k => h B σ G H _ st fun v G1 H1 m1 st1 hv => by
    obtain ⟨p, vs, rfl, hp, r⟩ := hv
    refine ⟨p, rfl, ⟨vs, sqT_up st1.stp.gh hp⟩, k _ G1 H1 m1 st1 fun B' δ' O' σ' G' H' i e st' => ⟨fun y hy => ?_, fun hi => ?_⟩⟩
    · obtain ⟨w, hw, hr⟩ := r.get hy
      have hq : SqT X.K H' p vs := sqT_up st'.stp.gh (sqT_mono e hp)
      refine ⟨⟨vs, w, hq, hw⟩, fun v H'' hy' => ?_⟩
      obtain ⟨rfl, hy'⟩ := hy'
      have := hy' vs hq
      rw [hw] at this
      cases this
      exact ⟨G', Same.refl _, st', (R y).mono e hr⟩
    · exact ⟨vs, sqT_up st'.stp.gh (sqT_mono e hp), by rw [r.length]; exact hi⟩⟩
theorem it_strW {tg : Expr} {t : Str} (h : E X δ O e (sStr t) O1) : ITW X δ O tg e (fun n : Nat => sStr ⟨#[n]⟩) t.cps.toList O1 :=
  ⟨_, pi_strW pe_w, fun B σ G H Q st k => h B σ G H _ st fun v G1 H1 m1 st1 hv => by
    cases hv
    refine ⟨t, rfl, k _ G1 H1 m1 st1 fun B' δ' O' σ' G' H' i e st' => ⟨fun y hy => ?_, fun hi => ?_⟩⟩
    · have hy0 : t.cps[i]? = some y := by rw [← hy, Array.getElem?_toList]
      have hlt : i < t.cps.size := by
        rcases Nat.lt_or_ge i t.cps.size with z | z
        · exact z
        · rw [Array.getElem?_eq_none z] at hy0; cases hy0
      refine ⟨hlt, fun v H'' hy' => ?_⟩
      obtain ⟨rfl, cc, hcc, rfl⟩ := hy'
      rw [hy0] at hcc
      cases hcc
      exact ⟨G', Same.refl _, st', rfl⟩
    · rw [Array.length_toList] at hi; exact hi⟩
theorem tg_tup3W (W : Warm X pw) (i j l : Nat) {x1 x2 x3 : Str} {p1 p2 p3 p4 : Pos} {kk : Nat} {r1 r2 r3 : α → Slot} (hN : X.N.Nodup) (hi : X.N[i]? = some x1 := by rfl) (hj : X.N[j]? = some x2 := by rfl) (hl : X.N[l]? = some x3 := by rfl) (hx1 : Loc X.env.scope x1 := by first | exact Or.inl rfl | exact Or.inr rfl) (hx2 : Loc X.env.scope x2 := by first | exact Or.inl rfl | exact Or.inr rfl) (hx3 : Loc X.env.scope x3 := by first | exact Or.inl rfl | exact Or.inr rfl)
    (hf1 : X.fn x1 = true ∨ X.env.scope.names.lookup x1 = some .local := by first | exact .inl rfl | exact .inr rfl) (hf2 : X.fn x2 = true ∨ X.env.scope.names.lookup x2 = some .local := by first | exact .inl rfl | exact .inr rfl) (hf3 : X.fn x3 = true ∨ X.env.scope.names.lookup x3 = some .local := by first | exact .inl rfl | exact .inr rfl) :
    TGu X (.Tuple [.Name x1 p1, .Name x2 p2, .Name x3 p3] kk p4) (fun y => sTup [r1 y, r2 y, r3 y]) (fun y => [(i, r1 y), (j, r2 y), (l, r3 y)]) :=
  ⟨_, pg_tupW W (pgs_cons (pg_name hN hi hx1 hf1) (pgs_cons (pg_name hN hj hx2 hf2) (pgs_cons (pg_name hN hl hx3 hf3) pgs_nil))), fun B δ O σ G H y v Q st hv k => by
    obtain ⟨p, vs, rfl, hp, h⟩ := hv
    obtain ⟨v1, v2, v3, rfl, e1, e2, e3⟩ := alls3 h
    exact ⟨p, _, rfl, sqT_up st.stp.gh hp, rfl, v1, [v2, v3], rfl, v2, [v3], rfl, v3, [], rfl, rfl, k _ (((st.set e1).set e2).set e3)⟩⟩
theorem c_allW {bs : List Bool} (W : Warm X pw) : CallE X (.builtin "all") [sLst sBl bs] (sBl (bs.all id)) :=
  ⟨_, cr_allW W, fun B δ O σ G H Q xs st h k => by
    obtain ⟨v, rfl, p, vs, rfl, hp, r⟩ := alls1 h
    have e := r.vals (f := V.bl)
    subst e
    exact ⟨p, bs, rfl, SqL.of (st.stp.gh _ _ hp), k _ G H (Same.refl _) st rfl⟩⟩
theorem j_forW (W : Warm X pw) {γ : Type} {as : List α} {iter tg : Expr} {body : List Stmt} (P : Nat → γ → Prop) (Δ : γ → List (Option Slot)) (Ω : γ → List Own) (ts : α → List (Nat × Slot)) (hi : ITW X δ O tg iter R as O1) (ht : TGu X tg R ts)
    (h0 : ∃ g, P 0 g ∧ ∀ (B : Bs) (σ : SS) (G H : Hp), Sta X.K B δ O1 σ G H → Sta X.K B (Δ g) (Ω g) σ G H)
    (hs : ∀ (B1 : Bs) k y g, BLe B B1 → as[k]? = some y → P k g → J X B1 (setD (Δ g) (ts y)) (Ω g) body { D with nx := Mid X B1 (P (k + 1)) Δ Ω, ct := Mid X B1 (P (k + 1)) Δ Ω, bk := fun σ H => wSs X rest D σ H })
    (hd : ∀ g, P as.length g → J X B (Δ g) (Ω g) rest D) (hp : PassesOwn (model X.prog X.w) X.A X.env X.xe := by exact PassesOwn.never) (hf : noSet iter = true := by rfl) :
    J X B δ O (.For tg iter body [] pos :: rest) D := by
  obtain ⟨wi, h1, h2⟩ := hi
  obtain ⟨gt, g1, g2⟩ := ht
  refine j_cons fun σ G H st => s_of (ps_forW W hp h1 g1 pss_w (folded_plain hf)) (h2 B σ G H _ st fun Jt G1 H1 m1 st1 wk => ?_)
  obtain ⟨g0, p0, w0⟩ := h0
  refine ⟨fun i m σ H => m = as.length - i ∧ i ≤ as.length ∧ ∃ g G, P i g ∧ Same G1 G ∧ Sta X.K B (Δ g) (Ω g) σ G H, ⟨_, rfl, Nat.zero_le _, g0, G1, p0, Same.refl _, w0 _ _ _ _ st1⟩, ?_⟩
  rintro i m σ2 H2 ⟨rfl, hi, g, G2, pg, e2, st2⟩
  obtain ⟨w1, w2⟩ := wk B _ _ σ2 G2 H2 i e2 st2
  by_cases hlt : i < as.length
  · obtain ⟨hgo, hy⟩ := w1 as[i] (List.getElem?_eq_getElem hlt)
    refine .inr ⟨hgo, Mid X ⟨B.A, G2, B.H⟩ (P (i + 1)) Δ Ω, ?_, fun v H3 y3 => ?_⟩
    · rintro σ' H' ⟨g', G', pg', st'⟩
      exact ⟨as.length - (i + 1), by omega, rfl, hlt, g', G', pg', e2.trans st'.stp.ex, st'.le st2.up.1⟩
    · obtain ⟨G3, e3, st3, r3⟩ := hy v H3 y3
      have up := st2.up.1
      have st3' : Sta X.K ⟨B.A, G2, B.H⟩ (Δ g) (Ω g) σ2 G3 H3 := ⟨⟨st3.stp.gh, e3, st3.stp.fr, st3.stp.th, fun q u e n => by
        refine st3.stp.nf q u e ?_
        cases z : B.G q with
        | none => rfl
        | some o =>
          have n' : G2 q = none := n
          have z' := st2.stp.ex _ _ z
          rw [n'] at z'
          cases z'⟩, st3.env, st3.len, st3.own, st3.new, st3.nd⟩
      exact g2 ⟨B.A, G2, B.H⟩ (Δ g) (Ω g) σ2 G3 H3 as[i] v _ st3' r3 fun σ4 st4 => hs _ i as[i] g up (List.getElem?_eq_getElem hlt) pg σ4 G3 H3 st4
  · have e : i = as.length := by omega
    subst e
    exact .inl ⟨w2 (Nat.le_refl _), hd g pg σ2 G2 H2 st2⟩
/-- [elt for x in iter if ..], one name: turn k makes vals k where keeps k says so; acc: what is made so far -/
theorem lc_readingW {pw : Addr × Obj} {elt iter : Expr} {ifs : List Expr} {scope : Scope} {own : List (Str × Nat)} {as : List α} (i : Nat) {px : Pos} (Ωs Ωm : Nat → List Own) (keeps : Nat → Bool) (acc : Nat → List β) {wi : TI} {σ : SS} {G H : Hp} {Q : VK}
    (hin : i ∈ own.map (·.2)) (st : Sta X.K B δ O σ G H)
    (h2 : ∀ (B : Bs) (σ : SS) (G H : Hp) (Q : It → Hp → Prop), Sta X.K B δ O σ G H → (∀ J G' H', Same G G' → Sta X.K B δ (Ωs 0) σ G' H' → Wk X.K G' J R as → Q J H') → wi σ H Q)
    (hts : ∀ k y, as[k]? = some y → ∀ s H C cl fp, TSs (Blk X scope s H C cl fp) ((wipeD δ (own.map (·.2))).set i (some (R y))) (Ωs k) ifs (keeps k) (Ωm k))
    (helt : ∀ k y, as[k]? = some y → keeps k = true → ∃ z, acc (k + 1) = acc k ++ [z] ∧ ∀ s H C cl fp, Warm (Blk X scope s H C cl fp) pw → E (Blk X scope s H C cl fp) ((wipeD δ (own.map (·.2))).set i (some (R y))) (Ωm k) elt (S z) (Ωs (k + 1)))
    (hskip : ∀ k, k < as.length → keeps k = false → Ωm k = Ωs (k + 1) ∧ acc (k + 1) = acc k) (ha0 : acc 0 = []) (hz : as.length ≤ sizeLine)
    (k : ∀ p G' H', B.H p = none → Same G G' → Sta X.K B δ (oLst p S (acc as.length) :: Ωs as.length) σ G' H' → Q (.ref p) H') :
    tLc wi (gName i) (fun σ H Q => ∀ s H0 C cl fp, match ifs with | [] => Q true H | c :: _ => wT (Blk X scope s H0 C cl fp) c σ H Q) (fun σ H Q => ∀ s H0 C cl fp, Warm (Blk X scope s H0 C cl fp) pw → wE (Blk X scope s H0 C cl fp) elt σ H Q) (own.map (·.2)) σ H Q := by
  refine h2 B σ G H _ st fun Jt G1 H1 m1 st1 wk => ?_
  intro Da hDa
  have hacc : ∀ k, k ≤ as.length → (acc k).length ≤ k := by
    intro k
    induction k with
    | zero => intro _; rw [ha0]; exact Nat.le_refl _
    | succ k ih =>
      intro hk
      have := ih (Nat.le_of_lt hk)
      cases hkk : keeps k with
      | true =>
        obtain ⟨z, e, _⟩ := helt k _ (List.getElem?_eq_getElem hk) hkk
        rw [e, List.length_append]; simp; omega
      | false => rw [(hskip k hk hkk).2]; omega
  refine ⟨fun n m H' => m = as.length - n ∧ n ≤ as.length ∧ ∃ G', Same G1 G' ∧ Sta X.K B δ (oLst Da S (acc n) :: Ωs n) σ G' H', ⟨_, rfl, Nat.zero_le _, G1, Same.refl _, ?_⟩, ?_⟩
  · rw [ha0]
    exact st1.freshO (w := oLst Da S []) hDa rfl ⟨[], rfl, .nil⟩
  · rintro n m H2 ⟨rfl, hn, G2, e2, st2⟩
    obtain ⟨w1, w2⟩ := wk B _ _ σ G2 H2 n e2 st2
    by_cases hlt : n < as.length
    · have hget := List.getElem?_eq_getElem hlt
      obtain ⟨hgo, hy⟩ := w1 as[n] hget
      refine .inr ⟨hgo, fun H' => ∃ G', Same G1 G' ∧ Sta X.K B δ (oLst Da S (acc (n + 1)) :: Ωs (n + 1)) σ G' H', fun H' ⟨G', e', st'⟩ => ⟨as.length - (n + 1), by omega, rfl, hlt, G', e', st'⟩, fun v H3 y3 => ?_⟩
      obtain ⟨G3, e3, st3, r3⟩ := hy v H3 y3
      have st4 := (st3.wiped (own.map (·.2))).set (i := i) r3
      have wp : wipe ((wipe σ (own.map (·.2))).set i (some v)) (own.map (·.2)) = wipe σ (own.map (·.2)) := by rw [wipe_set hin, wipe_wipe _ _ fun _ h => h]
      have back : ∀ {O' : List Own} {G' H' : Hp}, Sta X.K B ((wipeD δ (own.map (·.2))).set i (some (R as[n]))) O' ((wipe σ (own.map (·.2))).set i (some v)) G' H' → Same G3 G' → Sta X.K B δ O' σ G' H' := fun {O' G' H'} q e => ⟨q.stp, st3.env.mono e, st3.len, q.own, q.new, q.nd⟩
      have rot : ∀ {O' : List Own} {δ' : List (Option Slot)} {σ' : SS} {G' H' : Hp} {w : Own}, Sta X.K B δ' (w :: O') σ' G' H' → Sta X.K B δ' (O' ++ [w]) σ' G' H' := fun {O' δ' σ' G' H' w} q => q.perm (fun v hv => by simp at hv ⊢; exact hv.symm) (by
        have nd := q.nd
        (rw [List.map_cons, List.nodup_cons] at nd)
        (rw [List.map_append, List.nodup_append])
        refine ⟨nd.2, by simp, fun q hq r hr e => nd.1 ?_⟩
        simp at hr
        rw [← hr, ← e]; exact hq)
      have unrot : ∀ {O' : List Own} {δ' : List (Option Slot)} {σ' : SS} {G' H' : Hp} {w : Own}, Sta X.K B δ' (O' ++ [w]) σ' G' H' → Sta X.K B δ' (w :: O') σ' G' H' := fun {O' δ' σ' G' H' w} q => q.perm (fun v hv => by simp at hv ⊢; exact hv.symm) (by
        have nd := q.nd
        rw [List.map_append, List.nodup_append] at nd
        (rw [List.map_cons, List.nodup_cons])
        exact ⟨fun hm => nd.2.2 _ hm _ (by simp) rfl, nd.1⟩)
      refine ⟨wp, ?_⟩
      -- behind the tests
      have elt_ : keeps n = true → ∀ G5 H5, Same G3 G5 → Sta X.K B ((wipeD δ (own.map (·.2))).set i (some (R as[n]))) (Ωm n ++ [oLst Da S (acc n)]) ((wipe σ (own.map (·.2))).set i (some v)) G5 H5 →
          ∀ s H0 C cl fp, Warm (Blk X scope s H0 C cl fp) pw → wE (Blk X scope s H0 C cl fp) elt ((wipe σ (own.map (·.2))).set i (some v)) H5 fun y H6 => ∃ ac, H6 Da = some (.lst ac) ∧ ac.length < sizeLine ∧ ∃ G', Same G1 G' ∧ Sta X.K B δ (oLst Da S (acc (n + 1)) :: Ωs (n + 1)) σ G' (upd H6 Da (.lst (ac ++ [y]))) := by
        intro hk G5 H5 e5 st5 s H0 C cl fp hw
        obtain ⟨zz, ez, helt'⟩ := helt n _ hget hk
        refine e_frame (O := [oLst Da S (acc n)]) (helt' s H0 C cl fp hw) B _ G5 H5 _ st5 fun y G6 H6 m6 st6 hy6 => ?_
        have st6' := unrot st6
        obtain ⟨o6, h6, _, ac, rfl, r6⟩ := st6'.own _ List.mem_cons_self
        refine ⟨ac, h6, ?_, G6, fun q z w => m6 _ _ (e5 _ _ (e3 _ _ (e2 _ _ w))), ?_⟩
        · rw [r6.length]; exact Nat.lt_of_lt_of_le (Nat.lt_of_le_of_lt (hacc n (Nat.le_of_lt hlt)) hlt) hz
        · rw [ez]
          have st7 := st6'.put (w' := oLst Da S (acc n ++ [zz])) rfl ⟨_, rfl, r6.append (.cons hy6 .nil)⟩
          exact back st7 (e5.trans m6)
      have skip_ : keeps n = false → ∀ G5 H5, Same G3 G5 → Sta X.K B ((wipeD δ (own.map (·.2))).set i (some (R as[n]))) (Ωm n ++ [oLst Da S (acc n)]) ((wipe σ (own.map (·.2))).set i (some v)) G5 H5 →
          ∃ G', Same G1 G' ∧ Sta X.K B δ (oLst Da S (acc (n + 1)) :: Ωs (n + 1)) σ G' H5 := by
        intro hk G5 H5 e5 st5
        refine ⟨G5, fun q z w => e5 _ _ (e3 _ _ (e2 _ _ w)), ?_⟩
        rw [(hskip n hlt hk).2, ← (hskip n hlt hk).1]
        exact back (unrot st5) e5
      intro s H0 C cl fp
      have hh := hts n _ hget
      cases ifs with
      | nil =>
        have hk : keeps n = true ∧ Ωm n = Ωs n := by
          rcases hh s H0 C cl fp with ⟨_, a, b⟩ | ⟨c, e, _⟩
          · exact ⟨a, b⟩
          · cases e
        refine iteT fun s' H0' C' cl' fp' hw' => elt_ hk.1 G3 H3 (Same.refl _) ?_ s' H0' C' cl' fp' hw'
        rw [hk.2]
        exact rot st4
      | cons c r =>
        rcases hh s H0 C cl fp with ⟨e, _⟩ | ⟨c', e, ht⟩
        · cases e
        · cases e
          refine t_frame (O := [oLst Da S (acc n)]) ht B _ G3 H3 _ (rot st4) fun G5 H5 m5 st5 => ?_
          cases hk : keeps n with
          | true => exact iteT fun s' H0' C' cl' fp' hw' => elt_ hk G5 H5 m5 st5 s' H0' C' cl' fp' hw'
          | false => exact iteF (skip_ hk G5 H5 m5 st5)
    · have e : n = as.length := by omega
      subst e
      exact .inl ⟨w2 (Nat.le_refl _), k Da G2 H2 (none_of st1 hDa) (m1.trans e2) st2⟩
theorem ew_mapW {elt iter : Expr} {scope : Scope} {own : List (Str × Nat)} {as : List α} {px : Pos} (hot : Hot1 X.A pw) (hpn : pw ∈ X.pn) (i : Nat) (f : α → β) (hN : X.N.Nodup) (hi : ITW X δ O (.Name x px) iter R as O1) (ok : BlkOk X.N X.env.scope scope own)
    (helt : ∀ y, y ∈ as → ∀ s H C cl fp, Warm (Blk X scope s H C cl fp) pw → E (Blk X scope s H C cl fp) ((wipeD δ (own.map (·.2))).set i (some (R y))) O1 elt (S (f y)) O1) (hz : as.length ≤ sizeLine)
    (hin : i ∈ own.map (·.2) := by decide) (hix : X.N[i]? = some x := by rfl) (hx : ∀ s H C cl fp, Loc (Blk X scope s H C cl fp).env.scope x := by intro _ _ _ _ _; first | exact Or.inl rfl | exact Or.inr rfl)
    (hf : ∀ s H C cl fp, (Blk X scope s H C cl fp).fn x = true ∨ (Blk X scope s H C cl fp).env.scope.names.lookup x = some .local := by intro _ _ _ _ _; first | exact .inl rfl | exact .inr rfl)
    (hs : noSet iter = true := by rfl) :
    EW X δ O (.ListComp elt [⟨.Name x px, iter, [], 0⟩] scope pos) (fun p => oLst p S (as.map f)) O1 := by
  obtain ⟨wi, h1, h2⟩ := hi
  intro B σ G H Q st k
  refine e_of (pe_lcW (te := fun σ H Q => ∀ s H0 C cl fp, Warm (Blk X scope s H0 C cl fp) pw → wE (Blk X scope s H0 C cl fp) elt σ H Q) hot hpn hN h1 ok (fun s H C cl fp => pg_name hN hix (hx s H C cl fp) (hf s H C cl fp)) (fun s H C cl fp => pts_w (ifs := []) (.inl rfl) s H C cl fp)
    (fun s H C cl fp hw => ⟨fun pins s' σ H' Q I h => (h s H C cl fp hw).run pins s' I⟩) (folded_plain hs)) ?_
  have h := lc_readingW (pw := pw) (S := S) (R := R) (elt := elt) (ifs := []) (scope := scope) (iter := iter) i (px := px) (fun _ => O1) (fun _ => O1) (fun _ => true) (fun k => (as.take k).map f) hin st h2 (fun k y hy s H C cl fp => ts_nil)
    (fun k y hy _ => ⟨f y, by show (as.take (k + 1)).map f = _; rw [take_succ hy, List.map_append]; rfl, fun s H C cl fp hw => helt y (List.mem_of_getElem? hy) s H C cl fp hw⟩) (fun k _ h => by cases h) rfl hz (Q := Q) (by
      intro p G' H' hp m st'
      rw [List.take_length] at st'
      exact k p G' H' hp m st')
  exact h
end
end Gd

/-! Own defs, called while an exception is handled -/
namespace Gd
open PySem L2
open L2H (Hot1 PinOk FnH RoomH roomH_of)
structure DefOkH (P : Program) (w : World) (K : Fg) (mg : Str → Option Value) (base : Heap) (k : Nat) (f : Addr) {ι : Type} (S : FS ι) : Prop where
  ex : ∃ fd ps, FnH P w K mg base CX0 k f fd ps (S.sp K) ∧ Binds K fd ps []
  kp : PySem.W.keepIn K (.ref f) = true -- -
abbrev cxDH (P : Program) (w : World) (K : Fg) (mg : Str → Option Value) (base : Heap) (N : List Str) (qual : Str) (st : Stmt) (f : Addr) (cdv : Value) (A : Around) (outer : List Env) (s : Shared) (H : Hp) (EE : XK) (p : Addr × Obj) : Cx := (L2H.cxH CX0 P w K mg base N qual (defScope st) f cdv A outer s H EE p).nox
section
variable {X : Cx} {B B1 : Bs} {δ δ' : List (Option Slot)} {O O1 O2 O3 : List Own} {a b c e o : Expr} {es : List Expr} {x : Str} {p pos : Pos} {s s1 s2 s3 : Slot} {ss : List Slot} {u : Bool} {pw : Addr × Obj} {ι : Type} {S : FS ι} {k : Nat} {f C : Addr}
theorem fn_okH {P : Program} {w : World} {K : Fg} {mg : Str → Option Value} {base : Heap} {x qual : Str} {st : Stmt} {f : Addr} {fd : FuncData} {N ps : List Str} {k : Nat} {ι : Type} {S : FS ι} (F : Fun K x qual st f fd) (sc : FnScope N ps (defScope st))
    (hb : Binds K fd ps []) (hl : ∀ i, (S.args i).length = ps.length)
    (h : ∀ (i : ι) (cdv : Value) (A : Around) (outer : List Env) (s : Shared) (G H : Hp) (D : Ends) (EE : XK) (pw : Addr × Obj), RoomH k (cxDH P w K mg base N qual st f cdv A outer s H EE pw).A → Hot1 (cxDH P w K mg base N qual st f cdv A outer s H EE pw).A pw → Warm (cxDH P w K mg base N qual st f cdv A outer s H EE pw) pw → S.pre i → Fin K ⟨(S.own i).map (·.p), G, H⟩ S i D → (∀ σ H', D.nx σ H' = D.rt .non H') →
      J (cxDH P w K mg base N qual st f cdv A outer s H EE pw) ⟨(S.own i).map (·.p), G, H⟩ ((S.args i).map some ++ List.replicate (N.length - (S.args i).length) none) (S.own i) (defBody st) D) :
    DefOkH P w K mg base (k + 1) f S := by
  obtain ⟨oc, od, kV, doc, pm, an, cdv, ct, osl, hfd, lk, hcd⟩ := F.ex
  subst hfd
  refine ⟨⟨_, ps, L2H.fn_ofH lk hcd sc (fun vs H Q EE hsp => ?_) (fun A outer s H vs Q EE pw hot hr hsp => ?_), hb⟩, F.kp⟩
  · obtain ⟨i, G, _, _, ha, _⟩ := hsp
    rw [ha.length, hl]
  · obtain ⟨i, G, hp, hgh, ha, how, hnd, hq⟩ := hsp
    refine ⟨_, PSs.nox pss_w, ?_⟩
    have hN : ps.length ≤ N.length := by have := congrArg List.length sc.pre; rw [List.length_take] at this; omega
    have hot' : Hot1 (cxDH P w K mg base N qual st f cdv A outer s H EE pw).A pw := hot
    refine h i cdv A outer s G H { nx := fun _ H' => Q .non H', rt := Q } EE pw hr hot' (Warm.of_pn hot' (by show pw ∈ [pw]; simp)) hp (fun v G' H' t ow hv => hq v G' H' t ow hv) (fun _ _ => rfl) _ G H ⟨Stp.refl hgh, env_start N ha, ?_, how, fun w hw => .inl (List.mem_map.mpr ⟨w, hw, rfl⟩), hnd⟩
    unfold L2.start
    rw [List.length_append, List.length_append, List.length_map, List.length_map, List.length_replicate, List.length_replicate, ha.length]
theorem run_fnW {pins : List (Addr × Obj)} {σ : L2.St} {H : Hp} {sh : Shared} {A : Around} {Q : VK} {us : List Value} {vs : List V} {fd : FuncData} {ps : List Str} {sp : Sp} (W : Warm X pw) (F : FnH X.prog X.w X.K X.mg X.base CX0 k f fd ps sp) (hr : RoomH k A) (hA : A.frames = X.A.frames) (hh : A.handled = X.A.handled) (hb : Binds X.K fd ps [])
    (I : Inv X pins σ H sh) (r : Vals vs us) (h : sp vs H Q E0) : wpAny (model X.prog X.w) A (call (.ref f) us) (EP X pins σ Q) X.xe sh := by
  (have hl : us.length = ps.length := by rw [← r.length]; exact F.len _ _ _ _ h)
  have b := hb sh us I.kIn (by rw [List.append_nil]; exact hl)
  rw [List.append_nil] at b
  have e := I.env0
  have e0 : Env0 X.prog X.w X.K X.mg X.base A X.stack sh H := ⟨by rw [hA]; exact e.frames, e.mod, e.bs, e.bsz, e.funs, e.frf, e.hok, e.bare⟩
  have hot : Hot1 A pw := by
    obtain ⟨q1, q2⟩ := W.hot
    exact ⟨by rw [hh]; exact q1, q2⟩
  refine wpAny_call (codeAny_mono (F.run A X.stack sh H ⟨us, []⟩ us vs Q E0 pw hr hot (W.ok I) e0 b r h) fun r s' hq => ?_)
  cases r with
  | error e => exact False.elim hq -- -
  | ok fl =>
    cases fl with
    | ret u => exact I.after hq
    | next => exact False.elim hq
    | brk => exact False.elim hq
    | cont => exact False.elim hq
/-- f(e, ..) -/
theorem e_callW (W : Warm X pw) (j : ι) (F : DefOkH X.prog X.w X.K X.mg X.base k f S) (hr : RoomH k X.A) (hm : X.mg x = some (.ref f)) (ha : EA X δ O (e :: es) ss (S.own j ++ O2)) (hp : S.pre j) (hres : S.res j = s := by rfl) (ho : S.own' j ++ O2 = O3 := by rfl) (hss : ss = S.args j := by rfl)
    (hw : (S.own' j).map (·.p) = (S.own j).map (·.p) := by rfl) (hg : Gl X x := by rfl)
    (hdb : (x == ("__debug__" : Str)) = false := by decide) (he : noStar e = true := by rfl) (hpl : noStars es = true := by rfl) :
    E X δ O (.Call (.Name x p) (e :: es) [] pos) s O3 := by
  subst hres ho
  obtain ⟨⟨fd, ps, F, hb⟩, hk⟩ := F
  intro B σ G H Q st q
  refine e_of (t := fun σ H Q => wA X (e :: es) σ H fun vs H1 => S.sp X.K vs H1 Q E0) ⟨fun pins sh σ H Q I h => ?_⟩ ?_
  · refine wpAny_Call_Name_kw (ld_glob I hg hm ?_ hdb)
    exact PySem.W.callWith_K (h₀ := X.base) I.ok.mod.kin hk (thn (pa_w.run pos pins sh σ H _ I h) fun us s1 ⟨vs, Hq, Iq, r, q⟩ => ⟨Iq.kIn, run_fnW W F hr rfl rfl hb Iq r q⟩) (starEach_plain he) (backTo_plain hpl)
  · exact ha B σ G H _ st fun vs G1 H1 m1 st1 hv => fs_use j hp st1 (by rw [← hss]; exact hv) hw fun v G' H' m2 st2 hv => q v G' H' (m1.trans m2) st2 hv
theorem roomH_make {A : Around} (r : RoomH (k + 1) A) (C : Addr) (us : List Value) (kw : List (Str × Value)) : RoomH k (A.under (.builtin "type.__call__" ⟨.ref C :: us, kw⟩)) := by
  have d := r.dp
  have u := r.un
  exact ⟨by rw [make_depth]; omega, by rw [make_units]; omega⟩
theorem run_makeW {pins : List (Addr × Obj)} {σ : L2.St} {H : Hp} {sh : Shared} {Q : VK} {us : List Value} {vs : List V} {fd : FuncData} {ps : List Str} {sp : Sp} (W : Warm X pw) (M : Mk X.K C f) (F : FnH X.prog X.w X.K X.mg X.base CX0 k f fd ps sp) (hr : RoomH (k + 1) X.A) (hb : Binds X.K fd ps [])
    (I : Inv X pins σ H sh) (r : Vals vs us) (h : ∀ x dx, H x = none → H dx = none → dx ≠ x → sp (.ref x :: vs) (upd (upd H dx (.own x)) x (.ins C dx [])) (fun v Hq => v = .non ∧ Q (.ref x) Hq) E0) :
    wpAny (model X.prog X.w) X.A (call (.ref C) us) (EP X pins σ Q) X.xe sh := by
  have hq := h (sh.heap.objs.size + 1) sh.heap.objs.size (I.hok.fresh (Nat.le_succ _)) (I.hok.fresh (Nat.le_refl _)) (Nat.ne_of_lt (Nat.lt_succ_self _))
  have Iq := Inv.made (C := C) I
  have rq : Vals (V.ref (sh.heap.objs.size + 1) :: vs) (Value.ref (sh.heap.objs.size + 1) :: us) := .cons rfl r
  have hl : (Value.ref (sh.heap.objs.size + 1) :: us).length = ps.length := by
    have e := rq.length
    rw [F.len _ _ _ _ hq] at e
    exact e.symm
  have b := hb _ (Value.ref (sh.heap.objs.size + 1) :: us) Iq.kIn (by rw [List.append_nil]; exact hl)
  rw [List.append_nil] at b
  refine wpAny_call (make_map (f := f) I.kIn M.makes M.init (beq_iff_eq.mp M.fn) (codeAny_mono (F.run _ X.stack _ _ ⟨Value.ref (sh.heap.objs.size + 1) :: us, []⟩ (Value.ref (sh.heap.objs.size + 1) :: us) _ _ E0 pw (roomH_make hr C us []) W.hot (W.ok Iq) (Iq.env0.make C us []) b rq hq) fun r s' hq' => ?_))
  cases r with
  | error e => exact False.elim hq'
  | ok fl =>
    cases fl with
    | ret u =>
      obtain ⟨v, H', Jq, rv, ev, q3⟩ := Iq.after hq'
      subst ev
      exact ⟨rv, ⟨V.ref (sh.heap.objs.size + 1), H', Jq, rfl, q3⟩⟩
    | next => exact False.elim hq' -- -
    | brk => exact False.elim hq'
    | cont => exact False.elim hq' -- -
/-- C(e, ..), a new owned instance -/
theorem ew_makeW {ψ : Addr → Own} (W : Warm X pw) (j : Addr → ι) (M : Mk X.K C f) (F : DefOkH X.prog X.w X.K X.mg X.base k f S) (hr : RoomH (k + 1) X.A) (hm : X.mg x = some (.ref C)) (ha : EA X δ O (e :: es) ss O2) (hp : ∀ q, S.pre (j q)) (hss : ∀ q, sRef q :: ss = S.args (j q) := by intro _; rfl)
    (ho : ∀ q, S.own (j q) = [oIns q C []] := by intro _; rfl) (ho' : ∀ q, S.own' (j q) = [ψ q] := by intro _; rfl) (hψ : ∀ q, (ψ q).p = q := by intro _; rfl) (hres : ∀ q, S.res (j q) = sNon := by intro _; rfl) (hg : Gl X x := by rfl)
    (hdb : (x == ("__debug__" : Str)) = false := by decide) (he : noStar e = true := by rfl) (hpl : noStars es = true := by rfl) :
    EW X δ O (.Call (.Name x p) (e :: es) [] pos) ψ O2 := by
  obtain ⟨⟨fd, ps, F, hb⟩, hk⟩ := F
  intro B σ G H Q st q
  refine e_of (t := fun σ H Q => wA X (e :: es) σ H fun vs H1 => ∀ x dx, H1 x = none → H1 dx = none → dx ≠ x → S.sp X.K (.ref x :: vs) (upd (upd H1 dx (.own x)) x (.ins C dx [])) (fun v Hq => v = .non ∧ Q (.ref x) Hq) E0) ⟨fun pins sh σ H Q I h => ?_⟩ ?_
  · refine wpAny_Call_Name_kw (ld_glob I hg hm ?_ hdb)
    exact PySem.W.callWith_K (h₀ := X.base) I.ok.mod.kin M.kp (thn (pa_w.run pos pins sh σ H _ I h) fun us s1 ⟨vs, Hq, Iq, r, q⟩ => ⟨Iq.kIn, run_makeW W M F hr hb Iq r q⟩) (starEach_plain he) (backTo_plain hpl)
  refine ha B σ G H _ st fun vs G1 H1 m1 st1 hvs y dx hy hdx hne => ?_
  have st2 := st1.freshG (o := HO.own y) hdx
  have hy2 : (upd H1 dx (HO.own y)) y = none := by rw [upd_ne (fun z => hne z.symm)]; exact hy
  have st3 := st2.freshO (w := oIns y C []) (o := .ins C dx []) hy2 rfl (insOk_nil dx)
  have sg : Same G1 (upd G1 dx (HO.own y)) := same_new (gnone st1.stp hdx)
  have st4 : Sta X.K B δ (S.own (j y) ++ O2) σ (upd G1 dx (HO.own y)) (upd (upd H1 dx (HO.own y)) y (.ins C dx [])) := by rw [ho]; exact st3
  refine fs_use (j y) (hp y) st4 (by rw [← hss]; exact .cons rfl (hvs.mono sg)) (by rw [ho, ho']; show [(ψ y).p] = [y]; rw [hψ]) fun v G' H' m3 st5 hv => ?_
  rw [hres] at hv
  rw [ho'] at st5
  exact ⟨hv, q y G' H' (none_of st1 hy) (m1.trans (sg.trans m3)) st5⟩
/-- x == y of two instances of one class, by its own __eq__ -/
theorem o_eqOW {tab tab2 : List (Str × Slot)} (W : Warm X pw) (j : ι) (hs : PySem.W.findIn X.K (.ref C) "__eq__" = some (some (.ref f))) (hf : PySem.W.isFn X.K (.ref f) = true) (F : DefOkH X.prog X.w X.K X.mg X.base k f S) (hr : RoomH k X.A) (hp : S.pre j) (hargs : S.args j = [sIns C tab, sIns C tab2] := by rfl) (hres : S.res j = sBl u := by rfl)
    (h1 : S.own j = [] := by rfl) (h2 : S.own' j = [] := by rfl) : OpE X (compareOp .Eq) (sIns C tab) (sIns C tab2) (sBl u) := by
  refine ⟨fun x y H Q => ∃ a b dx fs dy gs, x = .ref a ∧ y = .ref b ∧ H a = some (.ins C dx fs) ∧ H b = some (.ins C dy gs) ∧ S.sp X.K [.ref a, .ref b] H (fun z H' => z = .bl u ∧ Q (.bl u) H') E0, ?_, ?_⟩
  · intro pins s σ H x y v w Q I rx ry h
    obtain ⟨a, b, dx, fs, dy, gs, rfl, rfl, ha, hb, q⟩ := h
    cases rx
    cases ry
    obtain ⟨⟨fd, ps, F, hbs⟩, hk⟩ := F
    obtain ⟨od, J⟩ := inst_at I ha
    obtain ⟨od2, J2⟩ := inst_at I hb
    obtain ⟨m, hF⟩ := I.fr
    have hu : X.A.units < cLine := by have := hr.un; omega
    show wpAny (model X.prog X.w) X.A (richCompare .Eq (.ref a) (.ref b)) (EP X pins σ Q) X.xe s
    refine PySem.W.cmp_K (op := .Eq) (tb := .ref C) hu hF I.ok.mod.kin J J2.type (by simp [PySem.W.notFirst]) hs hf (wpAny_mono (run_fnW W (us := [.ref a, .ref b]) (vs := [.ref a, .ref b]) F hr rfl rfl hbs I (.cons rfl (.cons rfl .nil)) q) (fun w s' z => ?_) fun _ _ x => x)
    obtain ⟨z', H', I', rz, ez, qz⟩ := z
    subst ez
    cases rz
    exact ⟨.bl u, H', I', rfl, qz⟩
  · intro B δ O σ G H Q x y st hx hy q
    obtain ⟨p, dx, fs, rfl, hp'⟩ := sIns_at hx st.stp.gh
    obtain ⟨p2, dx2, fs2, rfl, hp2⟩ := sIns_at hy st.stp.gh
    refine ⟨p, p2, dx, fs, dx2, fs2, rfl, rfl, hp', hp2, fs_pure j hp st (by rw [hargs]; exact .cons hx (.cons hy .nil)) h1 h2 fun v G' H' m st' hv' => ?_⟩
    rw [hres] at hv'
    exact ⟨hv', q _ G' H' m st' rfl⟩
end
end Gd

/-! Defs that raise, and a try around a call that raises -/
namespace Gd
open PySem L2
open L2H (Hot1 PinOk FnH RoomH roomH_of)
/-- a def that raises an exception of the class at CB, for the arguments told -/
structure FR (ι : Type) where
  args : ι → List Slot
  pre : ι → Prop := fun _ => True
def FR.sp {ι : Type} (S : FR ι) (CB : Addr) (K : Fg) : Sp := fun vs H _ EE => ∃ (i : ι) (G : Hp), S.pre i ∧ Same G H ∧ AllS K G vs (S.args i) ∧ ∀ G' H', Stp ⟨[], G, H⟩ G' H' → EE (.ref CB) none H'
structure DefOkR (P : Program) (w : World) (K : Fg) (mg : Str → Option Value) (base : Heap) (k : Nat) (f CB : Addr) {ι : Type} (S : FR ι) : Prop where
  ex : ∃ fd ps, FnOk P w K mg base (L2N.CX P w) k f fd ps (S.sp CB K) ∧ Binds K fd ps []
  kp : PySem.W.keepIn K (.ref f) = true -- -
/-- the facts of an exception's class -/
structure ExcC (K : Fg) (mg : Str → Option Value) (n : Str) (CB : Addr) : Prop where
  g : mg n = some (.ref CB)
  x : PySem.W.excIn K CB [.type "ValueError", .type "Exception", .type "BaseException", .type "object"] "ValueError.__new__" = true
  k : PySem.W.keepIn K (.ref CB) = true
  b : PySem.W.subIn K (.ref CB) (.type "BaseException") = some true
  t : PySem.W.typeIn K (.ref CB) = some (.type "type")
  e : PySem.W.exmOne K (.ref CB) (.ref CB) = some true
abbrev cxR (P : Program) (w : World) (K : Fg) (mg : Str → Option Value) (base : Heap) (N : List Str) (qual : Str) (st : Stmt) (f : Addr) (cdv : Value) (A : Around) (outer : List Env) (s : Shared) (H : Hp) (EE : XK) : Cx := cxOf (L2N.CX P w) P w K mg base N qual (defScope st) f cdv A outer s H EE
section
variable {X : Cx} {B B1 : Bs} {δ δ' : List (Option Slot)} {O O1 O2 O3 : List Own} {a b c e o fe : Expr} {es : List Expr} {x : Str} {p pos rp tpos np hp : Pos} {s s1 s2 s3 : Slot} {ss : List Slot} {u : Bool} {ι : Type} {S : FR ι} {k : Nat} {f C CB : Addr} {D : Ends} {rest : List Stmt}
theorem fn_okR {P : Program} {w : World} {K : Fg} {mg : Str → Option Value} {base : Heap} {x qual : Str} {st : Stmt} {f : Addr} {fd : FuncData} {N ps : List Str} {k : Nat} {ι : Type} {S : FR ι} (F : Fun K x qual st f fd) (sc : FnScope N ps (defScope st))
    (hb : Binds K fd ps []) (hl : ∀ i, (S.args i).length = ps.length)
    (h : ∀ (i : ι) (cdv : Value) (A : Around) (outer : List Env) (s : Shared) (G H : Hp) (D : Ends) (EE : XK), Room k (cxR P w K mg base N qual st f cdv A outer s H EE).A → S.pre i → (∀ G' H', Stp ⟨[], G, H⟩ G' H' → EE (.ref CB) none H') →
      J (cxR P w K mg base N qual st f cdv A outer s H EE) ⟨[], G, H⟩ ((S.args i).map some ++ List.replicate (N.length - (S.args i).length) none) [] (defBody st) D) :
    DefOkR P w K mg base (k + 1) f CB S := by
  obtain ⟨oc, od, kV, doc, pm, an, cdv, ct, osl, hfd, lk, hcd⟩ := F.ex
  subst hfd
  refine ⟨⟨_, ps, fn_of lk hcd sc (fun vs H Q EE hsp => ?_) (fun A outer s H vs Q EE hr hsp => ?_), hb⟩, F.kp⟩
  · obtain ⟨i, G, _, _, ha, _⟩ := hsp
    rw [ha.length, hl]
  · obtain ⟨i, G, hp, hgh, ha, hq⟩ := hsp
    refine ⟨_, pss_w, ?_⟩
    have hN : ps.length ≤ N.length := by have := congrArg List.length sc.pre; rw [List.length_take] at this; omega
    refine h i cdv A outer s G H { nx := fun _ H' => Q .non H', rt := Q } EE hr hp hq _ G H ⟨Stp.refl hgh, env_start N ha, ?_, (fun w hw => by cases hw), (fun w hw => by cases hw), .nil⟩
    unfold L2.start
    rw [List.length_append, List.length_append, List.length_map, List.length_map, List.length_replicate, List.length_replicate, ha.length]
/-- raise X('m') -/
theorem j_raise {EE : XK} {P : Program} {w : World} {K : Fg} {mg : Str → Option Value} {base : Heap} {N : List Str} {qual : Str} {st : Stmt} {f : Addr} {cdv : Value} {A : Around} {outer : List Env} {sh : Shared} {H0 : Hp} {m : Str} {j : Nat} {p2 : Pos}
    (T : ExcC K mg x CB) (hE : ∀ σ G H, Sta K B δ O σ G H → EE (.ref CB) none H) (hg : Gl (cxR P w K mg base N qual st f cdv A outer sh H0 EE) x := by rfl) (hdb : (x == ("__debug__" : Str)) = false := by decide) :
    J (cxR P w K mg base N qual st f cdv A outer sh H0 EE) B δ O (.Raise (some (.Call (.Name x p) [.Constant (.str m) j p2] [] pos)) none rp :: rest) D :=
  j_cons fun σ G H st => s_of (L2N.ps_raise (W := fun cls d _ H => EE cls d H) rfl (L2N.takes_of rfl rfl rfl rfl) (L2N.pmk_own PySem.F.excBase_ValueError T.x T.g T.k (raises_own T.b T.t) hg hdb)) (hE σ G H st)
theorem takes0N : L2N.Takes X (fun _ _ _ _ => False) := fun _ _ x => by
  (obtain ⟨_, _, _, _, _, _, _, _, _, _, _, _, _, _, _, _, z⟩ := x)
  exact z.elim
/-- f(e, ..) of an instance, an exception is let out at the slots as they stand -/
def tCallOS (X : Cx) (C : Addr) (sp : Sp) (W : WX) (tf : TE) (t : TA) : TE := fun σ H Q => tf σ H fun y H1 => ∃ a, y = V.ref a ∧ t σ H1 fun vs H2 => (∃ dx fs, H2 a = some (.ins C dx fs)) ∧ sp (V.ref a :: vs) H2 Q fun cls d H3 => W cls d σ H3
theorem pe_callOS {tf : TE} {t : TA} {W : WX} {g : Addr} {fd : FuncData} {ps : List Str} {sp : Sp} (hf : PE X fe tf) (c : StX.CallO X.K C g) (F : FnOk X.prog X.w X.K X.mg X.base (L2N.CX X.prog X.w) k g fd ps sp) (hb : Binds X.K fd ps []) (hr : Room k X.A) (tk : L2N.Takes X W) (ha : PA X (e :: es) t)
    (ht : eval (.Call fe (e :: es) [] pos) X.env = (do callWith pos (← eval fe X.env) [] (backTo pos (starEach (e :: es) X.env)) (backToKw pos (keywordEach [] X.env))) := by rfl) -- -
    (he : starEach (e :: es) X.env = (false, eval e X.env) :: starEach es X.env := by rfl) (hpl : (backTo pos (starEach es X.env)).any (·.1) = false := by rfl) : PE X (.Call fe (e :: es) [] pos) (tCallOS X C sp W tf t) := by
  refine ⟨fun pins sh σ H Q I h => PyProof.Rows.Call_ (thn (hf.run pins sh σ H _ I h) fun u s1 ⟨y, Hq, Iq, ry, a, ey, q⟩ => ?_) ht⟩
  subst ey
  (obtain rfl : u = Value.ref a := ry)
  refine StX.callO_with (thn (ha.run pos pins s1 σ Hq _ Iq q) fun us s2 ⟨vs, Hr, Ir, r, ⟨dx, fs, hi⟩, q2⟩ => ?_) he hpl
  obtain ⟨ox, od, J, hd⟩ := StX.insC_at Ir (.inr ⟨dx, fs, hi⟩)
  refine ⟨⟨C, ox, od, J, hd⟩, wpAny_call (PySem.W.kco_code Ir.kIn J hd c.at_ c.fn c.fi ?_)⟩
  have hl : (Value.ref a :: us).length = ps.length := by
    have := F.len _ _ _ _ q2
    rw [← this, List.length_cons, List.length_cons, r.length]
  have b := hb s2 (Value.ref a :: us) Ir.kIn (by rw [List.append_nil]; exact hl)
  rw [List.append_nil] at b
  refine codeAny_mono (F.run X.A X.stack s2 Hr ⟨Value.ref a :: us, []⟩ (Value.ref a :: us) (V.ref a :: vs) Q (fun cls d H3 => W cls d σ H3) hr Ir.env0 b (.cons rfl r) q2) fun r s' hq => ?_
  cases r with
  | error e => exact L2N.passAt tk σ pins Hr s2 e s' Ir hq
  | ok fl =>
    cases fl with
    | ret u => exact Ir.after hq
    | next => exact False.elim hq
    | brk => exact False.elim hq
    | cont => exact False.elim hq
/-- try: f(e) / except X: suite, where f(e) raises X -/
theorem j_tryR {tab : List (Str × Slot)} {b₀ : Stmt} {suite : List Stmt} (j : ι) (T : ExcC X.K X.mg x CB) (c : StX.CallO X.K C f) (F : DefOkR X.prog X.w X.K X.mg X.base k f CB S) (hr : Room k X.A)
    (hfe : ∀ pn xe, E (X.tr pn xe) δ O fe (sIns C tab) O) (ha : ∀ pn xe, EA (X.tr pn xe) δ O [e] ss O) (hpre : S.pre j) (hargs : S.args j = sIns C tab :: ss)
    (hsu : ∀ a oe pn, Hot1 (X.suite a ((a, oe) :: pn)).A (a, oe) → J (X.suite a ((a, oe) :: pn)) B δ O (b₀ :: suite) { D with nx := fun σ H => wSs X rest D σ H })
    (hs : X.stack = X.env :: X.outer := by rfl) (hf : X.env.frame = some X.env.locals := by rfl) (hg : Gl X x := by rfl) (hdb : (x == ("__debug__" : Str)) = false := by decide) (hnc : noCompr (.Call fe [e] [] pos) = true := by rfl)
    (he : noStar e = true := by rfl) (ht : ∀ pn xe, eval (.Call fe [e] [] pos) (X.tr pn xe).env = (do callWith pos (← eval fe (X.tr pn xe).env) [] (backTo pos (starEach [e] (X.tr pn xe).env)) (backToKw pos (keywordEach [] (X.tr pn xe).env))) := by intro _ _; rfl) :
    J X B δ O (.Try [.Expr (.Call fe [e] [] pos) rp] [.ExceptHandler (some (.Name x np)) none (b₀ :: suite) hp] [] [] tpos :: rest) D := by
  refine j_cons fun σ G H st => s_of (L2N.ps_try_many (Wout := fun _ _ _ _ => False) (l := [(.ref CB, fun a cls d => fun D σ H => ∀ oe pn, L2N.Zn cls d oe → (∃ vs, oe.data = .fields vs) → wSs (X.suite a ((a, oe) :: pn)) (b₀ :: suite) D σ H)])
    (tb := fun W D σ H => ∀ pn xe, L2N.Takes (X.tr pn xe) W → wSs (X.tr pn xe) [.Expr (.Call fe [e] [] pos) rp] D σ H) hs hf takes0N
    (fun W pn xe tk _ => ⟨fun pins s σ H D I h => (h pn xe tk).run pins s I⟩)
    (.cons ⟨hg, hdb, .inl T.g⟩ (fun a oe cls d pn hz hd => ⟨fun pins s σ H D I h => (h oe pn hz hd).run pins s I⟩) .nil)) ?_
  intro pn xe tk
  obtain ⟨⟨fd, ps, F, hb⟩, hk⟩ := F
  refine ss_of (pss_cons (ps_expr (pe_callOS (fe := fe) pe_w c F hb (by exact hr) tk pa_w (ht pn xe) (starEach_plain he) (by rfl)) (swaps_plain hnc)) pss_nil) ?_
  refine hfe pn xe B σ G H _ st fun v G1 H1 m1 st1 hv => ?_
  have hv0 := hv
  obtain ⟨q, dx, fs, rfl, hq⟩ := sIns_at hv (Same.refl G1)
  refine ⟨q, rfl, ?_⟩
  refine ha pn xe B σ G1 H1 _ st1 fun vs G2 H2 m2 st2 hvs => ⟨⟨dx, fs, st2.stp.gh _ _ (m2 _ _ hq)⟩, ?_⟩
  refine ⟨j, G2, hpre, st2.stp.gh, by rw [hargs]; exact .cons ((sIns C tab).mono m2 hv0) hvs, fun G' H' t => ?_⟩
  refine ⟨true, T.e, fun _ a ha' oe pn' hz hd => ?_, fun h => nomatch h⟩
  obtain ⟨vs', hd'⟩ := hd
  have st3 : Sta X.K B δ O σ G' H' := Sta.ran (W := []) (W' := []) (O := O) st2 t rfl (fun w hw => by cases hw)
  exact hsu a oe pn' ⟨rfl, vs', hd', hz.2.2 vs' hd'⟩ σ G' H' st3
end
end Gd

/-! list(o), where the own __iter__ gives the iterator of a tuple, and __len__ is an own one -/
namespace Gd
open L2 PySem PySem.Spec PyProof.Rows
section
variable {prog : Program} {w : World} {A : Around} {E : Value → Shared → Prop} {s : Shared} {it : Addr}
theorem tuple_end_at {t : Addr} {i : Nat} {items} {Q : Option Value → Shared → Prop} (hh : A.handled = none) (hit : s.heap.IsTupleIter it t i) (ht : s.heap.IsTuple t items) (hx : items[i]? = none)
    (hQ : ∀ h', Heap.ExtBut it s.heap h' → (∃ o, h'.get? it = some o) → Q none { s with heap := h' }) : wpAny (model prog w) A (pyNext (.ref it)) Q E s := by
  obtain ⟨o, ho, hc, hd⟩ := id hit; obtain ⟨ol, hol, _, nl, hdl⟩ := ht
  unfold pyNext
  refine wpAny_bind (wpAny_attempt (wpAny_callSpecial?_slot (name := Str.ofString "__next__") hit.typeIs F.slot_tuple_iterator_next (wpAny_call_entry F.slot_tuple_iterator_next hit.typeIs F.entry_tuple_iterator_next ?_ (F.args_tuple_iterator_next_1 _))))
  show wpAny _ _ (field (.ref it) 0 >>= _) _ _ s; refine wpAny_bind (wpAny_field ho hd (x := .ref t) rfl ?_)
  show wpAny _ _ (if (Value.ref t == Value.none) = true then _ else _) _ _ s; rw [if_neg (show ¬ ((Value.ref t == Value.none) = true) from Bool.false_ne_true)]
  show wpAny _ _ (field (.ref it) 1 >>= _) _ _ s; refine wpAny_bind (wpAny_field ho hd (x := .int i 0) rfl ?_)
  show wpAny _ _ (seqItems? (.ref t) >>= _) _ _ s; refine wpAny_bind (wpAny_seqItems hol hdl ?_)
  (simp only [Int.toNat_natCast, hx])
  (refine wpAny_bind (wpAny_rule (wpAny_bind (wpAny_setField ho hd (by simp) ?_))))
  show wpAny _ _ (newExc (.type "StopIteration") [] >>= _) _ _ _; refine wpAny_bind ?_; simp only [newExc, newTuple]
  refine wpAny_bind (wpAny_newObj_type ?_ (by size_fits)); refine wpAny_bind (m := firstArgMember _ _) (wpAny_of_eq (a := Value.none) (by first | rfl | (simp only [firstArgMember]; rfl)) ?_); refine wpAny_newObj_type ?_ (by size_fits)
  simp only [raiseNew]; refine wpAny_bind (wpAny_handled ?_)
  (rw [show A.in1.handled = none from hh])
  (refine wpAny_bind (wpAny_pure (wpAny_throw ?_)))
  (refine wpAny_bind (wpAny_isInstance (T := "StopIteration") (b := true) ⟨_, Heap.get?_push_size _ rfl, rfl⟩ isSubtype_stop ?_))
  refine wpAny_pure (hQ _ (((Heap.SameBut.update ..).extBut.push _).push _) ⟨_, Heap.get?_push_of_some _ (Heap.get?_push_of_some _ (Heap.get?_update_self _ ho (Obj.isFreed_of_fields (Obj.data_mapFields hd _))))⟩)
end
/-- at it an iterator of the tuple at t, the next place is i -/
def TitO (t it : Addr) (i : Nat) : HO := .ext fun h => h.IsTupleIter it t i
def TitE (it : Addr) : HO := .ext fun h => ∃ o, h.get? it = some o
section
variable {X : Cx} {pins : List (Addr × Obj)} {σ : L2.St} {H : Hp} {s : Shared} {t it : Addr} {i : Nat}
theorem titO_ok {P : Program} {w : World} {H : Hp} {h : Heap} (e : h.IsTupleIter it t i) : ObjOk P w H h it (TitO t it i) := ⟨e, ⟨_, e.choose_spec.1⟩, fun h1 h2 ⟨o, ho, r⟩ k => ⟨o, k o ho, r⟩⟩
theorem titE_ok {P : Program} {w : World} {H : Hp} {h : Heap} (e : ∃ o, h.get? it = some o) : ObjOk P w H h it (TitE it) := ⟨e, e, fun h1 h2 ⟨o, ho⟩ k => ⟨o, k o ho⟩⟩
theorem titO_get (I : Inv X pins σ H s) (e : H it = some (TitO t it i)) : s.heap.IsTupleIter it t i := (I.hok it _ e).1
/-- iter(t), t a tuple -/
def rIterT (K : PySem.W.Frag) : List V → Hp → VK → Prop := fun xs H Q => ∃ (t : Addr) (zs : List V), xs = [.ref t] ∧ SqT K H t zs ∧ ∀ it, H it = none → Q (.ref it) (upd H it (TitO t it 0))
theorem call_iterT : CallR X (.builtin "iter") (rIterT X.K) := by
  (intro pins s σ H xs us Q I r h)
  obtain ⟨t, zs, rfl, hq, q⟩ := h; obtain rfl := Vals.ref1 r
  obtain ⟨its, rv, pl, hz⟩ := I.tuple hq
  (refine Calls.call_function_entry (by decide +kernel) (by decide +kernel) PySem.W.kdk_entry_iter (PySem.W.kdk_args_iter _) ?_)
  unfold Builtin.«iter»
  refine wpAny_bind (m := someArgs "iter" 1 2 _) (wpAny_of_eq (a := [Value.ref t]) (by first | rfl | kernel_rfl!) ?_)
  show wpAny _ _ (pyIter (.ref t) >>= _) _ _ _
  refine wpAny_bind (wpAny_pyIter_tuple (show s.heap.IsTuple t its.toArray from pl) (wpAny_pure ⟨_, rfl, ?_⟩))
  exact ⟨.ref s.heap.objs.size, _, I.laid (t' := s.toks) (fun b u e => Heap.get?_push_of_some _ e) (Nat.le_refl _) (titO_ok ⟨_, Heap.get?_push_size _ rfl, rfl, rfl⟩), rfl, q _ (I.hok.fresh (Nat.le_refl _))⟩
/-- what __iter__ promises: the iterator of the tuple in the field f' -/
def spIter (C : Addr) (f' : Str) (K : PySem.W.Frag) : Sp := fun vs H Q _ => ∃ a dx fs t zs, vs = [.ref a] ∧ H a = some (.ins C dx fs) ∧ fs.lookup f' = some (.ref t) ∧ SqT K H t zs ∧ ∀ it, H it = none → Q (.ref it) (upd H it (TitO t it 0))
structure ItT (K : PySem.W.Frag) (C fi fl : Addr) : Prop where
  it : PySem.W.findIn K (.ref C) "__iter__" = some (some (.ref fi)) -- -
  itF : PySem.W.isFn K (.ref fi) = true -- -
  ln : PySem.W.findIn K (.ref C) "__len__" = some (some (.ref fl))
  lnF : PySem.W.isFn K (.ref fl) = true
variable {C fi fl q a : Addr} {f' : Str}
/-- the loop that fills the list at q -/
theorem tit_loop {A1 : Around} {Rs : Result → Shared → Prop} {zs : List V} (hh : A1.in1.handled = none) (hqt : it ≠ q) (tk : ∀ xs o, SqT X.K (upd (upd H q (.lst xs)) it o) t zs) (hz : zs.length < sizeLine)
    (hdone : ∀ s, Inv X pins σ (upd (upd H q (.lst zs)) it (TitE it)) s → Rs (.ok (.ret .none)) s) :
    ∀ (n i : Nat) (s : Shared), i + n = zs.length → Inv X pins σ (upd (upd H q (.lst (zs.take i))) it (TitO t it i)) s → codeAny (model X.prog X.w) A1 (.builtin "list.extend.loop" ⟨[.ref q, .ref it, .none], []⟩) Rs s := by
  intro n
  induction n with
  | zero =>
    intro i s hn I
    (refine codeAny_builtin PySem.F.entry_extend_loop ?_)
    (rw [Around.under_plainId PySem.F.plain_extend_loop _])
    show wpAny _ A1.in1 (pyNext (.ref it) >>= _) _ _ s
    obtain ⟨its, rv, pq, hzz⟩ := I.tuple (tk _ _)
    have hl := rv.length
    have hg := titO_get I upd_same
    refine wpAny_bind (tuple_end_at hh hg (show s.heap.IsTuple t its.toArray from pq) (by simp; omega) fun h' eb ex => ?_)
    refine wpAny_pure (hdone _ ?_)
    have I2 := I.write (x := it) (e := it) (o := TitE it) (t' := s.toks) (by rw [upd_same]; exact True.intro) (.inl rfl) (fun b o nb z => eb b o nb z) ex (titE_ok ex)
    rw [upd_upd, List.take_of_length_le (by omega)] at I2
    exact I2
  | succ n ih =>
    intro i s hn I
    (refine codeAny_builtin PySem.F.entry_extend_loop ?_)
    (rw [Around.under_plainId PySem.F.plain_extend_loop _])
    show wpAny _ A1.in1 (pyNext (.ref it) >>= _) _ _ s
    obtain ⟨its, rv, pq, hzz⟩ := I.tuple (tk _ _)
    have hg := titO_get I upd_same
    have hlt : i < zs.length := by omega
    obtain ⟨u, hu, ru⟩ := rv.get (List.getElem?_eq_getElem hlt)
    refine wpAny_bind (wpAny_pyNext_tuple_item hg (show s.heap.IsTuple t its.toArray from pq) (x := u) (by simpa using hu) fun h' e' sb => ?_)
    have I2 := I.write (x := it) (e := it) (o := TitO t it (i + 1)) (t' := s.toks) (by rw [upd_same]; exact True.intro) (.inl rfl) (fun b o nb z => (sb.2 b nb).trans z) ⟨_, e'.choose_spec.1⟩ (titO_ok e')
    rw [upd_upd] at I2
    have hq2 : (upd (upd H q (.lst (zs.take i))) it (TitO t it (i + 1))) q = some (.lst (zs.take i)) := by rw [upd_ne (Ne.symm hqt), upd_same]
    (show wpAny _ A1.in1 (updateSeq q (·.push u) >>= _) _ _ _)
    obtain ⟨z, its2, k, r2, hl2, e⟩ := I2.lstM hq2
    have hlen : (zs.take i).length = i := by rw [List.length_take]; omega
    refine wpAny_bind (wpAny_updateSeq e rfl (wpAny_pure ⟨plainId_quiet PySem.F.plain_extend_loop _, ?_⟩) (by rw [List.size_toArray]; omega) (by show (its2.toArray.push u).size ≤ sizeLine + 1; rw [Array.size_push, List.size_toArray]; omega))
    have I3 := I2.lset (f := (·.push u)) (its' := its2 ++ [u]) (t' := s.toks) hq2 e (by simp) (r2.append (.cons ru .nil)) (by rw [List.length_append, List.length_singleton]; omega)
    (refine ih (i + 1) _ (by omega) ?_)
    have eH : upd (upd (upd H q (.lst (zs.take i))) it (TitO t it (i + 1))) q (.lst (zs.take i ++ [zs[i]])) = upd (upd H q (.lst (zs.take (i + 1)))) it (TitO t it (i + 1)) := by
      rw [take_succ (List.getElem?_eq_getElem hlt)]
      funext b
      unfold upd
      by_cases h1 : b = q
      · subst h1; simp [Ne.symm hqt]
      · simp [h1]
    rw [← eH]
    exact I3
variable {k1 k2 : Nat}
theorem run_calm {A : Around} {Q : VK} {us : List Value} {ws : List V} {sp : Sp} {k : Nat} {f : Addr} (F : FnR X.prog X.w X.K X.mg X.base CX0 k f sp) (hr : Room k A) (hA : A.frames = X.A.frames) (I : Inv X pins σ H s) (r : Vals ws us) (h : sp ws H Q E0) :
    wpAny (model X.prog X.w) A (call (.ref f) us) (EP X pins σ Q) (fun _ _ => False) s := by
  have e := I.env0
  have e0 : Env0 X.prog X.w X.K X.mg X.base A X.stack s H := ⟨by rw [hA]; exact e.frames, e.mod, e.bs, e.bsz, e.funs, e.frf, e.hok, e.bare⟩
  refine wpAny_call (codeAny_mono (F A X.stack s H us ws Q E0 hr e0 r h) fun r s' hq => ?_)
  cases r with
  | error e => exact hq
  | ok fl =>
    cases fl with
    | ret u => exact I.after hq
    | next => exact False.elim hq
    | brk => exact False.elim hq
    | cont => exact False.elim hq
/-- how long it is (only whether): the own __len__ runs -/
theorem hint_own {A1 : Around} {ns : Nat} {sp : Sp} (hc : ItT X.K C fi fl) (FL : FnR X.prog X.w X.K X.mg X.base CX0 k2 fl sp) (hr : Room (k2 + 1) A1) (hA : A1.frames = X.A.frames) (hz : ns < sizeLine) (I : Inv X pins σ H s) {dx : Addr} {fs : List (Str × V)} (ha : H a = some (.ins C dx fs))
    {Rh : Hp → Prop} (hsp : sp [.ref a] H (fun v H' => v = .int ns ∧ Rh H') E0) {Q : Bool → Shared → Prop} {EE : Value → Shared → Prop} (hQ : ∀ b H' s', Inv X pins σ H' s' → Rh H' → Q b s') : wpAny (model X.prog X.w) A1 (Builtin.List.listLengthHint (.ref a)) Q EE s := by
  (obtain ⟨mA, J, _⟩ := ins_get I.hok ha)
  obtain ⟨od, J, _⟩ := J.look
  obtain ⟨m0, hF⟩ := I.fr
  (unfold Builtin.List.listLengthHint)
  refine wpAny_bind (wpAny_bind (J.type.here ((PySem.W.looks_findIn I.kIn hc.ln).here ?_)))
  (refine PySem.W.KFB.if_not rfl ?_)
  show wpAny _ _ (if true = true then _ else _) _ _ _
  rw [if_pos rfl]
  refine wpAny_bind (wpAny_rule (wpAny_bind (wpAny_attempt ?_)))
  refine PySem.W.len_K hF I.ok.mod.kin J hc.ln hc.lnF (wpAny_mono (run_calm (us := [.ref a]) (ws := [.ref a]) FL hr.in1 hA I (.cons rfl .nil) hsp) (fun w s' z => ?_) fun _ _ x => False.elim x)
  obtain ⟨z', H', I', rz, ez, eH⟩ := z
  subst ez
  obtain ⟨t, rfl⟩ := rz
  refine ⟨⟨by omega, Int.lt_trans (Int.ofNat_lt.mpr hz) (by decide)⟩, ?_⟩
  refine wpAny_bind (wpAny_of_eq (a := some (ns : Int)) (by first | rfl | kernel_rfl) ?_)
  show wpAny _ _ (if Builtin.List.listTooLong (ns : Int).toNat = true then _ else pure ((ns : Int) != 0)) _ _ _
  rw [if_neg (by unfold Builtin.List.listTooLong; rw [Int.toNat_natCast]; simp; omega)]
  exact wpAny_pure (hQ _ _ _ (I'.tok _) eH)
/-- the list at q is filled from the instance at a -/
def rOwnT (C : Addr) (f' : Str) (spL : Sp) (K : PySem.W.Frag) : List V → Hp → VK → Prop := fun xs H Q => ∃ a dx fs t zs, xs = [.ref a] ∧ H a = some (.ins C dx fs) ∧ fs.lookup f' = some (.ref t) ∧ SqT K H t zs ∧ zs.length < sizeLine ∧
  ∀ q it, H q = none → H it = none → it ≠ q → spL [.ref a] (upd (upd H q (.lst [])) it (TitO t it 0)) (fun v H' => v = .int zs.length ∧ (H' q = some (.lst []) ∧ H' it = some (TitO t it 0) ∧ (∀ xs o, SqT K (upd (upd H' q (.lst xs)) it o) t zs) ∧ Q (.ref q) (upd (upd H' q (.lst zs)) it (TitE it)))) E0
theorem call_listOwnT {spL : Sp} (hcm : X.calm = true) (hc : ItT X.K C fi fl) (FI : FnR X.prog X.w X.K X.mg X.base CX0 k1 fi (spIter C f' X.K)) (FL : FnR X.prog X.w X.K X.mg X.base CX0 k2 fl spL) (hr1 : Room (k1 + 2) X.A) (hr2 : Room (k2 + 3) X.A) : CallR X (.type "list") (rOwnT C f' spL X.K) := by
  (intro pins s σ H xs us Q I rv h)
  obtain ⟨a, dx, fs, t, zs, rfl, ha, hf, hq, hz, hh⟩ := h
  obtain ⟨u, rfl, ru⟩ := rv.one
  cases ru
  refine callType_codes (Q₁ := fun obj s₁ => obj = .ref s.heap.objs.size ∧ s₁ = { s with heap := s.heap.push { cls := .type "list", data := .seq #[] } }) PySem.F.called_list (PySem.F.typeCall_list_1 _) PySem.F.entry_list_init (code_list_new _ ⟨rfl, rfl⟩) fun obj s₁ h₁ => ?_
  obtain ⟨rfl, rfl⟩ := h₁
  (have hS : (s.heap.push { cls := .type "list", data := .seq #[] }).get? s.heap.objs.size = some { cls := .type "list", data := .seq #[] } := Heap.get?_push_size _ rfl)
  (refine ⟨⟨_, hS, rfl⟩, PySem.F.args_list_init_2 _ _, ?_⟩)
  (have fr : H s.heap.objs.size = none := I.hok.fresh (Nat.le_refl _))
  (have I1 : Inv X pins σ (upd H s.heap.objs.size (.lst [])) { s with heap := s.heap.push { cls := .type "list", data := .seq #[] } } := I.lnew (its := []) (t' := s.toks) .nil (Nat.zero_le _))
  (show wpAny _ _ (do let old ← Builtin.List.listItems (.ref s.heap.objs.size); Builtin.List.listUpdate (.ref s.heap.objs.size) (fun _ => #[]); letGo old.toList.reverse; Builtin.List.listExtendWith (.ref s.heap.objs.size) (.ref a) .none) _ _ _)
  refine wpAny_bind ?_; unfold Builtin.List.listItems
  (refine wpAny_bind (wpAny_seqItems hS rfl (wpAny_pure ?_)))
  (show wpAny _ _ (updateSeq s.heap.objs.size (fun _ => #[]) >>= fun _ => letGo (#[] : Array Value).toList.reverse >>= fun _ => Builtin.List.listExtendWith (.ref s.heap.objs.size) (.ref a) .none) _ _ _)
  (refine wpAny_bind (wpAny_updateSeq hS rfl ?_))
  (have I2 := I1.lset (f := fun _ => #[]) (its := []) (its' := []) (ys := []) (t' := s.toks) upd_same hS rfl .nil (Nat.zero_le _))
  rw [upd_upd] at I2
  (refine wpAny_bind (wpAny_letGo ?_))
  (have ha2 : upd H s.heap.objs.size (.lst []) a = some (.ins C dx fs) := by rw [upd_ne (ne_of_none ha fr)]; exact ha)
  have hq2 : SqT X.K (upd H s.heap.objs.size (.lst [])) t zs := sqT_up (fun b u e => by rw [upd_ne (ne_of_none e fr)]; exact e) hq
  generalize hqd : s.heap.objs.size = q at *
  generalize ({ s with heap := _ } : Shared) = sq at I2 ⊢
  have hne : q ≠ a := ne_of (H := upd H q (.lst [])) upd_same ha2 (fun z => nomatch z)
  obtain ⟨mA, J, _⟩ := ins_get I2.hok ha2
  obtain ⟨od, J, _⟩ := J.look
  obtain ⟨m0, hF⟩ := I2.fr
  have hu : X.A.in1.in1.frames = X.A.frames := rfl
  (unfold Builtin.List.listExtendWith)
  (refine wpAny_bind (J.type.here ?_))
  (have h1 : Builtin.List.listSameRef (.ref q) (.ref a) = false := by simp [Builtin.List.listSameRef, hne])
  (have h2 : (Value.ref C == Value.type "list") = false := rfl)
  (have h3 : (Value.ref C == Value.type "tuple") = false := rfl)
  (simp only [h1, h2, h3, Bool.or_false, Bool.false_eq_true, if_false])
  refine wpAny_bind (PySem.W.owit_iter hF I2.ok.mod.kin J hc.it hc.itF ?_)
  have hspI : spIter C f' X.K [.ref a] (upd H q (.lst [])) (fun v H' => ∃ it, upd H q (.lst []) it = none ∧ v = .ref it ∧ H' = upd (upd H q (.lst [])) it (TitO t it 0)) E0 := ⟨a, dx, fs, t, zs, rfl, ha2, hf, hq2, fun it hit => ⟨it, hit, rfl, rfl⟩⟩
  refine wpAny_mono (run_calm (us := [.ref a]) (ws := [.ref a]) FI hr1.in1.in1 rfl I2 (.cons rfl .nil) hspI) (fun w s' z => ?_) fun _ _ x => False.elim x
  obtain ⟨z', H', I3, rz, it, hit, ez, eH⟩ := z
  subst ez eH
  cases rz
  have hg := titO_get I3 upd_same
  have hqt : it ≠ q := fun e => by rw [e, upd_same] at hit; cases hit
  have hHit : H it = none := by rw [upd_ne hqt] at hit; exact hit
  unfold PySem.W.OwitIt
  refine wpAny_specialOf hg.typeIs F.slot_tuple_iterator_next.lookup ?_
  have hRm : Room (k2 + 1) X.A.in1.in1 := hr2.in1.in1
  have hail : (upd (upd H q (.lst [])) it (TitO t it 0)) a = some (.ins C dx fs) := by rw [upd_ne (ne_of_none ha2 hit)]; exact ha2
  refine wpAny_bind (wpAny_holding (hint_own hc FL hRm rfl hz I3 hail (hh q it fr hHit hqt) fun room H4 s4 I4 ⟨e1, e2, e3, qq⟩ => ?_))
  have e0 : upd (upd H4 q (.lst (zs.take 0))) it (TitO t it 0) = H4 := by
    rw [List.take_zero]
    funext b
    unfold upd
    by_cases hb : b = it
    · rw [if_pos hb, hb, e2]
    · rw [if_neg hb]
      by_cases hb2 : b = q
      · rw [if_pos hb2, hb2, e1]
      · rw [if_neg hb2]
  have loop : ∀ s5, Inv X pins σ H4 s5 → codeAny (model X.prog X.w) X.A.in1 (.builtin "list.extend.loop" ⟨[.ref q, .ref it, .none], []⟩) (wants (fun r s₂ => r = .none ∧ EP X pins σ Q (.ref q) s₂) X.xe) s5 := fun s5 I5 => by
    refine tit_loop (A1 := X.A.in1) (Rs := wants (fun r s₂ => r = .none ∧ EP X pins σ Q (.ref q) s₂) X.xe) (show X.A.in1.in1.handled = none from I5.ok.hd hcm) hqt e3 hz (fun s6 I6 => ⟨rfl, .ref q, _, I6, rfl, qq⟩) zs.length 0 s5 (by omega) ?_
    rw [e0]
    exact I5
  refine wpAny_ite_split (fun _ => ?_) (fun _ => wpAny_pure ⟨plainId_quiet PySem.F.plain_extend_loop _, loop _ I4⟩)
  refine wpAny_bind (wpAny_rule ?_); refine wpAny_bind ?_
  (show wpAny _ _ (updateSeq q (·.push .none) >>= fun _ => updateSeq q (·.pop)) _ _ _)
  obtain ⟨z, its, k, r3, hl3, e3'⟩ := I4.lstM e1
  cases r3
  refine wpAny_bind (wpAny_updateSeq e3' rfl ?_)
  have J2 := I4.lset (f := (·.push Value.none)) (its' := [Value.none]) (ys := [.non]) (t' := s4.toks) e1 e3' (by simp) (.cons rfl .nil) (by rw [List.length_singleton, sizeLine_eq]; decide)
  obtain ⟨z4, its4, k4, r4, hl4, e4⟩ := J2.lstM upd_same
  (obtain ⟨u4, rfl, ru4⟩ := r4.one)
  (refine wpAny_updateSeq e4 rfl ?_ (by show 1 ≤ sizeLine; rw [sizeLine_eq]; decide) (by show 0 ≤ sizeLine + 1; exact Nat.zero_le _))
  refine wpAny_pure ⟨plainId_quiet PySem.F.plain_extend_loop _, loop _ ?_⟩
  have J3 := J2.lset (f := (·.pop)) (its := [u4]) (its' := []) (ys := []) (t' := s4.toks) upd_same e4 (by rfl) .nil (Nat.zero_le _)
  rw [upd_upd] at J3
  have hHq : upd H4 q (.lst []) = H4 := by
    funext b
    by_cases hb : b = q
    · rw [hb, upd_same, e1]
    · rw [upd_ne hb]
  rw [hHq] at J3
  exact J3
end
end Gd

namespace Gd
open PySem L2
/-- the iterator of the tuple at t, owned -/
def oIt (t it : Addr) (i : Nat) : Own := ⟨it, fun _ _ o => o = TitO t it i, fun _ h => h⟩
def oAny (it : Addr) : Own := ⟨it, fun _ _ _ => True, fun _ _ => trivial⟩
section
variable {X : Cx} {B : Bs} {δ : List (Option Slot)} {O O1 O2 : List Own} {α : Type} {R : α → Slot} {ι : Type} {S : FS ι} {C fi fl : Addr} {f' : Str} {k1 k2 : Nat} {tab : List (Str × Slot)} {as : List α}
/-- list(o) -/
theorem c_listOwn (jf : Nat) (j : ι) (hc : ItT X.K C fi fl) (FI : FnR X.prog X.w X.K X.mg X.base CX0 k1 fi (spIter C f' X.K)) (FL : DefX X k2 fl [] S) (hr1 : Room (k1 + 2) X.A) (hr2 : Room (k2 + 3) X.A) (hp : S.pre j) (hz : as.length < sizeLine) (hj : tab[jf]? = some (f', sTupl R as) := by rfl)
    (hargs : S.args j = [sIns C tab] := by rfl) (hres : S.res j = sInt as.length := by rfl) (h1 : S.own j = [] := by rfl) (h2 : S.own' j = [] := by rfl) (hcm : X.calm = true := by rfl) : CallW X (.type "list") [sIns C tab] (fun p => oLst p R as) :=
  ⟨rOwnT C f' (S.sp X.K) X.K, call_listOwnT hcm hc FI FL.raw hr1 hr2, fun B δ O σ G H Q xs st h k => by
    obtain ⟨v, rfl, hv⟩ := alls1 h
    have hv0 := hv
    obtain ⟨p, o, rfl, hpp, dx, fs, rfl, hlen, hf, hno⟩ := hv
    obtain ⟨v', hv', hok⟩ := hf f' _ (List.mem_of_getElem? hj)
    obtain ⟨t, zs, rfl, ht, r⟩ := hok
    have hl := r.length
    refine ⟨p, dx, fs, t, zs, rfl, st.stp.gh _ _ hpp, hv', sqT_up st.stp.gh ht, by omega, fun q it hq hit hne => ?_⟩
    have hit' : (upd H q (.lst [])) it = none := by rw [upd_ne hne]; exact hit
    have st2 := st.freshO (w := oLst q R []) hq rfl ⟨[], rfl, .nil⟩
    have st3 := st2.freshO (w := oIt t it 0) hit' rfl rfl
    refine fs_pure j hp st3 (by rw [hargs]; exact .cons hv0 .nil) h1 h2 fun v G' H' m st4 hv4 => ?_
    rw [hres] at hv4
    have hv4 : v = V.int as.length := hv4
    obtain ⟨o1, p1, p2, p3⟩ := st4.own (oIt t it 0) (by simp)
    have p3 : o1 = TitO t it 0 := p3
    obtain ⟨o2, q1, q2, ac, q3, q4⟩ := st4.own (oLst q R []) (by simp)
    cases q4
    have p1 : H' it = some o1 := p1
    have q1 : H' q = some o2 := q1
    have p2 : G' it = none := p2
    have q2 : G' q = none := q2
    subst p3 q3
    have up : ∀ xs o, Same G' (upd (upd H' q (.lst xs)) it o) := fun xs o b u e => by
      rw [upd_ne (fun z => by rw [z, p2] at e; cases e), upd_ne (fun z => by rw [z, q2] at e; cases e)]
      exact st4.stp.gh _ _ e
    refine ⟨by rw [hv4, hl], q1, p1, fun xs o => sqT_up (up xs o) (sqT_mono m ht), ?_⟩
    have s5 := st4.putI (j := 1) (w := oLst q R []) (w' := oLst q R as) (ob := .lst zs) rfl rfl ⟨zs, rfl, r.mono m⟩
    have s6 := s5.putI (j := 0) (w := oIt t it 0) (w' := oAny it) (ob := TitE it) rfl rfl trivial
    have s7 : Sta X.K B δ (oLst q R as :: O) σ G' (upd (upd H' q (.lst zs)) it (TitE it)) := s6.perm (fun w hw => List.mem_cons_of_mem _ hw) (by
      have nd := s6.nd
      have nd : ((oAny it :: oLst q R as :: O).map (·.p)).Nodup := nd
      (rw [List.map_cons, List.nodup_cons] at nd)
      exact nd.2)
    exact k q G' _ (none_of st hq) m s7⟩
end
end Gd

namespace K50
open PySem L2 Gd
def top (i : Nat) : Stmt := PySem.Challenge.pw_typingroom_k50_whole_patches.main.body.getD i (.Pass ⟨0, 0, 0, 0⟩)
abbrev sCell : Stmt := top 30
abbrev sDraw : Stmt := top 31
abbrev sNumber : Stmt := top 32
abbrev sNext : Stmt := top 33
abbrev sPick : Stmt := top 34
/-! ### the draws, as functions -/
def cellAt (ns : List Int) (k : Int) : Int := ns.getD k.toNat 0
structure Bt (mg : Str → Option Value) : Prop where
  len : mg "len" = none
  int : mg "int" = none
  range : mg "range" = none
section
variable {P : Program} {w : World} {K : Fg} {mg : Str → Option Value} {base : Heap}
theorem scCell : FnScope ["_law_script", "_law_k"] ["_law_script", "_law_k"] (defScope sCell) := ⟨rfl, rfl, rfl, by decide +kernel, rfl, by decide +kernel, by decide +kernel⟩
def fsCell : FS (List Int × Int) := { args := fun i => [sLst sInt i.1, sInt i.2], pre := fun i => 0 ≤ i.2, res := fun i => sInt (cellAt i.1 i.2) }
theorem ok_cell {f : Addr} {fd : FuncData} (F : Fun K "_law_cell_at" "_law_cell_at" sCell f fd) (b : Binds K fd ["_law_script", "_law_k"] []) (T : Bt mg) : DefOk P w K mg base 1 f [] fsCell := by
  refine fn_ok F scCell b .nil (fun _ => rfl) fun ⟨ns, k⟩ cdv A outer s G H D EE hr hp hf hn => ?_
  have hp : 0 ≤ k := hp
  refine j_if (t_cmp o_lt (e_name 1) (e_callB c_len T.len PySem.boot_len (ea_cons (e_name 0) ea_nil))) (fun h => ?_) (fun h => ?_)
  · have h : k < (ns.length : Int) := by simpa using h
    (have hk : k.toNat < ns.length := by omega)
    refine j_ret (e_ix (i_lst (y := ns[k.toNat]) ?_) (e_name 0) (e_name 1)) (fin_ret hf (fun w hw => hw) ?_)
    · have := atI_nat (xs := ns) (j := k.toNat) (v := ns[k.toNat]) (List.getElem?_eq_getElem hk)
      rwa [Int.toNat_of_nonneg hp] at this
    · intro G v hv
      show v = V.int (cellAt ns k)
      unfold cellAt
      rw [List.getD_eq_getElem?_getD, List.getElem?_eq_getElem hk]
      exact hv
  · have h : ¬ k < (ns.length : Int) := by simpa using h
    refine j_on (j_ret e_int (fin_ret hf (fun w hw => hw) fun G v hv => ?_))
    show v = V.int (cellAt ns k)
    unfold cellAt
    (rw [List.getD_eq_getElem?_getD, List.getElem?_eq_none (by omega)])
    exact hv
end
end K50

namespace K50
open PySem L2 Gd
def primes : List Int := [1000003, 1000033, 1000037, 1000039, 1000081, 1000099, 1000117, 1000121, 1000133, 1000151, 1000159, 1000171, 1000183, 1000187, 1000193, 1000199]
def prime (k : Int) : Int := primes.getD (k % 16).toNat 1
theorem prime_pos (k : Int) : 0 < prime k := by
  unfold prime
  have h : (k % 16).toNat < 16 := by omega
  generalize (k % 16).toNat = j at h
  match j, h with
  | 0, _ | 1, _ | 2, _ | 3, _ | 4, _ | 5, _ | 6, _ | 7, _ | 8, _ | 9, _ | 10, _ | 11, _ | 12, _ | 13, _ | 14, _ | 15, _ => decide
  | n + 16, h => omega
def drawV (cell k b : Int) : Int := (cell * 48271 + k * 69621) % prime k % b
def remains (cell k : Int) : Int := (cell - 10 ^ 18) / 1009 ^ k.toNat
def small (cell : Int) : Int := cell % 1000003
def numV (cell k b : Int) : Int :=
  if 0 < remains cell k then remains cell k % 1009 % b else drawV ((small cell + 977 * k) * (small cell + 31 * k + 5)) (k % 9 + 1) 999983 % b
def nextV (ns : List Int) (c b : Int) : Int := numV (cellAt ns ((c + 1) / 12) + 31 * ((c + 1) / 12)) ((c + 1) % 12 + 1) b
theorem numV_lo {cell k b : Int} (h : 0 < b) : 0 ≤ numV cell k b := by
  unfold numV
  split
  · exact Int.emod_nonneg _ (by omega)
  · exact Int.emod_nonneg _ (by omega)
theorem numV_hi {cell k b : Int} (h : 0 < b) : numV cell k b < b := by
  unfold numV
  split
  · exact Int.emod_lt_of_pos _ h
  · exact Int.emod_lt_of_pos _ h
theorem nextV_lo {ns : List Int} {c b : Int} (h : 0 < b) : 0 ≤ nextV ns c b := numV_lo h
theorem nextV_hi {ns : List Int} {c b : Int} (h : 0 < b) : nextV ns c b < b := numV_hi h
section
variable {P : Program} {w : World} {K : Fg} {mg : Str → Option Value} {base : Heap}
theorem scDraw : FnScope ["_law_cell", "_law_k", "_law_bound", "_law_primes"] ["_law_cell", "_law_k", "_law_bound"] (defScope sDraw) := ⟨rfl, rfl, rfl, by decide +kernel, rfl, by decide +kernel, by decide +kernel⟩
def fsDraw : FS (Int × Int × Int) := { args := fun i => [sInt i.1, sInt i.2.1, sInt i.2.2], pre := fun i => 0 ≤ i.2.1 ∧ 0 < i.2.2, res := fun i => sInt (drawV i.1 i.2.1 i.2.2) }
theorem ok_draw {f : Addr} {fd : FuncData} (F : Fun K "_law_draw" "_law_draw" sDraw f fd) (b : Binds K fd ["_law_cell", "_law_k", "_law_bound"] []) (T : Bt mg) : DefOk P w K mg base 1 f [] fsDraw := by
  refine fn_ok F scDraw b .nil (fun _ => rfl) fun ⟨cell, k, bd⟩ cdv A outer s G H D EE hr hp hf hn => ?_
  have hp : 0 ≤ k ∧ 0 < bd := hp
  refine j_set 3 (O1 := []) (e_tupl (as := primes) (R := sInt) ?_ (by decide)) ?_ scDraw.nd
  · repeat (first | exact el_nil | refine el_cons e_int ?_)
  refine j_ret (e_bin (o_mod ?_) (e_bin (o_mod ?_) (e_callTy c_int T.int (by decide +kernel) (ea_cons (e_bin o_add (e_bin (o_mul ?_) (e_name 0) e_int) (e_bin (o_mul ?_) (e_name 1) e_int)) ea_nil))
    (e_ix (i_tupl (y := prime k) ?_) (e_name 3) (e_bin (o_mod ?_) (e_callTy c_int T.int (by decide +kernel) (ea_cons (e_name 1) ea_nil)) e_int))) (e_name 2)) (fin_ret hf (fun w hw => hw) fun G v hv => hv)
  · exact hp.2
  · exact prime_pos k
  · exact .inr (by decide)
  · exact .inr (by decide)
  · have h : (k % 16).toNat < 16 := by omega
    have e : primes[(k % 16).toNat]? = some (prime k) := by
      unfold prime
      rw [List.getD_eq_getElem?_getD, List.getElem?_eq_getElem (by exact h)]
      rfl
    have := atI_nat e
    rwa [Int.toNat_of_nonneg (by omega)] at this
  · decide
theorem scNumber : FnScope ["_law_cell", "_law_k", "_law_bound", "_law_power", "_law_lap", "_law_remains", "_law_small"] ["_law_cell", "_law_k", "_law_bound"] (defScope sNumber) := ⟨rfl, rfl, rfl, by decide +kernel, rfl, by decide +kernel, by decide +kernel⟩
def fsNumber : FS (Int × Int × Int) := { args := fun i => [sInt i.1, sInt i.2.1, sInt i.2.2], pre := fun i => (0 ≤ i.2.1 ∧ i.2.1 < 24) ∧ 0 < i.2.2, res := fun i => sInt (numV i.1 i.2.1 i.2.2) }
theorem pow_pos' (n : Nat) : (0 : Int) < 1009 ^ n := Int.pow_pos (by decide)
theorem ok_number {f fD : Addr} {fd : FuncData} (F : Fun K "_law_number" "_law_number" sNumber f fd) (b : Binds K fd ["_law_cell", "_law_k", "_law_bound"] []) (T : Bt mg) (gD : mg "_law_draw" = some (.ref fD)) (FD : DefOk P w K mg base 1 fD [] fsDraw) : DefOk P w K mg base 2 f [] fsNumber := by
  refine fn_ok F scNumber b .nil (fun _ => rfl) fun ⟨cell, k, bd⟩ cdv A outer s G H D EE hr hp hf hn => ?_
  have hp : (0 ≤ k ∧ k < 24) ∧ 0 < bd := hp
  have hk : k % 24 = k := Int.emod_eq_of_lt hp.1.1 hp.1.2
  refine j_set 3 e_int ?_ scNumber.nd
  refine j_for (O1 := []) (R := fun k : Nat => sInt k) (as := List.range (k % 24).toNat) (fun n (g : Nat) => g = n) (fun g => [some (sInt cell), some (sInt k), some (sInt bd), some (sInt (1009 ^ g)), none, none, none]) (fun _ => []) (fun y => [(4, sInt y)])
    (it_range T.range (e_bin (o_mod (by decide)) (e_callTy c_int T.int (by decide +kernel) (ea_cons (e_name 1) ea_nil)) e_int) (by omega) (by omega)) (tg_name 4 scNumber.nd) ⟨0, rfl, fun _ _ _ _ h => by show Sta _ _ [_, _, _, some (sInt (1009 ^ 0)), _, _, _] _ _ _ _; rw [Int.pow_zero]; exact h⟩ ?_ ?_
  · rintro B1 n y g hB hy rfl
    refine j_set 3 (O1 := []) (e_bin (o_mul (.inr (by decide))) (e_name 3) e_int) ?_ scNumber.nd
    refine j_nil fun σ G H st => ⟨g + 1, G, rfl, ?_⟩
    have st : Sta K B1 [some (sInt cell), some (sInt k), some (sInt bd), some (sInt (1009 ^ g * 1009)), some (sInt y), none, none] [] σ G H := st
    show Sta K B1 [_, _, _, some (sInt (1009 ^ (g + 1))), _, _, _] _ σ G H
    rw [Int.pow_succ]
    exact st.wk (.same (.same (.same (.same (.skip (.same (.same .nil)))))))
  · rintro g rfl
    have hlen : (List.range (k % 24).toNat).length = k.toNat := by rw [List.length_range, hk]
    rw [hlen]
    refine j_set 5 (O1 := []) (s := sInt (remains cell k)) (e_bin (o_fdivW ?_) (e_bin o_sub (e_name 0) (e_bin (o_pow ⟨by decide, by decide, by decide⟩) e_int e_int)) (e_name 3)) ?_ scNumber.nd
    · refine wide_div (b := 500) (pow_pos' _) ?_ (by decide) (by decide)
      rw [Int.natAbs_pow]
      exact Nat.lt_of_le_of_lt (Nat.pow_le_pow_right (by decide) (show k.toNat ≤ 24 by omega)) (by decide +kernel)
    refine j_if (t_cmp o_gt (e_name 5) e_int) (fun h => ?_) (fun h => ?_)
    · have h : 0 < remains cell k := by simpa using h
      refine j_ret (e_bin (o_mod hp.2) (e_bin (o_mod (by decide)) (e_callTy c_int T.int (by decide +kernel) (ea_cons (e_name 5) ea_nil)) e_int) (e_name 2)) (fin_ret hf (fun w hw => hw) fun G v hv => ?_)
      show v = V.int (numV cell k bd)
      unfold numV
      rw [if_pos h]
      exact hv
    · have h : ¬ 0 < remains cell k := by simpa using h
      refine j_on ?_
      refine j_set 6 (O1 := []) (s := sInt (small cell)) (e_bin (o_mod (by decide)) (e_callTy c_int T.int (by decide +kernel) (ea_cons (e_name 0) ea_nil)) e_int) ?_ scNumber.nd
      have hs0 : 0 ≤ small cell := Int.emod_nonneg _ (by decide)
      have hs1 : small cell < 1000003 := Int.emod_lt_of_pos _ (by decide)
      refine j_ret (O1 := []) (e_bin (o_mod hp.2) (e_call (O2 := []) (((small cell + 977 * k) * (small cell + 31 * k + 5)), (k % 9 + 1), 999983) FD hr gD (ea_cons (e_bin (o_mul ?_) (e_bin o_add (e_name 6) (e_bin (o_mul ?_) e_int (e_name 1))) (e_bin o_add (e_bin o_add (e_name 6) (e_bin (o_mul ?_) e_int (e_name 1))) e_int))
        (ea_cons (e_bin o_add (e_bin (o_mod (by decide)) (e_callTy c_int T.int (by decide +kernel) (ea_cons (e_name 1) ea_nil)) e_int) e_int) (ea_cons e_int ea_nil))) ?_) (e_name 2)) (fin_ret hf (fun w hw => hw) fun G v hv => ?_)
      · exact .inl (by omega)
      · exact .inl (by decide)
      · exact .inl (by decide)
      · show 0 ≤ k % 9 + 1 ∧ (0 : Int) < 999983
        omega
      · show v = V.int (numV cell k bd)
        unfold numV
        rw [if_neg h]
        exact hv
end
end K50

namespace K50
open PySem L2 Gd
/-- the draws' own list -/
def dO (dr : Addr) (ns : List Int) (c : Int) : Own := oLstS dr [sLst sInt ns, sInt 0, sInt c]
section
variable {P : Program} {w : World} {K : Fg} {mg : Str → Option Value} {base : Heap}
theorem scNext : FnScope ["_law_draw_here", "_law_bound", "_law_at", "_law_cell"] ["_law_draw_here", "_law_bound"] (defScope sNext) := ⟨rfl, rfl, rfl, by decide +kernel, rfl, by decide +kernel, by decide +kernel⟩
def fsNext : FS (Addr × List Int × Int × Int) := { args := fun i => [sRef i.1, sInt i.2.2.2], own := fun i => [dO i.1 i.2.1 i.2.2.1], pre := fun i => 0 ≤ i.2.2.1 ∧ 0 < i.2.2.2, res := fun i => sInt (nextV i.2.1 i.2.2.1 i.2.2.2), own' := fun i => [dO i.1 i.2.1 (i.2.2.1 + 1)] }
theorem ok_next {f fC fN : Addr} {fd : FuncData} (F : Fun K "_law_next" "_law_next" sNext f fd) (b : Binds K fd ["_law_draw_here", "_law_bound"] []) (T : Bt mg) (gC : mg "_law_cell_at" = some (.ref fC)) (FC : DefOk P w K mg base 1 fC [] fsCell)
    (gN : mg "_law_number" = some (.ref fN)) (FN : DefOk P w K mg base 2 fN [] fsNumber) : DefOk P w K mg base 3 f [] fsNext := by
  refine fn_ok F scNext b .nil (fun _ => rfl) fun ⟨dr, ns, c, bd⟩ cdv A outer s G H D EE hr hp hf hn => ?_
  have hp : 0 ≤ c ∧ 0 < bd := hp
  (have hr1 : Room 1 _ := hr.mono (by decide))
  refine j_setIx (O1 := [dO dr ns c]) (O2 := [dO dr ns c]) (O3 := [dO dr ns c]) 0 2 (e_bin o_add (e_ixO 0 2 (e_name 0) e_int) e_int) (e_name 0) e_int ?_
  refine j_set 2 (O1 := [dO dr ns (c + 1)]) (s := sInt ((c + 1) / 12)) (e_bin (o_fdiv ⟨by decide, by decide⟩) (e_ixO 0 2 (e_name 0) e_int) e_int) ?_ scNext.nd
  refine j_set 3 (O1 := [dO dr ns (c + 1)]) (s := sInt (cellAt ns ((c + 1) / 12) + 31 * ((c + 1) / 12))) (e_bin o_add (e_eq (e_call (O2 := [dO dr ns (c + 1)]) (ns, 0 + (c + 1) / 12) FC hr1 gC (ea_cons (e_ixO 0 0 (e_name 0) e_int) (ea_cons (e_bin o_add (e_ixO 0 1 (e_name 0) e_int) (e_name 2)) ea_nil)) ?_) ?_)
    (e_bin (o_mul ?_) e_int (e_name 2))) ?_ scNext.nd
  · show 0 ≤ 0 + (c + 1) / 12
    omega
  · show sInt (cellAt ns (0 + (c + 1) / 12)) = _
    rw [Int.zero_add]
  · exact .inl (by decide)
  refine j_ret (e_call (O2 := [dO dr ns (c + 1)]) (cellAt ns ((c + 1) / 12) + 31 * ((c + 1) / 12), (c + 1) % 12 + 1, bd) FN hr gN (ea_cons (e_name 3) (ea_cons (e_bin o_add (e_bin (o_mod (by decide)) (e_callTy c_int T.int (by decide +kernel) (ea_cons (e_ixO 0 2 (e_name 0) e_int) ea_nil)) e_int) e_int)
    (ea_cons (e_name 1) ea_nil))) ?_) (fin_ret hf (fun w hw => hw) fun G v hv => hv)
  show (0 ≤ (c + 1) % 12 + 1 ∧ (c + 1) % 12 + 1 < 24) ∧ 0 < bd
  omega
theorem scPick : FnScope ["_law_draw_here", "_law_things"] ["_law_draw_here", "_law_things"] (defScope sPick) := ⟨rfl, rfl, rfl, by decide +kernel, rfl, by decide +kernel, by decide +kernel⟩
def fsPick {α : Type} (R : α → Slot) : FS (Addr × List Int × Int × List α × α) := { args := fun i => [sRef i.1, sLst R i.2.2.2.1], own := fun i => [dO i.1 i.2.1 i.2.2.1], pre := fun i => 0 ≤ i.2.2.1 ∧ i.2.2.2.1[(nextV i.2.1 i.2.2.1 i.2.2.2.1.length).toNat]? = some i.2.2.2.2, res := fun i => R i.2.2.2.2, own' := fun i => [dO i.1 i.2.1 (i.2.2.1 + 1)] }
theorem ok_pick {f fN : Addr} {fd : FuncData} {α : Type} {R : α → Slot} (F : Fun K "_law_pick" "_law_pick" sPick f fd) (b : Binds K fd ["_law_draw_here", "_law_things"] []) (T : Bt mg)
    (gN : mg "_law_next" = some (.ref fN)) (FN : DefOk P w K mg base 3 fN [] fsNext) : DefOk P w K mg base 4 f [] (fsPick R) := by
  refine fn_ok F scPick b .nil (fun _ => rfl) fun ⟨dr, ns, c, as, y⟩ cdv A outer s G H D EE hr hp hf hn => ?_
  have hp : 0 ≤ c ∧ as[(nextV ns c as.length).toNat]? = some y := hp
  have hl : 0 < as.length := by
    rcases Nat.eq_zero_or_pos as.length with z | z
    · have : as = [] := List.length_eq_zero_iff.mp z
      subst this
      have := hp.2
      simp at this
    · exact z
  refine j_ret (O1 := [dO dr ns (c + 1)]) (e_ix (i_lst (y := y) ?_) (e_name 1) (e_call (O2 := []) (dr, ns, c, (as.length : Int)) FN hr gN (ea_cons (e_name 0) (ea_cons (e_callB c_len T.len PySem.boot_len (ea_cons (e_name 1) ea_nil)) ea_nil)) ?_)) (fin_ret hf (fun w hw => hw) fun G v hv => hv)
  · have := atI_nat hp.2
    rwa [Int.toNat_of_nonneg (nextV_lo (by omega))] at this
  · show 0 ≤ c ∧ (0 : Int) < as.length
    omega
end
end K50

namespace K50
open PySem L2 Gd
abbrev sIsWord : Stmt := top 9
abbrev sIsToken : Stmt := top 14
abbrev sCheck : Stmt := top 15
def keptL : List Str := ["any", "give", "let"]
def signsL : List Str := ["(", ")", "{", "}", ",", ":", ".", ";", "="]
def letters : Str := "abcdefghijklmnopqrstuvwxyz"
def isWord (t : Str) : Bool := if (1 ≤ (t.length : Int) ∧ (t.length : Int) ≤ 10) ∧ t ∉ keptL then t.cps.toList.all fun n => decide (n ∈ letters.cps.toList) else false
def isToken (t : Str) : Bool := isWord t || (decide (t ∈ (["give", "let"] : List Str)) || decide (t ∈ signsL))
/-- the constants of the top -/
structure Cs (K : Fg) (mg : Str → Option Value) : Prop where
  letters : ∃ t, mg "LETTERS" = some (.str letters t)
  longest : ∃ t, mg "LONGEST" = some (.int 10 t)
  kept : ∃ u, mg "KEPT" = some u ∧ ∃ v, RelV v u ∧ ∀ G, (sTupl sStr keptL).ok K G v
  signs : ∃ u, mg "SIGNS" = some u ∧ ∃ v, RelV v u ∧ ∀ G, (sTupl sStr signsL).ok K G v
  all : mg "all" = none
  int : mg "int" = none
  isi : mg "isinstance" = none
  str : mg "str" = none
  list : mg "list" = none
  tuple : mg "tuple" = none
  bool : mg "bool" = none
  min : mg "min" = none
section
variable {P : Program} {w : World} {K : Fg} {mg : Str → Option Value} {base : Heap}
theorem scIsWord : FnScope ["thing", "sign"] ["thing"] (defScope sIsWord) := ⟨rfl, rfl, rfl, by decide +kernel, rfl, by decide +kernel, by decide +kernel⟩
def fsIsWord : FS Str := { args := fun t => [sStr t], pre := fun t => t.length ≤ 100000, res := fun t => sBl (isWord t) }
theorem len_toList (t : Str) : t.cps.toList.length = t.length := by
  show t.cps.toList.length = t.cps.size
  exact Array.length_toList
theorem ok_isWord {f : Addr} {fd : FuncData} (F : Fun K "is_word" "is_word" sIsWord f fd) (b : Binds K fd ["thing"] []) (T : Bt mg) (C : Cs K mg) : DefOk P w K mg base 1 f [] fsIsWord := by
  obtain ⟨uk, gk, vk, rk, hk⟩ := C.kept
  obtain ⟨tl, gl⟩ := C.letters
  obtain ⟨tn, gn⟩ := C.longest
  refine fn_ok F scIsWord b .nil (fun _ => rfl) fun t cdv A outer s G H D EE hr hp hf hn => ?_
  have hp : t.length ≤ 100000 := hp
  have hz : t.length ≤ sizeLine := Nat.le_trans hp (by decide)
  refine j_if (O1 := []) (t_w (tw_or (t_not (t_val (e_callB (c_isi (n := "str") (k := true) ty_str (kit_ty (by decide +kernel))) C.isi (by decide +kernel) (ea_cons (e_name 0) (ea_cons (e_ty "str" C.str (by decide +kernel)) ea_nil)))))
    fun _ => tw_or (t_not (t_chain o_le (fun _ => o_le) e_int (e_callB (c_lenS hz) T.len PySem.boot_len (ea_cons (e_name 0) ea_nil)) (e_gint gn))) fun _ => tw_or1 (t_cmp o_inT (e_name 0) (e_glob gk rk hk)))) (fun h => ?_) (fun h => ?_)
  · have h : ¬ ((1 ≤ (t.length : Int) ∧ (t.length : Int) ≤ 10) ∧ t ∉ keptL) := by
      intro z
      simp [z.1.1, z.1.2, z.2] at h
    refine j_ret (s := sBl false) e_bl (fin_ret hf (fun w hw => hw) fun G v hv => ?_)
    show v = V.bl (isWord t)
    unfold isWord
    rw [if_neg h]
    exact hv
  · have h : (1 ≤ (t.length : Int) ∧ (t.length : Int) ≤ 10) ∧ t ∉ keptL := by
      simp only [Bool.or_eq_false_iff, Bool.not_eq_false', Bool.not_true, Bool.and_eq_true, decide_eq_true_eq, decide_eq_false_iff_not] at h
      exact ⟨h.2.1, h.2.2⟩
    refine j_on (j_ret (O1 := []) (e_callB c_all C.all (by decide +kernel) (ea_cons (e_lst (ew_map (R := fun n : Nat => sStr ⟨#[n]⟩) (S := sBl) (as := t.cps.toList) 1 (fun n => decide (n ∈ letters.cps.toList)) scIsWord.nd (it_str (e_name 0)) (blkOk_by (own := [("sign", 1)]) (N := ["thing", "sign"]) (sc := defScope sIsWord) (by decide +kernel))
      (fun y hy s H C cl fp => e_cmp o_inC (e_name 1) (e_gstr gl)) (by rw [len_toList]; exact hz))) ea_nil)) (fin_ret hf (fun w hw => hw) fun G v hv => ?_))
    show v = V.bl (isWord t)
    unfold isWord
    rw [if_pos h]
    have hv : v = V.bl ((t.cps.toList.map fun n => decide (n ∈ letters.cps.toList)).all id) := hv
    rw [hv, List.all_map]
    rfl
end
end K50

namespace K50
open PySem L2 Gd
section
variable {P : Program} {w : World} {K : Fg} {mg : Str → Option Value} {base : Heap}
theorem scIsToken : FnScope ["thing"] ["thing"] (defScope sIsToken) := ⟨rfl, rfl, rfl, by decide +kernel, rfl, by decide +kernel, by decide +kernel⟩
def fsIsToken : FS Str := { args := fun t => [sStr t], pre := fun t => t.length ≤ 100000, res := fun t => sBl (isToken t) }
theorem ok_isToken {f fW : Addr} {fd : FuncData} (F : Fun K "is_token" "is_token" sIsToken f fd) (b : Binds K fd ["thing"] []) (C : Cs K mg) (gW : mg "is_word" = some (.ref fW)) (FW : DefOk P w K mg base 1 fW [] fsIsWord) : DefOk P w K mg base 2 f [] fsIsToken := by
  obtain ⟨us, gs, vs, rs, hs⟩ := C.signs
  refine fn_ok F scIsToken b .nil (fun _ => rfl) fun t cdv A outer s G H D EE hr hp hf hn => ?_
  refine j_ret (O1 := []) (e_and2 (e_callB (c_isi (n := "str") (k := true) ty_str (kit_ty (by decide +kernel))) C.isi (by decide +kernel) (ea_cons (e_name 0) (ea_cons (e_ty "str" C.str (by decide +kernel)) ea_nil)))
    (e_one (e_or2 (e_call (O2 := []) t FW hr gW (ea_cons (e_name 0) ea_nil) (by exact hp)) (e_or2 (e_cmp o_inT (e_name 0) (e_tupl (as := ["give", "let"]) (R := sStr) (el_cons e_str (el_cons e_str el_nil)) (by decide))) (e_one (e_cmp o_inT (e_name 0) (e_glob gs rs hs))))))) (fin_ret hf (fun w hw => hw) fun G v hv => hv)
/-- words that are right ones -/
def okWords (ws : List Str) : Prop := ∀ t ∈ ws, isToken t = true ∧ t.length ≤ 100000
/-- words, in a list or a tuple -/
def sWs (tup : Bool) (ws : List Str) : Slot := if tup then sTupl sStr ws else sLst sStr ws
theorem scCheck : FnScope ["words", "hole", "most", "word"] ["words", "hole", "most"] (defScope sCheck) := ⟨rfl, rfl, rfl, by decide +kernel, rfl, by decide +kernel, by decide +kernel⟩
def fsCheck : FS (Bool × List Str) := { args := fun i => [sWs i.1 i.2, sBl false, sInt 200], pre := fun i => okWords i.2 ∧ i.2.length ≤ 200, res := fun _ => sNon }
def kwsCheck : List (Str × V) := [("hole", .bl false), ("most", .int 200)]
theorem ok_check {f fT : Addr} {fd : FuncData} (F : FunD K "check_words" "check_words" (defArgs sCheck) (defBody sCheck) (defScope sCheck) [] kwsCheck f fd) (b : ∃ ds, Vals [.bl false, .int 200] ds ∧ Binds K fd ["words", "hole", "most"] ds) (T : Bt mg) (C : Cs K mg) (gT : mg "is_token" = some (.ref fT)) (FT : DefOk P w K mg base 2 fT [] fsIsToken) :
    DefOk P w K mg base 3 f [.bl false, .int 200] fsCheck := by
  refine fn_okD F scCheck b (fun _ => rfl) fun ⟨tup, ws⟩ cdv A outer s G H D EE hr hp hf hn => ?_
  have hp : okWords ws ∧ ws.length ≤ 200 := hp
  have hr2 : Room 2 _ := hr
  have isl : CallE (cxD P w K mg base ["words", "hole", "most", "word"] "check_words" sCheck f cdv A outer s H EE) (.builtin "isinstance") [sWs tup ws, sTupX [sVal (.ty "list"), sVal (.ty "tuple")]] (sBl true) := by
    cases tup with
    | false => exact c_isi2 ty_lst (kitAny_cons (b := true) (kit_ty (by decide +kernel)) (fun h => nomatch h) fun _ => rfl)
    | true => exact c_isi2 ty_tupl (kitAny_cons (b := false) (kit_ty (by decide +kernel)) (fun _ => kitAny_cons (b := true) (kit_ty (by decide +kernel)) (fun h => nomatch h) fun _ => rfl) fun h => nomatch h)
  have len : CallE (cxD P w K mg base ["words", "hole", "most", "word"] "check_words" sCheck f cdv A outer s H EE) (.builtin "len") [sWs tup ws] (sInt ws.length) := by
    cases tup with
    | false => exact c_len
    | true => exact c_lenT
  refine j_if (O1 := []) (u := false) (t_eq (t_w (tw_or2 (t_not (t_val (e_callB isl C.isi (by decide +kernel) (ea_cons (e_name 0) (ea_cons (e_tupX (ea_cons (e_ty "list" C.list (by decide +kernel)) (ea_cons (e_ty "tuple" C.tuple (by decide +kernel)) ea_nil)) (by decide)) ea_nil)))))
    (tw_or1 (t_w (tw_and2 (t_cmp o_notI (e_name 2) e_non) (tw_and1 (t_cmp o_gt (e_callB len T.len PySem.boot_len (ea_cons (e_name 0) ea_nil)) (e_name 2)))))))) (by simp; omega)) (fun h => nomatch h) (fun _ => j_on ?_)
  refine j_for (O1 := []) (R := sStr) (as := ws) (fun n (g : Unit) => True) (fun _ => [some (sWs tup ws), some (sBl false), some (sInt 200), none]) (fun _ => []) (fun y => [(3, sStr y)]) ?_ (tg_name 3 scCheck.nd) ⟨(), trivial, fun _ _ _ _ h => h⟩ ?_ ?_
  · cases tup with
    | false => exact it_lst (e_name 0)
    | true => exact it_tupl (e_name 0)
  · rintro B1 n y ⟨⟩ hB hy -
    have hm : y ∈ ws := List.mem_of_getElem? hy
    have ht := hp.1 y hm
    refine j_if (O1 := []) (u := false) (t_w (tw_andF (t_eq (t_not (t_val (e_call (O2 := []) y FT hr2 gT (ea_cons (e_name 3) ea_nil) (by exact ht.2)))) ?_))) (fun h => nomatch h) (fun _ => j_on (j_nil fun σ G H st => ⟨(), G, trivial, st.wk (.same (.same (.same (.skip .nil))))⟩))
    show (!isToken y) = false
    rw [ht.1]
    rfl
  · rintro ⟨⟩ -
    exact fin_end hf hn fun w hw => hw
end
end K50

namespace K50
open PySem L2 Gd
abbrev sInit : Stmt := inClass (top 17) 0
abbrev sEq : Stmt := inClass (top 17) 1
abbrev sLen : Stmt := inClass (top 17) 2
abbrev sBool : Stmt := inClass (top 17) 3
abbrev sCall : Stmt := inClass (top 17) 4
abbrev sAdd : Stmt := inClass (top 17) 5
abbrev sGrowth : Stmt := inClass (top 17) 6
abbrev sUndone : Stmt := inClass (top 17) 7
/-- an edit -/
structure Ed where
  first : Int
  last : Int
  words : List Str
  deriving DecidableEq
abbrev edTab (e : Ed) : List (Str × Slot) := [("first", sInt e.first), ("last", sInt e.last), ("words", sTupl sStr e.words)]
abbrev sEd (C : Addr) (e : Ed) : Slot := sIns C (edTab e)
def Ed.ok (e : Ed) : Prop := (0 ≤ e.first ∧ e.first ≤ e.last) ∧ okWords e.words ∧ e.words.length ≤ 100000
/-- what the class's own facts are -/
structure EdC (K : Fg) (mg : Str → Option Value) (C : Addr) : Prop where
  cl : Cls K C
  nF : NoAttr K C "first"
  nL : NoAttr K C "last"
  nW : NoAttr K C "words"
  gC : mg "Edit" = some (.ref C)
section
variable {P : Program} {w : World} {K : Fg} {mg : Str → Option Value} {base : Heap} {C : Addr}
theorem scInit : FnScope ["self", "first", "last", "words", "one", "word"] ["self", "first", "last", "words"] (defScope sInit) := ⟨rfl, rfl, rfl, by decide +kernel, rfl, by decide +kernel, by decide +kernel⟩
def fsInit (C : Addr) : FS (Addr × Ed × Bool) := { args := fun i => [sRef i.1, sInt i.2.1.first, sInt i.2.1.last, sWs i.2.2 i.2.1.words], pre := fun i => i.2.1.ok, own := fun i => [oIns i.1 C []], res := fun _ => sNon, own' := fun i => [oIns i.1 C (edTab i.2.1)] }
theorem ok_init {f fT : Addr} {fd : FuncData} (F : Fun K "__init__" "Edit.__init__" sInit f fd) (b : Binds K fd ["self", "first", "last", "words"] []) (Cc : Cs K mg) (EC : EdC K mg C) (gT : mg "is_token" = some (.ref fT)) (FT : DefOk P w K mg base 2 fT [] fsIsToken) : DefOk P w K mg base 3 f [] (fsInit C) := by
  refine fn_ok F scInit b .nil (fun _ => rfl) fun ⟨x, e, tup⟩ cdv A outer s G H D EE hr hp hf hn => ?_
  have hp : e.ok := hp
  have hr2 : Room 2 _ := hr
  have hz : e.words.length ≤ sizeLine := Nat.le_trans hp.2.2 (by decide)
  have isl : CallE (cxD P w K mg base ["self", "first", "last", "words", "one", "word"] "Edit.__init__" sInit f cdv A outer s H EE) (.builtin "isinstance") [sWs tup e.words, sTupX [sVal (.ty "list"), sVal (.ty "tuple")]] (sBl true) := by
    cases tup with
    | false => exact c_isi2 ty_lst (kitAny_cons (b := true) (kit_ty (by decide +kernel)) (fun h => nomatch h) fun _ => rfl)
    | true => exact c_isi2 ty_tupl (kitAny_cons (b := false) (kit_ty (by decide +kernel)) (fun _ => kitAny_cons (b := true) (kit_ty (by decide +kernel)) (fun h => nomatch h) fun _ => rfl) fun h => nomatch h)
  -- not all([isinstance(one, int) and not isinstance(one, bool) ..])
  refine j_if (O1 := [oIns x C []]) (u := false) (t_eq (t_not (t_val (e_callB c_all Cc.all (by decide +kernel) (ea_cons (e_lst (ew_map (R := sInt) (S := sBl) (as := [e.first, e.last]) 4 (fun _ => true) scInit.nd (it_tupl (e_tupl (el_cons (e_name 1) (el_cons (e_name 2) el_nil)) (szl (by simp))))
    (blkOk_by (own := [("one", 4)]) (N := ["self", "first", "last", "words", "one", "word"]) (sc := defScope sInit) (by decide +kernel)) (fun y hy _ _ _ _ _ => ?_) (szl (by simp)))) ea_nil)))) (by rfl)) (fun h => nomatch h) (fun _ => j_on ?_)
  · exact e_and2 (e_callB (c_isi (n := "int") (k := true) ty_int (kit_ty (by decide +kernel))) Cc.isi (by decide +kernel) (ea_cons (e_name 4) (ea_cons (e_ty "int" Cc.int (by decide +kernel)) ea_nil)))
      (e_one (e_not (e_callB (c_isi (n := "bool") (k := false) ty_int (kit_ty (by decide +kernel))) Cc.isi (by decide +kernel) (ea_cons (e_name 4) (ea_cons (e_ty "bool" Cc.bool (by decide +kernel)) ea_nil)))))
  -- not 0 <= first <= last or ..
  refine j_if (O1 := [oIns x C []]) (u := false) (t_eq (t_w (tw_or2 (t_not (t_chain o_le (fun _ => o_le) e_int (e_name 1) (e_name 2))) (tw_or1 (t_not (t_val (e_callB isl Cc.isi (by decide +kernel) (ea_cons (e_name 3) (ea_cons (e_tupX (ea_cons (e_ty "list" Cc.list (by decide +kernel)) (ea_cons (e_ty "tuple" Cc.tuple (by decide +kernel)) ea_nil)) (by decide)) ea_nil)))))))) (by
    simp [hp.1.1, hp.1.2])) (fun h => nomatch h) (fun _ => j_on ?_)
  -- not all([is_token(word) ..])
  refine j_if (O1 := [oIns x C []]) (u := false) (t_eq (t_not (t_val (e_callB c_all Cc.all (by decide +kernel) (ea_cons (e_lst (ew_map (R := sStr) (S := sBl) (as := e.words) 5 (fun t => isToken t) scInit.nd ?_
    (blkOk_by (own := [("word", 5)]) (N := ["self", "first", "last", "words", "one", "word"]) (sc := defScope sInit) (by decide +kernel)) (fun y hy _ _ _ _ _ => ?_) hz)) ea_nil)))) ?_) (fun h => nomatch h) (fun _ => j_on ?_)
  · cases tup with
    | false => exact it_lst (e_name 3)
    | true => exact it_tupl (e_name 3)
  · exact e_callR (S := fsIsToken) (O2 := [oIns x C []]) y FT hr2 gT (ea_cons (e_name 5) ea_nil) (by exact (hp.2.1 y hy).2)
  · have : (List.map (fun t => isToken t) e.words).all id = true := by
      rw [List.all_map, List.all_eq_true]
      exact fun t ht => (hp.2.1 t ht).1
    rw [this]
    rfl
  refine j_fld (O1 := [oIns x C []]) (O2 := [oIns x C []]) 0 (e_name 1) (e_name 0) EC.cl EC.nF ?_
  refine j_fld (O1 := [oIns x C [("first", sInt e.first)]]) (O2 := [oIns x C [("first", sInt e.first)]]) 0 (e_name 2) (e_name 0) EC.cl EC.nL ?_
  refine j_fld (s := sTupl sStr e.words) (O1 := [oIns x C [("first", sInt e.first), ("last", sInt e.last)]]) (O2 := [oIns x C [("first", sInt e.first), ("last", sInt e.last)]]) 0 (e_callTy (id := "tuple") (ss := [sWs tup e.words]) ?_ Cc.tuple (by decide +kernel) (ea_cons (e_name 3) ea_nil)) (e_name 0) EC.cl EC.nW ?_
  · cases tup with
    | false => exact c_tuple
    | true => exact c_tupleT
  exact fin_end hf hn fun w hw => hw
end
end K50

namespace K50
open PySem L2 Gd
/-! ### the edits, as functions -/
def Ed.growth (e : Ed) : Int := e.words.length - (e.last - e.first)
def Ed.run (e : Ed) (ws : List Str) : List Str := ws.take e.first.toNat ++ e.words ++ ws.drop e.last.toNat
def Ed.plus (e : Ed) (n : Int) : Ed := ⟨e.first + n, e.last + n, e.words⟩
def Ed.undone (e : Ed) (ws : List Str) : Ed := ⟨e.first, e.first + e.words.length, (ws.drop e.first.toNat).take (e.last.toNat - e.first.toNat)⟩
theorem cutA_take {α : Type} (xs : List α) {a : Int} (h : 0 ≤ a) : cutA xs none (some a) = xs.take a.toNat := by
  unfold cutA
  obtain ⟨n, rfl⟩ := Int.eq_ofNat_of_zero_le h
  rw [HT.sIx_none, HT.sIx_nat, List.drop_zero, Nat.sub_zero]
  show List.take (min n xs.length) xs = List.take n xs
  rw [Nat.min_comm, ← List.take_take]
  exact List.take_of_length_le (by rw [List.length_take]; omega)
theorem cutA_drop {α : Type} (xs : List α) {a : Int} (h : 0 ≤ a) : cutA xs (some a) none = xs.drop a.toNat := by
  unfold cutA
  obtain ⟨n, rfl⟩ := Int.eq_ofNat_of_zero_le h
  rw [HT.sIx_none, HT.sIx_nat]
  show List.take (xs.length - min n xs.length) (xs.drop (min n xs.length)) = xs.drop n
  rcases Nat.le_total n xs.length with z | z
  · rw [Nat.min_eq_left z]
    exact List.take_of_length_le (by rw [List.length_drop]; exact Nat.le_refl _)
  · rw [Nat.min_eq_right z, List.drop_length, List.drop_of_length_le z, List.take_nil]
theorem cutA_mid {α : Type} (xs : List α) {a b : Int} (h : 0 ≤ a) (h1 : 0 ≤ b) : cutA xs (some a) (some b) = (xs.drop a.toNat).take (b.toNat - a.toNat) := by
  unfold cutA
  obtain ⟨n, rfl⟩ := Int.eq_ofNat_of_zero_le h
  obtain ⟨m, rfl⟩ := Int.eq_ofNat_of_zero_le h1
  rw [HT.sIx_nat, HT.sIx_nat]
  show List.take (min m xs.length - min n xs.length) (xs.drop (min n xs.length)) = (xs.drop n).take (m - n)
  rcases Nat.le_total n xs.length with z | z
  · rw [Nat.min_eq_left z]
    rcases Nat.le_total m xs.length with y | y
    · rw [Nat.min_eq_left y]
    · rw [Nat.min_eq_right y, List.take_of_length_le (by rw [List.length_drop]; exact Nat.le_refl _), List.take_of_length_le (by rw [List.length_drop]; omega)]
  · rw [Nat.min_eq_right z, List.drop_length, List.drop_of_length_le z, List.take_nil, List.take_nil]
theorem isToken_ok {t : Str} (h : isToken t = true) : PyData.strOk t = true := by
  unfold isToken at h
  simp only [Bool.or_eq_true, decide_eq_true_eq] at h
  rcases h with h | h | h
  · unfold isWord at h
    split at h
    · unfold PyData.strOk
      (rw [← Array.all_toList, List.all_eq_true])
      rw [List.all_eq_true] at h
      intro n hn
      have := h n hn
      simp only [decide_eq_true_eq] at this
      have hl : ∀ m ∈ letters.cps.toList, decide (m < 0x110000) = true := by decide +kernel
      exact hl n this
    · cases h
  · have : ∀ t ∈ (["give", "let"] : List Str), PyData.strOk t = true := by decide +kernel
    exact this t h
  · have : ∀ t ∈ signsL, PyData.strOk t = true := by decide +kernel
    exact this t h
theorem okWords.str {ws : List Str} (h : okWords ws) : okStrs ws := fun t ht => isToken_ok (h t ht).1
section
variable {P : Program} {w : World} {K : Fg} {mg : Str → Option Value} {base : Heap} {C : Addr}
theorem scGrowth : FnScope ["self"] ["self"] (defScope sGrowth) := ⟨rfl, rfl, rfl, by decide +kernel, rfl, by decide +kernel, by decide +kernel⟩
def fsGrowth (C : Addr) : FS Ed := { args := fun i => [sEd C i], pre := fun _ => True, res := fun i => sInt i.growth }
theorem ok_growth {f : Addr} {fd : FuncData} (F : Fun K "growth" "Edit.growth" sGrowth f fd) (b : Binds K fd ["self"] []) (T : Bt mg) (EC : EdC K mg C) : DefOk P w K mg base 1 f [] (fsGrowth C) := by
  refine fn_ok F scGrowth b .nil (fun _ => rfl) fun e cdv A outer s G H D EE hr hp hf hn => ?_
  exact j_ret (O1 := []) (e_bin o_sub (e_callB c_lenT T.len PySem.boot_len (ea_cons (e_fld 2 EC.cl EC.nW (e_name 0)) ea_nil)) (e_bin o_sub (e_fld 1 EC.cl EC.nL (e_name 0)) (e_fld 0 EC.cl EC.nF (e_name 0)))) (fin_ret hf (fun w hw => hw) fun G v hv => hv)
end
end K50

namespace K50
open PySem L2 Gd
abbrev sGrowthOf : Stmt := top 28
abbrev sJoined : Stmt := top 23
abbrev sAre : Stmt := top 21
/-- a change -/
abbrev Ch := Ed
abbrev sCh (c : Ch) : Slot := sTup [sInt c.first, sInt c.last, sTupl sStr c.words]
def chD (c : Ch) : PyData := .tuple [.int c.first, .int c.last, .tuple (c.words.map .str)]
theorem isD_ch (c : Ch) : IsD (sCh c) (chD c) := isD_tup3 isD_int isD_int (isD_tupl fun _ => isD_str)
theorem can_ch {cs : List Ch} (h : ∀ c ∈ cs, okStrs c.words) : PyData.canLayAll0 (cs.map chD) = true := by
  induction cs with
  | nil => rfl
  | cons c cs ih =>
    have h1 := canAll_strs (h c List.mem_cons_self)
    have h2 := ih fun d hd => h d (List.mem_cons_of_mem _ hd)
    show (PyData.canLay0 (chD c) && PyData.canLayAll0 (cs.map chD)) = true
    rw [h2]
    unfold chD
    simp [PyData.canLay0, PyData.canLayAll0, h1]
theorem depth_ch : ∀ cs : List Ch, PyData.depthAll (cs.map chD) ≤ 2
  | [] => by simp [PyData.depthAll] -- -
  | c :: cs => by
    have := depth_ch cs
    have h1 := depthAll_strs c.words
    have h2 : PyData.depth (chD c) ≤ 2 := by
      unfold chD
      simp [PyData.depth, PyData.depthAll, h1]
    show max (PyData.depth (chD c)) (PyData.depthAll (cs.map chD)) ≤ 2
    omega
theorem shaped_chs {cs : List Ch} (h : ∀ c ∈ cs, okStrs c.words) : SeqAt.shaped (.list (cs.map chD)) = true := shaped_lst (can_ch h) (Nat.le_trans (depth_ch cs) (by decide))
def joinStep (found : List Ch) (c : Ch) : List Ch :=
  match found.getLast? with
  | some b => if b.last = c.first then found.dropLast ++ [⟨b.first, c.last, b.words ++ c.words⟩] else found ++ [c]
  | none => [c]
def keepCh (c : Ch) : Bool := decide (c.first < c.last) || !decide (c.words = [])
def joinedV (cs : List Ch) : List Ch := (cs.foldl joinStep []).filter keepCh
def wsum (cs : List Ch) : Nat := (cs.map fun c => c.words.length).sum
theorem wsum_append (a b : List Ch) : wsum (a ++ b) = wsum a + wsum b := by simp [wsum]
theorem dropLast_last {α : Type} {xs : List α} {v : α} (h : xs.getLast? = some v) : xs.dropLast ++ [v] = xs := by
  rcases List.eq_nil_or_concat xs with rfl | ⟨ys, y, rfl⟩
  · simp at h
  · simp at h
    subst h
    simp
theorem joinStep_sum (f : List Ch) (c : Ch) : wsum (joinStep f c) = wsum f + c.words.length ∧ (joinStep f c).length ≤ f.length + 1 := by
  unfold joinStep
  cases e : f.getLast? with
  | none =>
    rw [List.getLast?_eq_none_iff] at e
    subst e
    simp [wsum]
  | some b =>
    have d := dropLast_last e
    dsimp only
    split
    · refine ⟨?_, ?_⟩
      · have : wsum f = wsum f.dropLast + b.words.length := by
          rw [← d, wsum_append]
          simp [wsum]
        rw [wsum_append, this]
        simp [wsum]
        omega
      · rw [List.length_append, List.length_dropLast]
        simp
    · rw [wsum_append]
      simp [wsum]
theorem joinFold_sum (cs f : List Ch) : wsum (cs.foldl joinStep f) = wsum f + wsum cs ∧ (cs.foldl joinStep f).length ≤ f.length + cs.length := by
  induction cs generalizing f with
  | nil => simp [wsum]
  | cons c cs ih =>
    have h1 := joinStep_sum f c
    have h2 := ih (joinStep f c)
    rw [List.foldl_cons]
    refine ⟨?_, ?_⟩
    · rw [h2.1, h1.1]
      simp [wsum]
      omega
    · simp
      omega
theorem joinStep_str {f : List Ch} {c : Ch} (h : ∀ d ∈ f, okStrs d.words) (hc : okStrs c.words) : ∀ d ∈ joinStep f c, okStrs d.words := by
  unfold joinStep
  cases e : f.getLast? with
  | none => intro d hd; simp at hd; subst hd; exact hc
  | some b =>
    have hb := h b (List.mem_of_getLast? e)
    dsimp only
    split
    · intro d hd
      rcases List.mem_append.mp hd with hd | hd
      · exact h d ((List.dropLast_sublist f).subset hd)
      · simp at hd
        subst hd
        exact fun t ht => (List.mem_append.mp ht).elim (hb t) (hc t)
    · intro d hd
      rcases List.mem_append.mp hd with hd | hd
      · exact h d hd
      · simp at hd; subst hd; exact hc
theorem joinFold_str {cs f : List Ch} (h : ∀ d ∈ f, okStrs d.words) (hc : ∀ d ∈ cs, okStrs d.words) : ∀ d ∈ cs.foldl joinStep f, okStrs d.words := by
  induction cs generalizing f with
  | nil => exact h
  | cons c cs ih => exact ih (joinStep_str h (hc c List.mem_cons_self)) fun d hd => hc d (List.mem_cons_of_mem _ hd)
section
variable {P : Program} {w : World} {K : Fg} {mg : Str → Option Value} {base : Heap}
theorem scGrowthOf : FnScope ["change", "first", "last", "words"] ["change"] (defScope sGrowthOf) := ⟨rfl, rfl, rfl, by decide +kernel, rfl, by decide +kernel, by decide +kernel⟩
def fsGrowthOf : FS Ch := { args := fun c => [sCh c], pre := fun _ => True, res := fun c => sInt c.growth }
theorem ok_growthOf {f : Addr} {fd : FuncData} (F : Fun K "growth_of" "growth_of" sGrowthOf f fd) (b : Binds K fd ["change"] []) (T : Bt mg) : DefOk P w K mg base 1 f [] fsGrowthOf := by
  refine fn_ok F scGrowthOf b .nil (fun _ => rfl) fun c cdv A outer s G H D EE hr hp hf hn => ?_
  refine j_asgT (O1 := []) (R := sCh) (y := c) (tg_tup3 (r1 := fun c : Ch => sInt c.first) (r2 := fun c : Ch => sInt c.last) (r3 := fun c : Ch => sTupl sStr c.words) 1 2 3 scGrowthOf.nd) (e_name 0) ?_
  exact j_ret (O1 := []) (e_bin o_sub (e_callB c_lenT T.len PySem.boot_len (ea_cons (e_name 3) ea_nil)) (e_bin o_sub (e_name 2) (e_name 1))) (fin_ret hf (fun w hw => hw) fun G v hv => hv)
theorem scJoined : FnScope ["changes", "found", "first", "last", "words", "before", "row"] ["changes"] (defScope sJoined) := ⟨rfl, rfl, rfl, by decide +kernel, rfl, by decide +kernel, by decide +kernel⟩
def fsJoined : FS (List Ch) := { args := fun cs => [sLst sCh cs], pre := fun cs => (∀ c ∈ cs, okStrs c.words) ∧ wsum cs ≤ 100000 ∧ cs.length ≤ 100000, res := fun cs => sTupl sCh (joinedV cs) }
theorem ok_joined {f : Addr} {fd : FuncData} (F : Fun K "joined" "joined" sJoined f fd) (b : Binds K fd ["changes"] []) (T : Bt mg) (Cc : Cs K mg) : DefOk P w K mg base 1 f [] fsJoined := by
  refine fn_ok F scJoined b .nil (fun _ => rfl) fun cs cdv A outer s G H D EE hr hp hf hn => ?_
  have hp : (∀ c ∈ cs, okStrs c.words) ∧ wsum cs ≤ 100000 ∧ cs.length ≤ 100000 := hp
  refine j_setW (O1 := []) 1 (ew_lst (R := sCh) (as := []) el_nil (szl (by simp))) (fun fr hfr => ?_) scJoined.nd
  refine j_for (O1 := [oLst fr sCh []]) (R := sCh) (as := cs) (fun n (g : List Ch) => g = (cs.take n).foldl joinStep []) (fun _ => [some (sLst sCh cs), some (sRef fr), none, none, none, none, none]) (fun g => [oLst fr sCh g]) (fun c => [(2, sInt c.first), (3, sInt c.last), (4, sTupl sStr c.words)])
    (it_lst (e_name 0)) (tg_tup3 (r1 := fun c : Ch => sInt c.first) (r2 := fun c : Ch => sInt c.last) (r3 := fun c : Ch => sTupl sStr c.words) 2 3 4 scJoined.nd) ⟨[], by simp, fun _ _ _ _ h => h⟩ ?_ ?_
  · rintro B1 n c g hB hy rfl
    have hm : c ∈ cs := List.mem_of_getElem? hy
    have hn : n < cs.length := by
      rcases Nat.lt_or_ge n cs.length with z | z
      · exact z
      · rw [List.getElem?_eq_none z] at hy; cases hy
    have hstr := joinFold_str (cs := cs.take n) (f := []) (fun _ h => by cases h) fun d hd => hp.1 d (List.mem_of_mem_take hd)
    have hsum := joinFold_sum (cs.take n) []
    have hst : wsum (cs.take n) + wsum (cs.drop n) = wsum cs := by rw [← wsum_append, List.take_append_drop]
    have hdr : cs.drop n = c :: cs.drop (n + 1) := by
      rw [List.getElem?_eq_getElem hn] at hy
      rw [← Option.some.inj hy, ← List.drop_eq_getElem_cons hn]
    have hw2 : wsum (cs.drop n) = c.words.length + wsum (cs.drop (n + 1)) := by rw [hdr]; simp [wsum]
    have next : (cs.take (n + 1)).foldl joinStep [] = joinStep ((cs.take n).foldl joinStep []) c := by
      rw [take_succ hy, List.foldl_append]
      rfl
    generalize hf0 : (cs.take n).foldl joinStep [] = fo at hstr hsum next
    have hlen : fo.length ≤ n := by
      have := hsum.2
      rw [List.length_take] at this
      simp at this
      omega
    have hws : wsum fo ≤ 100000 := by
      have := hsum.1
      simp [wsum] at this hst hp hw2 ⊢
      omega
    cases e : fo.getLast? with
    | none =>
      have e' := e
      rw [List.getLast?_eq_none_iff] at e'
      subst e'
      refine j_if (O1 := [oLst fr sCh []]) (u := false) (t_w (tw_andF (t_eq (t_neNil (q := fr) (as := []) (R := sCh) (d := chD) 0 hr isD_ch (e_name 1) rfl) rfl))) (fun h => nomatch h) (fun _ => ?_)
      refine j_expr (e_append (q := fr) (as := []) (R := sCh) (y := c) 0 (e_name 1) (e_tup (ea_cons (e_name 2) (ea_cons (e_name 3) (ea_cons (e_name 4) ea_nil))) (szl (by simp))) (by decide)) (j_on (j_nil fun σ G H st => ⟨_, G, next.symm, ?_⟩))
      have : joinStep [] c = [c] := rfl
      rw [this]
      exact st.wk (.same (.same (.skip (.skip (.skip (.same (.same .nil)))))))
    | some bb =>
      have hne : (!fo.isEmpty) = true := by cases fo <;> simp_all
      refine j_if (O1 := [oLst fr sCh fo]) (u := decide (bb.last = c.first)) (t_w (tw_and (u := true) (t_eq (t_neNil (q := fr) (as := fo) (R := sCh) (d := chD) 0 hr isD_ch (e_name 1) (shaped_chs hstr)) hne) fun _ => tw_and1 (t_cmp o_eq (e_ix (i_tup (ss := [sInt bb.first, sInt bb.last, sTupl sStr bb.words]) 1 rfl rfl) (e_ixL (q := fr) (as := fo) (R := sCh) (y := bb) 0 (e_name 1) (e_neg e_int) (atI_neg1 e)) e_int) (e_name 2)))) (fun h => ?_) (fun h => ?_)
      · have h : bb.last = c.first := by simpa using h
        have d := dropLast_last e
        have hbs : bb.words.length + c.words.length ≤ 100000 := by
          have h0 : wsum [] = 0 := rfl
          have h1 := hsum.1
          have h2 := hp.2.1
          have : wsum fo = wsum fo.dropLast + bb.words.length := by
            rw [← d, wsum_append, dropLast_last e]
            simp [wsum]
          omega
        have js : joinStep fo c = fo.dropLast ++ [⟨bb.first, c.last, bb.words ++ c.words⟩] := by
          unfold joinStep
          rw [e]
          exact if_pos h
        refine j_set 5 (O1 := [oLst fr sCh fo.dropLast]) (s := sCh bb) (e_pop (q := fr) (as := fo) (R := sCh) (y := bb) 0 (e_name 1) (last_ix e)) ?_ scJoined.nd
        refine j_expr (e_append (q := fr) (as := fo.dropLast) (R := sCh) (y := ⟨bb.first, c.last, bb.words ++ c.words⟩) 0 (e_name 1) (e_tup (ea_cons (e_ix (i_tup (ss := [sInt bb.first, sInt bb.last, sTupl sStr bb.words]) 0 rfl rfl) (e_name 5) e_int) (ea_cons (e_name 3) (ea_cons (e_tupl (as := bb.words ++ c.words) (R := sStr) (el_starT (e_ix (i_tup (ss := [sInt bb.first, sInt bb.last, sTupl sStr bb.words]) 2 rfl rfl) (e_name 5) e_int) (el_starT1 (e_name 4))) (szl (by rw [List.length_append]; omega))) ea_nil))) (szl (by simp))) (by rw [List.length_dropLast]; exact Nat.lt_of_le_of_lt (show fo.length - 1 ≤ 100000 by omega) (by decide))) (j_on (j_nil fun σ G H st => ⟨_, G, next.symm, ?_⟩))
        rw [js]
        exact st.wk (.same (.same (.skip (.skip (.skip (.skip (.same .nil)))))))
      · have h : ¬ bb.last = c.first := by simpa using h
        have js : joinStep fo c = fo ++ [c] := by
          unfold joinStep
          rw [e]
          exact if_neg h
        refine j_expr (e_append (q := fr) (as := fo) (R := sCh) (y := c) 0 (e_name 1) (e_tup (ea_cons (e_name 2) (ea_cons (e_name 3) (ea_cons (e_name 4) ea_nil))) (szl (by simp))) (Nat.lt_of_le_of_lt (show fo.length ≤ 100000 by omega) (by decide))) (j_on (j_nil fun σ G H st => ⟨_, G, next.symm, ?_⟩))
        rw [js]
        exact st.wk (.same (.same (.skip (.skip (.skip (.same (.same .nil)))))))
  · rintro g rfl
    rw [List.take_length]
    have hstr := joinFold_str (cs := cs) (f := []) (fun _ h => by cases h) hp.1
    have hsum := joinFold_sum cs []
    have hlen : (cs.foldl joinStep []).length ≤ 100000 := by
      have := hsum.2
      simp at this
      omega
    refine j_freeze 1 (s := sLst sCh (cs.foldl joinStep [])) rfl hfr (fun K G o => frz_lst K G fr o) ?_
    refine j_ret (O1 := []) (e_callTy (c_tuple (R := sCh) (as := joinedV cs)) Cc.tuple (by decide +kernel) (ea_cons (e_lst (ew_filter1 (R := sCh) (as := cs.foldl joinStep []) 6 keepCh scJoined.nd (it_lst (e_name 1)) (blkOk_by (own := [("row", 6)]) (N := ["changes", "found", "first", "last", "words", "before", "row"]) (sc := defScope sJoined) (by decide +kernel))
        (fun y hy s H _ cl fp => t_w (tw_or2 (t_cmp o_lt (e_ix (i_tup (ss := [sInt y.first, sInt y.last, sTupl sStr y.words]) 0 rfl rfl) (e_name 6) e_int) (e_ix (i_tup (ss := [sInt y.first, sInt y.last, sTupl sStr y.words]) 1 rfl rfl) (e_name 6) e_int)) (tw_or1 (t_cmp (by refine o_neT (k := 0) ?_ ?_ ?_; (· exact hr); (· exact hstr y hy); (· intro t ht; cases ht)) (e_ix (i_tup (ss := [sInt y.first, sInt y.last, sTupl sStr y.words]) 2 rfl rfl) (e_name 6) e_int) (e_tupl (R := sStr) (as := []) el_nil (szl (by simp)))))))
        (fun y hy _ s H _ cl fp => e_name 6) (szl hlen))) ea_nil)) (fin_ret hf (fun w hw => nomatch hw) fun G v hv => hv)
end
end K50

namespace K50
open PySem L2 Gd
/-- changes that stand one behind the other, with something between them -/
def goodFrom : Int → List Ch → Prop
  | _, [] => True
  | e, c :: r => e < c.first ∧ c.first ≤ c.last ∧ okWords c.words ∧ c.words.length ≤ 1000 ∧ ¬ (c.first = c.last ∧ c.words = []) ∧ goodFrom c.last r
theorem goodFrom.all : ∀ {e : Int} {cs : List Ch}, goodFrom e cs → ∀ c ∈ cs, okWords c.words ∧ c.words.length ≤ 1000 ∧ e < c.first ∧ c.first ≤ c.last
  | _, [], _, c, h => by cases h
  | e, d :: r, g, c, h => by
    obtain ⟨g1, g2, g3, g4, g5, g6⟩ := g
    (rcases List.mem_cons.mp h with rfl | h)
    · exact ⟨g3, g4, g1, g2⟩
    · obtain ⟨h1, h2, h3, h4⟩ := g6.all c h
      exact ⟨h1, h2, by omega, h4⟩
def lastEnd (cs : List Ch) : Int := match cs.getLast? with | some c => c.last | none => 0
def endAt (cs : List Ch) (n : Nat) : Int := match (cs.take n).getLast? with | some c => c.last | none => -1
theorem endAt_succ {cs : List Ch} {n : Nat} {c : Ch} (h : cs[n]? = some c) : endAt cs (n + 1) = c.last := by
  unfold endAt
  rw [take_succ h, List.getLast?_concat]
theorem good_at : ∀ {e : Int} {cs : List Ch} {n : Nat} {c : Ch}, goodFrom e cs → cs[n]? = some c → (n = 0 → e < c.first) ∧ (0 < n → endAt cs n < c.first) ∧ c.first ≤ c.last ∧ okWords c.words ∧ c.words.length ≤ 1000 ∧ ¬ (c.first = c.last ∧ c.words = [])
  | _, [], n, c, _, h => by simp at h
  | e, d :: r, 0, c, g, h => by
    simp at h
    subst h
    exact ⟨fun _ => g.1, fun z => absurd z (by omega), g.2.1, g.2.2.1, g.2.2.2.1, g.2.2.2.2.1⟩
  | e, d :: r, n + 1, c, g, h => by
    have h' : r[n]? = some c := by simpa using h
    obtain ⟨a1, a2, a3⟩ := good_at (e := d.last) g.2.2.2.2.2 h'
    refine ⟨fun z => by omega, fun _ => ?_, a3⟩
    cases n with
    | zero => simpa [endAt] using a1 rfl
    | succ n =>
      have := a2 (by omega)
      unfold endAt at this ⊢
      rw [List.take_succ_cons]
      have hl : ∃ z, (r.take (n + 1)).getLast? = some z := by
        cases q : (r.take (n + 1)).getLast? with
        | none =>
          rw [List.getLast?_eq_none_iff] at q
          have hn := (List.getElem?_eq_some_iff.mp h').1
          have hlen := congrArg List.length q
          rw [List.length_take] at hlen
          have hlen : min (n + 1) r.length = 0 := hlen
          omega
        | some z => exact ⟨z, rfl⟩
      obtain ⟨z, hz⟩ := hl
      rw [hz] at this
      rw [List.getLast?_cons, hz]
      exact this
theorem eqv_ch (a b : Ch) : PyData.eqv (chD a) (chD b) = true ↔ a = b := by
  unfold chD
  have h := eqvAll_map (f := PyData.str) eqv_str (xs := a.words) (ys := b.words)
  cases a
  cases b
  simp [PyData.eqv, PyData.eqvAll, h]
section
variable {X : Cx}
theorem chsD (cs : List Ch) (h : ∀ c ∈ cs, okStrs c.words) : IsD (sTupl sCh cs) (.tuple (cs.map chD)) ∧ SeqAt.shaped (.tuple (cs.map chD)) = true := ⟨isD_tupl isD_ch, shaped_tup (can_ch h) (Nat.le_trans (depth_ch cs) (by decide))⟩
theorem o_eqCh {k : Nat} (hr : Room k X.A) {as bs : List Ch} (h1 : ∀ c ∈ as, okStrs c.words) (h2 : ∀ c ∈ bs, okStrs c.words) : OpE X (compareOp .Eq) (sTupl sCh as) (sTupl sCh bs) (sBl (decide (as = bs))) :=
  o_eqD hr (chsD as h1).1 (chsD bs h2).1 (chsD as h1).2 (chsD bs h2).2 (eqv_tup eqv_ch)
theorem o_neCh {k : Nat} (hr : Room k X.A) {as bs : List Ch} (h1 : ∀ c ∈ as, okStrs c.words) (h2 : ∀ c ∈ bs, okStrs c.words) : OpE X (compareOp .NotEq) (sTupl sCh as) (sTupl sCh bs) (sBl (!decide (as = bs))) :=
  o_neD hr (chsD as h1).1 (chsD bs h2).1 (chsD as h1).2 (chsD bs h2).2 (eqv_tup eqv_ch)
end
section
variable {P : Program} {w : World} {K : Fg} {mg : Str → Option Value} {base : Heap}
abbrev areN : List Str := ["thing", "row", "end", "first", "last", "words", "one", "word"]
theorem scAre : FnScope areN ["thing"] (defScope sAre) := ⟨rfl, rfl, rfl, by decide +kernel, rfl, by decide +kernel, by decide +kernel⟩
def fsAre : FS (List Ch) := { args := fun cs => [sTupl sCh cs], pre := fun cs => goodFrom (-1) cs ∧ cs.length ≤ 1000, res := fun _ => sBl true }
theorem ok_are {f fT : Addr} {fd : FuncData} (F : Fun K "are_changes" "are_changes" sAre f fd) (b : Binds K fd ["thing"] []) (T : Bt mg) (Cc : Cs K mg) (gT : mg "is_token" = some (.ref fT)) (FT : DefOk P w K mg base 2 fT [] fsIsToken) : DefOk P w K mg base 3 f [] fsAre := by
  refine fn_ok F scAre b .nil (fun _ => rfl) fun cs cdv A outer s G H D EE hr hp hf hn => ?_
  have hp : goodFrom (-1) cs ∧ cs.length ≤ 1000 := hp
  have hr2 : Room 2 _ := hr
  refine j_if (O1 := []) (u := false) (t_eq (t_w (tw_or2 (t_not (t_val (e_callB (c_isi (n := "tuple") (k := true) ty_tupl (kit_ty (by decide +kernel))) Cc.isi (by decide +kernel) (ea_cons (e_name 0) (ea_cons (e_ty "tuple" Cc.tuple (by decide +kernel)) ea_nil)))))
    (tw_or1 (t_not (t_val (e_callB c_all Cc.all (by decide +kernel) (ea_cons (e_lst (ew_map (R := sCh) (S := sBl) (as := cs) 1 (fun _ => true) scAre.nd (it_tupl (e_name 0)) (blkOk_by (own := [("row", 1)]) (N := areN) (sc := defScope sAre) (by decide +kernel))
      (fun y hy s H _ cl fp => e_and2 (e_callB (c_isi (n := "tuple") (k := true) ty_tup (kit_ty (by decide +kernel))) Cc.isi (by decide +kernel) (ea_cons (e_name 1) (ea_cons (e_ty "tuple" Cc.tuple (by decide +kernel)) ea_nil)))
        (e_one (e_cmp o_eq (e_callB (c_lenTup (ss := [sInt y.first, sInt y.last, sTupl sStr y.words])) T.len PySem.boot_len (ea_cons (e_name 1) ea_nil)) e_int))) (szl (by omega)))) ea_nil))))))) (by
    have : (List.map (fun _ => true) cs).all id = true := by simp
    rw [this]
    rfl)) (fun h => nomatch h) (fun _ => j_on ?_)
  refine j_set 2 (O1 := []) (e_neg e_int) ?_ scAre.nd
  refine j_for (O1 := []) (R := sCh) (as := cs) (fun n (g : Nat) => g = n) (fun g => [some (sTupl sCh cs), none, some (sInt (endAt cs g)), none, none, none, none, none]) (fun _ => []) (fun c => [(3, sInt c.first), (4, sInt c.last), (5, sTupl sStr c.words)])
    (it_tupl (e_name 0)) (tg_tup3 (r1 := fun c : Ch => sInt c.first) (r2 := fun c : Ch => sInt c.last) (r3 := fun c : Ch => sTupl sStr c.words) 3 4 5 scAre.nd) ⟨0, rfl, fun _ _ _ _ h => h⟩ ?_ ?_
  · rintro B1 n c g hB hy rfl
    obtain ⟨a1, a2, a3, a4, a5, a6⟩ := good_at hp.1 hy
    have he : endAt cs g < c.first := by
      rcases Nat.eq_zero_or_pos g with z | z
      · subst z
        simpa [endAt] using a1 rfl
      · exact a2 z
    refine j_if (O1 := []) (u := false) (t_eq (t_not (t_val (e_callB c_all Cc.all (by decide +kernel) (ea_cons (e_lst (ew_map (R := sInt) (S := sBl) (as := [c.first, c.last]) 6 (fun _ => true) scAre.nd (it_tupl (e_tupl (el_cons (e_name 3) (el_cons (e_name 4) el_nil)) (szl (by simp))))
      (blkOk_by (own := [("one", 6)]) (N := areN) (sc := defScope sAre) (by decide +kernel)) (fun y hy _ _ _ _ _ => ?_) (szl (by simp)))) ea_nil)))) (by rfl)) (fun h => nomatch h) (fun _ => j_on ?_)
    · exact e_and2 (e_callB (c_isi (n := "int") (k := true) ty_int (kit_ty (by decide +kernel))) Cc.isi (by decide +kernel) (ea_cons (e_name 6) (ea_cons (e_ty "int" Cc.int (by decide +kernel)) ea_nil)))
        (e_one (e_not (e_callB (c_isi (n := "bool") (k := false) ty_int (kit_ty (by decide +kernel))) Cc.isi (by decide +kernel) (ea_cons (e_name 6) (ea_cons (e_ty "bool" Cc.bool (by decide +kernel)) ea_nil)))))
    refine j_if (O1 := []) (u := false) (t_eq (t_w (tw_or2 (t_not (t_chain o_lt (fun _ => o_le) (e_name 2) (e_name 3) (e_name 4))) (tw_or2 (t_not (t_val (e_callB (c_isi (n := "tuple") (k := true) ty_tupl (kit_ty (by decide +kernel))) Cc.isi (by decide +kernel) (ea_cons (e_name 5) (ea_cons (e_ty "tuple" Cc.tuple (by decide +kernel)) ea_nil)))))
      (tw_or1 (t_not (t_val (e_callB c_all Cc.all (by decide +kernel) (ea_cons (e_lst (ew_map (R := sStr) (S := sBl) (as := c.words) 7 (fun t => isToken t) scAre.nd (it_tupl (e_name 5))
        (blkOk_by (own := [("word", 7)]) (N := areN) (sc := defScope sAre) (by decide +kernel)) (fun y hy _ _ _ _ _ => ?_) (szl (by omega)))) ea_nil)))))))) ?_) (fun h => nomatch h) (fun _ => j_on ?_)
    · exact e_callR (S := fsIsToken) (O2 := []) y FT hr2 gT (ea_cons (e_name 7) ea_nil) (by exact (a4 y hy).2)
    · have : (List.map (fun t => isToken t) c.words).all id = true := by
        rw [List.all_map, List.all_eq_true]
        exact fun t ht => (a4 t ht).1
      rw [this]
      simp [he, a3]
    refine j_if (O1 := []) (u := false) (t_eq (t_w (tw_and2 (t_cmp o_eq (e_name 3) (e_name 4)) (tw_and1 (t_cmp (o_eqT (us := []) hr a4.str (fun t ht => by cases ht)) (e_name 5) (e_tupl (R := sStr) (as := []) el_nil (szl (by simp))))))) ?_) (fun h => nomatch h) (fun _ => j_on ?_)
    · cases e1 : decide (c.first = c.last) with
      | false => rfl
      | true =>
        cases e2 : decide (c.words = []) with
        | false => rfl
        | true => exact absurd ⟨of_decide_eq_true e1, of_decide_eq_true e2⟩ a6
    refine j_set 2 (O1 := []) (e_name 4) (j_nil fun σ G H st => ⟨g + 1, G, rfl, ?_⟩) scAre.nd
    show Sta K B1 [_, _, some (sInt (endAt cs (g + 1))), _, _, _, _, _] _ σ G H
    rw [endAt_succ hy]
    exact st.wk (.same (.same (.same (.skip (.skip (.skip (.same (.same .nil))))))))
  · rintro g rfl
    exact j_ret (O1 := []) e_bl (fin_ret hf (fun w hw => hw) fun G v hv => hv)
end
end K50

namespace K50
open PySem L2 Gd
abbrev sPInit : Stmt := inClass (top 22) 0
abbrev sPEq : Stmt := inClass (top 22) 1
abbrev sPLen : Stmt := inClass (top 22) 2
abbrev sPIter : Stmt := inClass (top 22) 3
abbrev sPBool : Stmt := inClass (top 22) 4
abbrev sPCall : Stmt := inClass (top 22) 5
abbrev sPGrowth : Stmt := inClass (top 22) 6
abbrev sPEdits : Stmt := inClass (top 22) 7
structure Pa where
  changes : List Ch
  least : Int
  deriving DecidableEq
abbrev paTab (p : Pa) : List (Str × Slot) := [("changes", sTupl sCh p.changes), ("least", sInt p.least)]
abbrev sPa (CP : Addr) (p : Pa) : Slot := sIns CP (paTab p)
def Pa.ok (p : Pa) : Prop := goodFrom (-1) p.changes ∧ p.changes.length ≤ 1000 ∧ lastEnd p.changes ≤ p.least
theorem Pa.ok.str {p : Pa} (h : p.ok) : ∀ c ∈ p.changes, okStrs c.words := fun c hc => (h.1.all c hc).1.str
structure PaC (K : Fg) (mg : Str → Option Value) (CP : Addr) : Prop where
  cl : Cls K CP
  nC : NoAttr K CP "changes"
  nL : NoAttr K CP "least"
  gP : mg "Patch" = some (.ref CP)
def Pa.growth (p : Pa) : Int := (p.changes.map Ed.growth).sum
def runStep (ws : List Str) (s : List Str × Int) (c : Ch) : List Str × Int := (s.1 ++ (cutA ws (some s.2) (some c.first) ++ c.words), c.last)
def runAt (cs : List Ch) (ws : List Str) (n : Nat) : List Str × Int := (cs.take n).foldl (runStep ws) ([], 0)
def Pa.run (p : Pa) (ws : List Str) : List Str := (runAt p.changes ws p.changes.length).1 ++ cutA ws (some (runAt p.changes ws p.changes.length).2) none
theorem runAt_succ {cs : List Ch} {ws : List Str} {n : Nat} {c : Ch} (h : cs[n]? = some c) : runAt cs ws (n + 1) = runStep ws (runAt cs ws n) c := by
  unfold runAt
  rw [take_succ h, List.foldl_append]
  rfl
theorem cutA_len {α : Type} (xs : List α) (a b : Option Int) : (cutA xs a b).length ≤ xs.length := by
  unfold cutA
  (rw [List.length_take, List.length_drop])
  omega
theorem runAt_len {cs : List Ch} {ws : List Str} (h : ∀ c ∈ cs, c.words.length ≤ 1000) (hl : ws.length ≤ 200) : ∀ n, n ≤ cs.length → (runAt cs ws n).1.length ≤ 1200 * n
  | 0, _ => by simp [runAt]
  | n + 1, hn => by
    have ih := runAt_len h hl n (by omega)
    have hc := List.getElem?_eq_getElem (show n < cs.length from hn)
    rw [runAt_succ hc]
    have h1 := h _ (List.mem_of_getElem? hc)
    have h2 := cutA_len ws (some (runAt cs ws n).2) (some cs[n].first)
    show ((runAt cs ws n).1 ++ (cutA ws (some (runAt cs ws n).2) (some cs[n].first) ++ cs[n].words)).length ≤ _
    rw [List.length_append, List.length_append]
    omega
def Pa.fits (p : Pa) (ws : List Str) : Prop := p.ok ∧ okWords ws ∧ ws.length ≤ 200 ∧ p.least ≤ ws.length
section
variable {P : Program} {w : World} {K : Fg} {mg : Str → Option Value} {base : Heap} {C CP : Addr}
theorem scPInit : FnScope ["self", "changes", "least"] ["self", "changes", "least"] (defScope sPInit) := ⟨rfl, rfl, rfl, by decide +kernel, rfl, by decide +kernel, by decide +kernel⟩
def fsPInit (CP : Addr) : FS (Addr × Pa) := { args := fun i => [sRef i.1, sTupl sCh i.2.changes, sInt i.2.least], pre := fun i => i.2.ok, own := fun i => [oIns i.1 CP []], res := fun _ => sNon, own' := fun i => [oIns i.1 CP (paTab i.2)] }
theorem ok_pinit {f fA : Addr} {fd : FuncData} (F : Fun K "__init__" "Patch.__init__" sPInit f fd) (b : Binds K fd ["self", "changes", "least"] []) (Cc : Cs K mg) (PC : PaC K mg CP) (gA : mg "are_changes" = some (.ref fA)) (FA : DefOk P w K mg base 3 fA [] fsAre) : DefOk P w K mg base 4 f [] (fsPInit CP) := by
  refine fn_ok F scPInit b .nil (fun _ => rfl) fun ⟨x, p⟩ cdv A outer s G H D EE hr hp hf hn => ?_
  have hp : p.ok := hp
  refine j_if (O1 := [oIns x CP []]) (u := false) (t_eq (t_not (t_val (e_call (S := fsAre) (O2 := [oIns x CP []]) p.changes FA hr gA (ea_cons (e_name 1) ea_nil) ⟨hp.1, hp.2.1⟩))) rfl) (fun h => nomatch h) (fun _ => j_on ?_)
  refine j_if (O1 := [oIns x CP []]) (u := false) (t_eq (t_w (tw_or2 (t_not (t_val (e_callB (c_isi (n := "int") (k := true) ty_int (kit_ty (by decide +kernel))) Cc.isi (by decide +kernel) (ea_cons (e_name 2) (ea_cons (e_ty "int" Cc.int (by decide +kernel)) ea_nil)))))
    (tw_or2 (t_val (e_callB (c_isi (n := "bool") (k := false) ty_int (kit_ty (by decide +kernel))) Cc.isi (by decide +kernel) (ea_cons (e_name 2) (ea_cons (e_ty "bool" Cc.bool (by decide +kernel)) ea_nil))))
    (tw_or1 (t_cmp o_lt (e_name 2) (e_ife (s := sInt (lastEnd p.changes)) (φ := fun _ => sNon) (t_cmp (o_neCh (bs := []) hr hp.str (fun c hc => by cases hc)) (e_name 1) (e_tupl (R := sCh) (as := []) el_nil (szl (by simp)))) (fun h => ?_) (fun h => ?_))))))) ?_) (fun h => nomatch h) (fun _ => j_on ?_)
  · have h : p.changes ≠ [] := by simpa using h
    cases e : p.changes.getLast? with
    | none => rw [List.getLast?_eq_none_iff] at e; exact absurd e h
    | some c =>
      have el : lastEnd p.changes = c.last := by unfold lastEnd; rw [e]
      rw [el]
      exact e_ix (i_tup (ss := [sInt c.first, sInt c.last, sTupl sStr c.words]) 1 rfl rfl) (e_ix (i_tupl (R := sCh) (y := c) (atI_neg1 e)) (e_name 1) (e_neg e_int)) e_int
  · have h : p.changes = [] := by simpa using h
    have el : lastEnd p.changes = 0 := by rw [h]; rfl
    rw [el]
    exact e_int
  · have := hp.2.2
    simp
    omega
  refine j_fld (O1 := [oIns x CP []]) (O2 := [oIns x CP []]) 0 (e_name 1) (e_name 0) PC.cl PC.nC ?_
  refine j_fld (O1 := [oIns x CP [("changes", sTupl sCh p.changes)]]) (O2 := [oIns x CP [("changes", sTupl sCh p.changes)]]) 0 (e_name 2) (e_name 0) PC.cl PC.nL ?_
  exact fin_end hf hn fun w hw => hw
theorem scPEq : FnScope ["self", "other"] ["self", "other"] (defScope sPEq) := ⟨rfl, rfl, rfl, by decide +kernel, rfl, by decide +kernel, by decide +kernel⟩
def fsPEq (CP : Addr) : FS (Pa × Pa) := { args := fun i => [sPa CP i.1, sPa CP i.2], pre := fun i => i.1.ok ∧ i.2.ok, res := fun i => sBl (decide (i.1 = i.2)) }
theorem ok_peq {f : Addr} {fd : FuncData} (F : Fun K "__eq__" "Patch.__eq__" sPEq f fd) (b : Binds K fd ["self", "other"] []) (Cc : Cs K mg) (PC : PaC K mg CP) (CI : ClsI K CP) : DefOk P w K mg base 1 f [] (fsPEq CP) := by
  refine fn_ok F scPEq b .nil (fun _ => rfl) fun ⟨p, q⟩ cdv A outer s G H D EE hr hp hf hn => ?_
  have hp : p.ok ∧ q.ok := hp
  refine j_ret (O1 := []) (e_and2 (e_callB (c_isiC (k := true) (ty_ins CI) kit_self) Cc.isi (by decide +kernel) (ea_cons (e_name 1) (ea_cons (e_gref PC.gP) ea_nil))) (e_and2 (e_cmp (o_eqCh hr hp.1.str hp.2.str) (e_fld 0 PC.cl PC.nC (e_name 0)) (e_fld 0 PC.cl PC.nC (e_name 1)))
    (e_one (e_cmp o_eq (e_fld 1 PC.cl PC.nL (e_name 0)) (e_fld 1 PC.cl PC.nL (e_name 1)))))) (fin_ret hf (fun w hw => hw) fun G v hv => ?_)
  have hv : v = V.bl (true && (decide (p.changes = q.changes) && decide (p.least = q.least))) := hv
  show v = V.bl (decide (p = q))
  rw [hv]
  congr 1
  rw [Bool.eq_iff_iff]
  cases p
  cases q
  simp
theorem scPLen : FnScope ["self"] ["self"] (defScope sPLen) := ⟨rfl, rfl, rfl, by decide +kernel, rfl, by decide +kernel, by decide +kernel⟩
def fsPLen (CP : Addr) : FS Pa := { args := fun i => [sPa CP i], pre := fun _ => True, res := fun i => sInt i.changes.length }
theorem ok_plen {f : Addr} {fd : FuncData} (F : Fun K "__len__" "Patch.__len__" sPLen f fd) (b : Binds K fd ["self"] []) (T : Bt mg) (PC : PaC K mg CP) : DefOk P w K mg base 1 f [] (fsPLen CP) := by
  refine fn_ok F scPLen b .nil (fun _ => rfl) fun e cdv A outer s G H D EE hr hp hf hn => ?_
  exact j_ret (O1 := []) (e_callB c_lenT T.len PySem.boot_len (ea_cons (e_fld 0 PC.cl PC.nC (e_name 0)) ea_nil)) (fin_ret hf (fun w hw => hw) fun G v hv => hv)
theorem scPBool : FnScope ["self"] ["self"] (defScope sPBool) := ⟨rfl, rfl, rfl, by decide +kernel, rfl, by decide +kernel, by decide +kernel⟩
def fsPBool (CP : Addr) : FS Pa := { args := fun i => [sPa CP i], pre := fun _ => True, res := fun i => sBl (!decide ((i.changes.length : Int) = 0)) }
theorem ok_pbool {f : Addr} {fd : FuncData} (F : Fun K "__bool__" "Patch.__bool__" sPBool f fd) (b : Binds K fd ["self"] []) (T : Bt mg) (PC : PaC K mg CP) : DefOk P w K mg base 1 f [] (fsPBool CP) := by
  refine fn_ok F scPBool b .nil (fun _ => rfl) fun e cdv A outer s G H D EE hr hp hf hn => ?_
  exact j_ret (O1 := []) (e_not (e_cmp o_eq (e_callB c_lenT T.len PySem.boot_len (ea_cons (e_fld 0 PC.cl PC.nC (e_name 0)) ea_nil)) e_int)) (fin_ret hf (fun w hw => hw) fun G v hv => hv)
theorem scPGrowth : FnScope ["self", "change"] ["self"] (defScope sPGrowth) := ⟨rfl, rfl, rfl, by decide +kernel, rfl, by decide +kernel, by decide +kernel⟩
def fsPGrowth (CP : Addr) : FS Pa := { args := fun i => [sPa CP i], pre := fun i => i.changes.length ≤ 1000, res := fun i => sInt i.growth }
theorem ok_pgrowth {f fG : Addr} {fd : FuncData} (F : Fun K "growth" "Patch.growth" sPGrowth f fd) (b : Binds K fd ["self"] []) (zs : mg "sum" = none) (PC : PaC K mg CP) (gG : mg "growth_of" = some (.ref fG)) (FG : DefOk P w K mg base 1 fG [] fsGrowthOf) : DefOk P w K mg base 2 f [] (fsPGrowth CP) := by
  refine fn_ok F scPGrowth b .nil (fun _ => rfl) fun p cdv A outer s G H D EE hr hp hf hn => ?_
  have hp : p.changes.length ≤ 1000 := hp
  exact j_ret (O1 := []) (e_callB c_sum zs (by decide +kernel) (ea_cons (e_lst (ew_map (R := sCh) (S := sInt) (as := p.changes) 1 Ed.growth scPGrowth.nd (it_tupl (e_fld 0 PC.cl PC.nC (e_name 0))) (blkOk_by (own := [("change", 1)]) (N := ["self", "change"]) (sc := defScope sPGrowth) (by decide +kernel))
    (fun y hy s H _ cl fp => e_callR (S := fsGrowthOf) (O2 := []) y FG hr gG (ea_cons (e_name 1) ea_nil) trivial) (szl (by omega)))) ea_nil)) (fin_ret hf (fun w hw => hw) fun G v hv => hv)
end
end K50

namespace K50
open PySem L2 Gd
section
variable {P : Program} {w : World} {K : Fg} {mg : Str → Option Value} {base : Heap} {C CP : Addr}
/-- Edit(e, e, ws): a frozen edit -/
theorem e_edit {X : Cx} {δ : List (Option Slot)} {O O1 : List Own} {a1 a2 a3 : Expr} {f : Addr} {p pos : Pos} {i j : Int} {ws : List Str} (tup : Bool) (M : Mk X.K C f) (FI : DefX X 3 f [] (fsInit C)) (hr : Room 4 X.A) (gC : X.mg "Edit" = some (.ref C)) (hp : (Ed.mk i j ws).ok)
    (ha : EA X δ O [a1, a2, a3] [sInt i, sInt j, sWs tup ws] O1) (hg : Gl X "Edit" := by rfl) (h1 : noStar a1 = true := by rfl) (h2 : noStars [a2, a3] = true := by rfl) : E X δ O (.Call (.Name "Edit" p) [a1, a2, a3] [] pos) (sEd C ⟨i, j, ws⟩) O1 :=
  e_ins (ew_make (S := fsInit C) (fun q => (q, ⟨i, j, ws⟩, tup)) M FI hr gC ha (fun q => hp) (fun _ => rfl) (fun _ => rfl) (fun _ => rfl) (fun _ => rfl) (fun _ => rfl) hg (by decide) h1 h2)
theorem scPEdits : FnScope ["self", "first", "last", "words"] ["self"] (defScope sPEdits) := ⟨rfl, rfl, rfl, by decide +kernel, rfl, by decide +kernel, by decide +kernel⟩
def fsPEdits (C CP : Addr) : FS Pa := { args := fun i => [sPa CP i], pre := fun i => i.ok, res := fun i => sLst (sEd C) i.changes.reverse }
theorem goodFrom.ed {e : Int} {cs : List Ch} (h : goodFrom e cs) (he : -1 ≤ e) : ∀ c ∈ cs, c.ok := fun c hc => by
  obtain ⟨h1, h2, h3, h4⟩ := h.all c hc
  exact ⟨⟨by omega, h4⟩, h1, by omega⟩
theorem ok_pedits {f fI : Addr} {fd : FuncData} (F : Fun K "edits" "Patch.edits" sPEdits f fd) (b : Binds K fd ["self"] []) (PC : PaC K mg CP) (EC : EdC K mg C) (M : Mk K C fI) (FI : DefOk P w K mg base 3 fI [] (fsInit C)) : DefOk P w K mg base 5 f [] (fsPEdits C CP) := by
  refine fn_ok F scPEdits b .nil (fun _ => rfl) fun p cdv A outer s G H D EE hr hp hf hn => ?_
  have hp : p.ok := hp
  have hl := hp.2.1
  refine j_ret (O1 := []) (s := sLst (sEd C) p.changes.reverse) (e_lst ?_) (fin_ret hf (fun w hw => hw) fun G v hv => hv)
  have key : ∀ c ∈ p.changes.reverse, c.ok := fun c hc => hp.1.ed (by decide) c (List.mem_reverse.mp hc)
  have e : p.changes.reverse.map (fun c : Ch => (c : Ed)) = p.changes.reverse := List.map_id' _
  rw [← e]
  exact ew_mapT3 (S := sEd C) (as := p.changes.reverse) (r1 := fun c : Ch => sInt c.first) (r2 := fun c : Ch => sInt c.last) (r3 := fun c : Ch => sTupl sStr c.words) 1 2 3 (fun c : Ch => (c : Ed)) scPEdits.nd
    (it_tupl (e_revT (e_fld 0 PC.cl PC.nC (e_name 0)))) (blkOk_by (own := [("first", 1), ("last", 2), ("words", 3)]) (N := ["self", "first", "last", "words"]) (sc := defScope sPEdits) (by decide +kernel))
    (fun y hy s H _ cl fp => e_edit (ws := y.words) true M FI hr EC.gC (key y hy) (ea_cons (e_name 1) (ea_cons (e_name 2) (ea_cons (e_name 3) ea_nil)))) (szl (by rw [List.length_reverse]; omega))
theorem scPCall : FnScope ["self", "words", "found", "start", "first", "last", "new"] ["self", "words"] (defScope sPCall) := ⟨rfl, rfl, rfl, by decide +kernel, rfl, by decide +kernel, by decide +kernel⟩
def fsPCall (CP : Addr) : FS (Pa × Bool × List Str) := { args := fun i => [sPa CP i.1, sWs i.2.1 i.2.2], pre := fun i => i.1.fits i.2.2, res := fun i => sLst sStr (i.1.run i.2.2) }
theorem el_ws {X : Cx} {δ : List (Option Slot)} {O O1 O2 O3 O4 : List Own} {e : Expr} {lo hi : Option Expr} {l u : Option Int} {es : List Expr} {ys ws : List Str} {p p2 pos : Pos} (tup : Bool) (he : E X δ O e (sWs tup ws) O1) (hl : PoE X δ O1 lo l O2) (hu : PoE X δ O2 hi u O3) (hr : EL X δ O3 sStr es ys O4) :
    EL X δ O sStr (.Starred (.Subscript e (.Slice lo hi none p2) pos) p :: es) (cutA ws l u ++ ys) O4 := by
  cases tup with
  | false => exact el_star (e_lst (ew_slice he hl hu)) hr
  | true => exact el_starT (e_sliceT he hl hu) hr
theorem ok_pcall {f fK : Addr} {fd : FuncData} (F : Fun K "__call__" "Patch.__call__" sPCall f fd) (b : Binds K fd ["self", "words"] []) (T : Bt mg) (PC : PaC K mg CP) (gK : mg "check_words" = some (.ref fK)) (FK : DefOk P w K mg base 3 fK [.bl false, .int 200] fsCheck) : DefOk P w K mg base 4 f [] (fsPCall CP) := by
  refine fn_ok F scPCall b .nil (fun _ => rfl) fun ⟨p, tup, ws⟩ cdv A outer s G H D EE hr hp hf hn => ?_
  have hp : p.fits ws := hp
  have hl := hp.1.2.1
  have hws := hp.2.2.1
  have hcw : ∀ c ∈ p.changes, c.words.length ≤ 1000 := fun c hc => (hp.1.1.all c hc).2.1
  have len : CallE (cxD P w K mg base ["self", "words", "found", "start", "first", "last", "new"] "Patch.__call__" sPCall f cdv A outer s H EE) (.builtin "len") [sWs tup ws] (sInt ws.length) := by
    cases tup with
    | false => exact c_len
    | true => exact c_lenT
  refine j_expr (O1 := []) (e_call (O2 := []) (S := fsCheck) (tup, ws) FK hr gK (ea_cons (e_name 1) ea_nil) ⟨hp.2.1, hp.2.2.1⟩) ?_
  refine j_if (O1 := []) (u := false) (t_eq (t_cmp o_lt (e_callB len T.len PySem.boot_len (ea_cons (e_name 1) ea_nil)) (e_fld 1 PC.cl PC.nL (e_name 0))) (decide_eq_false (by have := hp.2.2.2; show ¬ (ws.length : Int) < p.least; omega))) (fun h => nomatch h) (fun _ => j_on ?_)
  refine j_parW1 (O1 := []) (s2 := sInt 0) 2 3 (ew_lst (R := sStr) (as := []) el_nil (szl (by simp))) (fun r => e_int) (fun fr hfr => ?_) scPCall.nd
  refine j_for (O1 := [oLst fr sStr []]) (R := sCh) (as := p.changes) (fun n (g : Nat) => g = n) (fun g => [some (sPa CP p), some (sWs tup ws), some (sRef fr), some (sInt (runAt p.changes ws g).2), none, none, none]) (fun g => [oLst fr sStr (runAt p.changes ws g).1]) (fun c => [(4, sInt c.first), (5, sInt c.last), (6, sTupl sStr c.words)])
    (it_tupl (e_fld 0 PC.cl PC.nC (e_name 0))) (tg_tup3 (r1 := fun c : Ch => sInt c.first) (r2 := fun c : Ch => sInt c.last) (r3 := fun c : Ch => sTupl sStr c.words) 4 5 6 scPCall.nd) ⟨0, rfl, fun _ _ _ _ h => h⟩ ?_ ?_
  · rintro B1 n c g hB hy rfl
    have hg : g < p.changes.length := (List.getElem?_eq_some_iff.mp hy).1
    have h1 := runAt_len hcw hws g (by omega)
    have h2 := cutA_len ws (some (runAt p.changes ws g).2) (some c.first)
    have h3 := hcw c (List.mem_of_getElem? hy)
    refine j_expr (e_extend (q := fr) (as := (runAt p.changes ws g).1) (bs := cutA ws (some (runAt p.changes ws g).2) (some c.first) ++ c.words) (R := sStr) 0 (e_name 2) (e_lst (ew_lst (el_ws tup (e_name 1) (po_s (e_name 3)) (po_s (e_name 4)) (el_starT1 (e_name 6))) (szl (by rw [List.length_append]; omega)))) (by rw [List.length_append]; exact Nat.le_trans (show _ ≤ 1300000 by omega) (by decide))) ?_
    refine j_set 3 (O1 := [oLst fr sStr ((runAt p.changes ws g).1 ++ (cutA ws (some (runAt p.changes ws g).2) (some c.first) ++ c.words))]) (e_name 5) (j_nil fun σ G H st => ⟨g + 1, G, rfl, ?_⟩) scPCall.nd
    show Sta K B1 [_, _, _, some (sInt (runAt p.changes ws (g + 1)).2), _, _, _] [oLst fr sStr (runAt p.changes ws (g + 1)).1] σ G H
    rw [runAt_succ hy]
    exact st.wk (.same (.same (.same (.same (.skip (.skip (.skip .nil)))))))
  · rintro g rfl
    have h1 := runAt_len hcw hws p.changes.length (Nat.le_refl _)
    have h2 := cutA_len ws (some (runAt p.changes ws p.changes.length).2) none
    refine j_freeze 2 (s := sLst sStr (runAt p.changes ws p.changes.length).1) rfl hfr (fun K G o => frz_lst K G fr o) ?_
    refine j_ret (O1 := []) (s := sLst sStr (p.run ws)) (e_lst (ew_lst ?_ ?_)) (fin_ret hf (fun w hw => nomatch hw) fun G v hv => hv)
    · show EL _ _ _ sStr _ ((runAt p.changes ws p.changes.length).1 ++ cutA ws (some (runAt p.changes ws p.changes.length).2) none) _
      rw [← List.append_nil (cutA ws (some (runAt p.changes ws p.changes.length).2) none)]
      exact el_star (e_name 2) (el_ws tup (e_name 1) (po_s (e_name 3)) po_n el_nil)
    · show ((runAt p.changes ws p.changes.length).1 ++ cutA ws (some (runAt p.changes ws p.changes.length).2) none).length ≤ sizeLine
      rw [List.length_append]
      exact Nat.le_trans (show _ ≤ 1300000 by omega) (by decide)
end
end K50

namespace K50
open PySem L2 Gd
abbrev sQInit : Stmt := inClass (top 24) 0
abbrev sQCut : Stmt := inClass (top 24) 1
abbrev sQSize : Stmt := inClass (top 24) 2
abbrev sQParted : Stmt := inClass (top 24) 3
abbrev sQEdit : Stmt := inClass (top 24) 4
abbrev sQTold : Stmt := inClass (top 24) 5
/-- a row: old words from a to b (none: to the end), or a new word -/
inductive Rw where
  | gap (a : Int) (b : Option Int)
  | word (t : Str)
  deriving DecidableEq
def sRw : Rw → Slot
  | .gap a b => sTup [sInt a, sOpt sInt b]
  | .word t => sTup [sStr t, sNon]
def sizeV : Rw → Option Int
  | .gap a (some b) => some (b - a)
  | .gap _ none => none
  | .word _ => some 1
structure Ps where
  rows : List Rw
  least : Int
structure QC (K : Fg) (mg : Str → Option Value) (CQ : Addr) : Prop where
  cl : Cls K CQ
  nR : NoAttr K CQ "rows"
  nL : NoAttr K CQ "least"
  gQ : mg "Pieces" = some (.ref CQ)
abbrev qTab (r : Addr) (least : Int) : List (Str × Slot) := [("rows", sRef r), ("least", sInt least)]
def oQ (CQ x r : Addr) (q : Ps) : List Own := [oIns x CQ (qTab r q.least), oLst r sRw q.rows]
theorem max2 (a b : Int) : ∃ m, m ∈ [a, b] ∧ (∀ y ∈ [a, b], y ≤ m) ∧ m = max a b := by
  rcases Int.le_total a b with h | h
  · exact ⟨b, by simp, by simp [h], by omega⟩
  · exact ⟨a, by simp, by simp [h], by omega⟩
theorem c_max2 {X : Cx} {a b : Int} (hc : X.calm = true := by rfl) : CallE X (.builtin "max") [sLst sInt [a, b]] (sInt (max a b)) := by
  obtain ⟨m, h1, h2, h3⟩ := max2 a b
  rw [← h3]
  exact c_max h1 h2 hc
section
variable {P : Program} {w : World} {K : Fg} {mg : Str → Option Value} {base : Heap} {C CP CQ : Addr}
theorem scQInit : FnScope ["self"] ["self"] (defScope sQInit) := ⟨rfl, rfl, rfl, by decide +kernel, rfl, by decide +kernel, by decide +kernel⟩
def fsQInit (CQ : Addr) : FSX Addr Addr := { args := fun x => [sRef x], own := fun x => [oIns x CQ []], res := fun _ _ => sNon, own' := fun x r => oQ CQ x r ⟨[.gap 0 none], 0⟩ }
theorem ok_qinit {f : Addr} {fd : FuncData} (F : Fun K "__init__" "Pieces.__init__" sQInit f fd) (b : Binds K fd ["self"] []) (Q : QC K mg CQ) : DefOkX P w K mg base 1 f [] (fsQInit CQ) := by
  refine fn_okX F scQInit b .nil (fun _ => rfl) fun x cdv A outer s G H D EE hr hp hf hn => ?_
  refine j_fldW (O1 := [oIns x CQ []]) (O2 := [oIns x CQ []]) 0 (ew_lst (R := sRw) (as := [.gap 0 none]) (el_cons (e_tup (ea_cons e_int (ea_cons e_non ea_nil)) (szl (by simp))) el_nil) (szl (by simp))) (fun r => e_name 0) Q.cl Q.nR (fun r => ?_)
  refine j_swap ?_
  refine j_fld (O1 := [oIns x CQ [("rows", sRef r)], oLst r sRw [.gap 0 none]]) (O2 := [oIns x CQ [("rows", sRef r)], oLst r sRw [.gap 0 none]]) 0 e_int (e_name 0) Q.cl Q.nL ?_
  exact fin_endX r hf hn rfl
theorem scQSize : FnScope ["self", "row"] ["self", "row"] (defScope sQSize) := ⟨rfl, rfl, rfl, by decide +kernel, rfl, by decide +kernel, by decide +kernel⟩
def fsQSize : FS (Addr × Rw) := { args := fun i => [sRef i.1, sRw i.2], pre := fun _ => True, res := fun i => sOpt sInt (sizeV i.2) }
theorem ok_qsize {f : Addr} {fd : FuncData} (F : Fun K "size" "Pieces.size" sQSize f fd) (b : Binds K fd ["self", "row"] []) (Cc : Cs K mg) : DefOk P w K mg base 1 f [] fsQSize := by
  refine fn_ok F scQSize b .nil (fun _ => rfl) fun ⟨x, row⟩ cdv A outer s G H D EE hr hp hf hn => ?_
  cases row with
  | word t =>
    refine j_if (O1 := []) (u := true) (t_val (e_callB (c_isi (n := "str") (k := true) ty_str (kit_ty (by decide +kernel))) Cc.isi (by decide +kernel) (ea_cons (e_ix (i_tup (ss := [sStr t, sNon]) 0 rfl rfl) (e_name (s := sTup [sStr t, sNon]) 1) e_int) (ea_cons (e_ty "str" Cc.str (by decide +kernel)) ea_nil)))) (fun _ => ?_) (fun h => nomatch h)
    exact j_ret (O1 := []) (s := sInt 1) e_int (fin_ret hf (fun w hw => hw) fun G v hv => hv)
  | gap a bb =>
    refine j_if (O1 := []) (u := false) (t_val (e_callB (c_isi (n := "str") (k := false) ty_int (kit_ty (by decide +kernel))) Cc.isi (by decide +kernel) (ea_cons (e_ix (i_tup (ss := [sInt a, sOpt sInt bb]) 0 rfl rfl) (e_name (s := sTup [sInt a, sOpt sInt bb]) 1) e_int) (ea_cons (e_ty "str" Cc.str (by decide +kernel)) ea_nil)))) (fun h => nomatch h) (fun _ => j_on ?_)
    cases bb with
    | none =>
      exact j_ret (O1 := []) (s := sNon) (e_ife (φ := fun _ => sNon) (u := true) (t_cmp (o_isN (k := true) (s := sNon) fun K G v q => decide_eq_true q) (e_ix (i_tup (ss := [sInt a, sNon]) 1 rfl rfl) (e_name (s := sTup [sInt a, sNon]) 1) e_int) e_non) (fun _ => e_non) (fun h => nomatch h)) (fin_ret hf (fun w hw => hw) fun G v hv => hv)
    | some z =>
      exact j_ret (O1 := []) (s := sInt (z - a)) (e_ife (φ := fun _ => sNon) (u := false) (t_cmp o_isI (e_ix (i_tup (ss := [sInt a, sInt z]) 1 rfl rfl) (e_name (s := sTup [sInt a, sInt z]) 1) e_int) e_non) (fun h => nomatch h) (fun _ => e_bin o_sub (e_ix (i_tup (ss := [sInt a, sInt z]) 1 rfl rfl) (e_name (s := sTup [sInt a, sInt z]) 1) e_int) (e_ix (i_tup (ss := [sInt a, sInt z]) 0 rfl rfl) (e_name (s := sTup [sInt a, sInt z]) 1) e_int))) (fin_ret hf (fun w hw => hw) fun G v hv => hv)
theorem scQParted : FnScope ["self", "row", "many"] ["self", "row", "many"] (defScope sQParted) := ⟨rfl, rfl, rfl, by decide +kernel, rfl, by decide +kernel, by decide +kernel⟩
structure PtI where
  x : Addr
  r : Addr
  least : Int
  a : Int
  b : Option Int
  m : Int
def fsQParted (CQ : Addr) : FS PtI := { args := fun i => [sRef i.x, sRw (.gap i.a i.b), sInt i.m], own := fun i => [oIns i.x CQ (qTab i.r i.least)], res := fun i => sLst sRw [.gap i.a (some (i.a + i.m)), .gap (i.a + i.m) i.b], own' := fun i => [oIns i.x CQ (qTab i.r (max i.least (i.a + i.m)))] }
theorem ok_qparted {f : Addr} {fd : FuncData} (F : Fun K "parted" "Pieces.parted" sQParted f fd) (b : Binds K fd ["self", "row", "many"] []) (zm : mg "max" = none) (Q : QC K mg CQ) : DefOk P w K mg base 1 f [] (fsQParted CQ) := by
  refine fn_ok F scQParted b .nil (fun _ => rfl) fun ⟨x, r, least, a, bb, m⟩ cdv A outer s G H D EE hr hp hf hn => ?_
  refine j_fldX (s := sInt (max least (a + m))) (O1 := [oIns x CQ (qTab r least)]) (O2 := [oIns x CQ (qTab r least)]) 0 1 (e_callB c_max2 zm (by decide +kernel) (ea_cons (e_lst (ew_lst (R := sInt) (el_cons (e_fldO 1 0 Q.cl Q.nL (e_name 0)) (el_cons (e_bin o_add (e_ix (i_tup (ss := [sInt a, sOpt sInt bb]) 0 rfl rfl) (e_name (s := sTup [sInt a, sOpt sInt bb]) 1) e_int) (e_name 2)) el_nil)) (szl (by simp)))) ea_nil)) (e_name 0) Q.cl Q.nL ?_
  exact j_ret (O1 := [oIns x CQ (qTab r (max least (a + m)))]) (e_lst (ew_lst (R := sRw) (as := [.gap a (some (a + m)), .gap (a + m) bb]) (el_cons (e_tup (ss := [sInt a, sInt (a + m)]) (ea_cons (e_ix (i_tup (ss := [sInt a, sOpt sInt bb]) 0 rfl rfl) (e_name (s := sTup [sInt a, sOpt sInt bb]) 1) e_int) (ea_cons (e_bin o_add (e_ix (i_tup (ss := [sInt a, sOpt sInt bb]) 0 rfl rfl) (e_name (s := sTup [sInt a, sOpt sInt bb]) 1) e_int) (e_name 2)) ea_nil)) (szl (by simp)))
    (el_cons (e_tup (ss := [sInt (a + m), sOpt sInt bb]) (ea_cons (e_bin o_add (e_ix (i_tup (ss := [sInt a, sOpt sInt bb]) 0 rfl rfl) (e_name (s := sTup [sInt a, sOpt sInt bb]) 1) e_int) (e_name 2)) (ea_cons (e_ix (i_tup (ss := [sInt a, sOpt sInt bb]) 1 rfl rfl) (e_name (s := sTup [sInt a, sOpt sInt bb]) 1) e_int) ea_nil)) (szl (by simp))) el_nil)) (szl (by simp)))) (fin_ret hf (fun w hw => hw) fun G v hv => hv)
end
end K50

namespace K50
open PySem L2 Gd
def splitRw (row : Rw) (m : Int) : List Rw := match row with | .gap a b => [.gap a (some (a + m)), .gap (a + m) b] | .word t => [.word t]
def bump (row : Rw) (m l : Int) : Int := match row with | .gap a _ => max l (a + m) | .word _ => l
structure CutR where
  rows : List Rw
  least : Int
  idx : Nat
def cutGo (pre : List Rw) (place least : Int) : List Rw → Int → CutR
  | [], _ => ⟨pre, least, pre.length⟩
  | row :: rest, at_ => if place = at_ then ⟨pre ++ row :: rest, least, pre.length⟩ else
    match sizeV row with
    | none => ⟨pre ++ splitRw row (place - at_) ++ rest, bump row (place - at_) least, pre.length + 1⟩
    | some z => if place < at_ + z then ⟨pre ++ splitRw row (place - at_) ++ rest, bump row (place - at_) least, pre.length + 1⟩ else cutGo (pre ++ [row]) place least rest (at_ + z)
def cutV (q : Ps) (place : Int) : CutR := cutGo [] place q.least q.rows 0
section
variable {P : Program} {w : World} {K : Fg} {mg : Str → Option Value} {base : Heap} {C CP CQ : Addr}
theorem scQCut : FnScope ["self", "place", "at", "number", "row", "size"] ["self", "place"] (defScope sQCut) := ⟨rfl, rfl, rfl, by decide +kernel, rfl, by decide +kernel, by decide +kernel⟩
structure CtI where
  x : Addr
  r : Addr
  q : Ps
  place : Int
def fsQCut (CQ : Addr) : FS CtI := { args := fun i => [sRef i.x, sInt i.place], own := fun i => oQ CQ i.x i.r i.q, pre := fun i => 0 ≤ i.place ∧ i.q.rows.length ≤ 100000, res := fun i => sInt ((cutV i.q i.place).idx : Nat), own' := fun i => oQ CQ i.x i.r ⟨(cutV i.q i.place).rows, (cutV i.q i.place).least⟩ }
theorem ok_qcut {f fS fP : Addr} {fd : FuncData} (F : Fun K "cut" "Pieces.cut" sQCut f fd) (b : Binds K fd ["self", "place"] []) (T : Bt mg) (zl : mg "list" = none) (ze : mg "enumerate" = none) (Q : QC K mg CQ) (mS : Meth K CQ "size" fS) (FS : DefOk P w K mg base 1 fS [] fsQSize) (mP : Meth K CQ "parted" fP) (FP : DefOk P w K mg base 1 fP [] (fsQParted CQ)) : DefOk P w K mg base 2 f [] (fsQCut CQ) := by
  refine fn_ok F scQCut b .nil (fun _ => rfl) fun ⟨x, r, ⟨rows, least⟩, place⟩ cdv A outer s G H D EE hr hp hf hn => ?_
  have hp : 0 ≤ place ∧ rows.length ≤ 100000 := hp
  refine j_set 2 (O1 := oQ CQ x r ⟨rows, least⟩) e_int ?_ scQCut.nd
  refine j_for (O1 := oQ CQ x r ⟨rows, least⟩) (R := fun y : Rw × Nat => sTup [sInt (y.2 : Nat), sRw y.1]) (as := rows.zipIdx) (fun n (g : Int) => cutV ⟨rows, least⟩ place = cutGo (rows.take n) place least (rows.drop n) g ∧ g ≤ place) (fun g => [some (sRef x), some (sInt place), some (sInt g), none, none, none]) (fun _ => oQ CQ x r ⟨rows, least⟩) (fun y => [(3, sInt (y.2 : Nat)), (4, sRw y.1)])
    (it_enum ze (e_lst (ew_listO 1 zl (e_fldO (q := x) (tab := qTab r least) 0 0 Q.cl Q.nR (e_name 0))))) (tg_tup2 (r1 := fun y : Rw × Nat => sInt (y.2 : Nat)) (r2 := fun y : Rw × Nat => sRw y.1) 3 4 scQCut.nd) ⟨0, ⟨rfl, hp.1⟩, fun _ _ _ _ h => h⟩ ?_ ?_
  · rintro B1 n ⟨row, k⟩ g hB hy ⟨hcut, hg⟩
    have hyr : rows[n]? = some row ∧ k = n := by
      rw [List.getElem?_zipIdx] at hy
      cases z : rows[n]? with
      | none => rw [z] at hy; cases hy
      | some w => rw [z] at hy; cases hy; exact ⟨rfl, by simp⟩
    obtain ⟨hrow, rfl⟩ := hyr
    have hk : k < rows.length := (List.getElem?_eq_some_iff.mp hrow).1
    have hdrop : rows.drop k = row :: rows.drop (k + 1) := by
      rw [List.getElem?_eq_getElem hk] at hrow
      rw [← Option.some.inj hrow, ← List.drop_eq_getElem_cons hk]
    have htk : (rows.take k).length = k := by rw [List.length_take]; omega
    have hall : rows.take k ++ row :: rows.drop (k + 1) = rows := by rw [← hdrop, List.take_append_drop]
    rw [hdrop] at hcut
    unfold cutGo at hcut
    refine j_set 5 (O1 := oQ CQ x r ⟨rows, least⟩) (s := sOpt sInt (sizeV row)) (e_methO (S := fsQSize) (tab := qTab r least) (q := x) (O1 := oQ CQ x r ⟨rows, least⟩) (O2 := oQ CQ x r ⟨rows, least⟩) (x, row) 0 FS hr Q.cl mS (e_name 0) (ea_cons (e_name 4) ea_nil) trivial) ?_ scQCut.nd
    refine j_if (O1 := oQ CQ x r ⟨rows, least⟩) (t_cmp o_eq (e_name 1) (e_name 2)) (fun h => ?_) (fun h => j_on ?_)
    · have h : place = g := by simpa using h
      rw [if_pos h, hall, htk] at hcut
      refine j_ret (O1 := oQ CQ x r ⟨rows, least⟩) (e_name 3) (fin_ret (D := D) (hf.le hB) ?_ fun G v hv => ?_)
      · show ∀ w ∈ oQ CQ x r ⟨(cutV ⟨rows, least⟩ place).rows, (cutV ⟨rows, least⟩ place).least⟩, _
        rw [hcut]
        exact fun w hw => hw
      · show v = V.int ((cutV ⟨rows, least⟩ place).idx : Nat)
        rw [hcut]
        exact hv
    · have h : ¬ place = g := by simpa using h
      rw [if_neg h] at hcut
      have at_next : ∀ z, sizeV row = some z → ¬ place < g + z → cutV ⟨rows, least⟩ place = cutGo (rows.take (k + 1)) place least (rows.drop (k + 1)) (g + z) := by
        intro z hz hlt
        rw [hz] at hcut
        dsimp only at hcut
        rw [if_neg hlt] at hcut
        rw [hcut, take_succ hrow]
      cases row with
      | word t =>
        have hlt : ¬ place < g + 1 := by omega
        refine j_if (O1 := oQ CQ x r ⟨rows, least⟩) (u := false) (t_eq (t_w (tw_or2 (t_cmp o_isI (e_name (s := sInt 1) 5) e_non) (tw_or1 (t_cmp o_lt (e_name 1) (e_bin o_add (e_name 2) (e_name (s := sInt 1) 5)))))) (by simp [hlt])) (fun h => nomatch h) (fun _ => j_on ?_)
        refine j_aug 2 (m := 1) (O1 := oQ CQ x r ⟨rows, least⟩) rfl (e_name (s := sInt 1) 5) (j_nil fun σ G H st => ⟨g + 1, G, ⟨at_next 1 rfl hlt, by omega⟩, ?_⟩) scQCut.nd
        exact st.wk (.same (.same (.same (.skip (.skip (.skip .nil))))))
      | gap a bb =>
        refine j_if (O1 := oQ CQ x r ⟨rows, least⟩) (u := (match bb with | none => true | some z => decide (place < g + (z - a)))) ?_ (fun h => ?_) (fun h => j_on ?_)
        · cases bb with
          | none => exact t_w (tw_orT (t_cmp (o_isN (k := true) (s := sNon) fun K G v q => decide_eq_true q) (e_name (s := sNon) 5) e_non))
          | some z => exact t_eq (t_w (tw_or2 (t_cmp o_isI (e_name (s := sInt (z - a)) 5) e_non) (tw_or1 (t_cmp o_lt (e_name 1) (e_bin o_add (e_name 2) (e_name (s := sInt (z - a)) 5)))))) (by simp)
        · have hc : cutV ⟨rows, least⟩ place = ⟨rows.take k ++ splitRw (.gap a bb) (place - g) ++ rows.drop (k + 1), bump (.gap a bb) (place - g) least, (rows.take k).length + 1⟩ := by
            cases bb with
            | none => exact hcut
            | some z =>
              have h : place < g + (z - a) := by simpa using h
              have hcut : cutV ⟨rows, least⟩ place = if place < g + (z - a) then _ else _ := hcut
              rw [hcut, if_pos h]
          refine j_setSl (q := r) (as := rows) (bs := [.gap a (some (a + (place - g))), .gap (a + (place - g)) bb]) (R := sRw) (i := (k : Nat)) (j := (k : Nat) + 1) (O1 := [oIns x CQ (qTab r (max least (a + (place - g)))), oLst r sRw rows]) (O2 := [oIns x CQ (qTab r (max least (a + (place - g)))), oLst r sRw rows]) (O3 := [oIns x CQ (qTab r (max least (a + (place - g)))), oLst r sRw rows]) (O4 := [oIns x CQ (qTab r (max least (a + (place - g)))), oLst r sRw rows]) 1
            (e_methO (S := fsQParted CQ) (tab := qTab r least) (q := x) (O1 := oQ CQ x r ⟨rows, least⟩) (O2 := [oLst r sRw rows]) ⟨x, r, least, a, bb, place - g⟩ 0 FP hr Q.cl mP (e_name 0) (ea_cons (e_name 4) (ea_cons (e_bin o_sub (e_name 1) (e_name 2)) ea_nil)) trivial)
            (e_fldO (q := x) (tab := qTab r (max least (a + (place - g)))) 0 0 Q.cl Q.nR (e_name 0)) (e_name 3) (e_bin o_add (e_name 3) e_int) (by omega) (by omega) (by omega) (Nat.le_trans (show _ ≤ 100002 by simp; omega) (by decide)) ?_
          refine j_ret (O1 := oQ CQ x r ⟨rows.take ((k : Nat) : Int).toNat ++ [.gap a (some (a + (place - g))), .gap (a + (place - g)) bb] ++ rows.drop (((k : Nat) : Int) + 1).toNat, max least (a + (place - g))⟩) (e_bin o_add (e_name 3) e_int) (fin_ret (D := D) (hf.le hB) ?_ fun G v hv => ?_)
          · show ∀ w ∈ oQ CQ x r ⟨(cutV ⟨rows, least⟩ place).rows, (cutV ⟨rows, least⟩ place).least⟩, _
            rw [hc, Int.toNat_natCast, show (((k : Nat) : Int) + 1).toNat = k + 1 by omega]
            exact fun w hw => hw
          · show v = V.int ((cutV ⟨rows, least⟩ place).idx : Nat)
            rw [hc, htk]
            have hv : v = V.int (((k : Nat) : Int) + 1) := hv
            rw [hv]
            rfl
        · cases bb with
          | none => cases h
          | some z =>
            have h : ¬ place < g + (z - a) := by simpa using h
            refine j_aug 2 (m := z - a) (O1 := oQ CQ x r ⟨rows, least⟩) rfl (e_name (s := sInt (z - a)) 5) (j_nil fun σ G H st => ⟨g + (z - a), G, ⟨at_next (z - a) rfl h, by omega⟩, ?_⟩) scQCut.nd
            exact st.wk (.same (.same (.same (.skip (.skip (.skip .nil))))))
  · rintro g ⟨hcut, hg⟩
    rw [List.length_zipIdx, List.take_length, List.drop_length] at hcut
    refine j_ret (O1 := oQ CQ x r ⟨rows, least⟩) (e_lenO (q := r) (as := rows) (R := sRw) 1 T.len (e_fldO (q := x) (tab := qTab r least) 0 0 Q.cl Q.nR (e_name 0))) (fin_ret hf ?_ fun G v hv => ?_)
    · show ∀ w ∈ oQ CQ x r ⟨(cutV ⟨rows, least⟩ place).rows, (cutV ⟨rows, least⟩ place).least⟩, _
      rw [hcut]
      exact fun w hw => hw
    · show v = V.int ((cutV ⟨rows, least⟩ place).idx : Nat)
      rw [hcut]
      exact hv
end
end K50

namespace K50
open PySem L2 Gd
def cut1 (q : Ps) (e : Ed) : Ps := ⟨(cutV q e.first).rows, (cutV q e.first).least⟩
def cut2 (q : Ps) (e : Ed) : Ps := ⟨(cutV (cut1 q e) e.last).rows, (cutV (cut1 q e) e.last).least⟩
def editQ (q : Ps) (e : Ed) : Ps := ⟨(cut2 q e).rows.take (cutV q e.first).idx ++ e.words.map Rw.word ++ (cut2 q e).rows.drop (cutV (cut1 q e) e.last).idx, (cut2 q e).least⟩
/-- the two places lie in order, the rows are few -/
structure EdQ (q : Ps) (e : Ed) : Prop where
  ok : e.ok
  w : e.words.length ≤ 1000
  l0 : q.rows.length ≤ 100000
  l1 : (cut1 q e).rows.length ≤ 100000
  l2 : (cut2 q e).rows.length ≤ 100000
  o1 : (cutV q e.first).idx ≤ (cutV (cut1 q e) e.last).idx
  o2 : (cutV (cut1 q e) e.last).idx ≤ (cut2 q e).rows.length
def toldStep (s : Option Int × List Ch × List Str) (row : Rw) : Option Int × List Ch × List Str :=
  match row with
  | .word t => (s.1, s.2.1, s.2.2 ++ [t])
  | .gap a b => (b, (if s.2.2 ≠ [] ∨ s.1.getD 0 < a then s.2.1 ++ [⟨s.1.getD 0, a, s.2.2⟩] else s.2.1), [])
def toldAt (rows : List Rw) (n : Nat) : Option Int × List Ch × List Str := (rows.take n).foldl toldStep (some 0, [], [])
theorem toldAt_succ {rows : List Rw} {n : Nat} {row : Rw} (h : rows[n]? = some row) : toldAt rows (n + 1) = toldStep (toldAt rows n) row := by
  unfold toldAt
  rw [take_succ h, List.foldl_append]
  rfl
def toldV (rows : List Rw) : List Ch := joinedV (toldAt rows rows.length).2.1
section
variable {P : Program} {w : World} {K : Fg} {mg : Str → Option Value} {base : Heap} {C CP CQ : Addr}
theorem scQEdit : FnScope ["self", "edit", "start", "end", "word"] ["self", "edit"] (defScope sQEdit) := ⟨rfl, rfl, rfl, by decide +kernel, rfl, by decide +kernel, by decide +kernel⟩
structure EdI where
  x : Addr
  r : Addr
  q : Ps
  e : Ed
def fsQEdit (C CQ : Addr) : FS EdI := { args := fun i => [sRef i.x, sEd C i.e], own := fun i => oQ CQ i.x i.r i.q, pre := fun i => EdQ i.q i.e, res := fun _ => sNon, own' := fun i => oQ CQ i.x i.r (editQ i.q i.e) }
theorem ok_qedit {f fC : Addr} {fd : FuncData} (F : Fun K "edit" "Pieces.edit" sQEdit f fd) (b : Binds K fd ["self", "edit"] []) (EC : EdC K mg C) (Q : QC K mg CQ) (mC : Meth K CQ "cut" fC) (FC : DefOk P w K mg base 2 fC [] (fsQCut CQ)) : DefOk P w K mg base 3 f [] (fsQEdit C CQ) := by
  refine fn_ok F scQEdit b .nil (fun _ => rfl) fun ⟨x, r, q, e⟩ cdv A outer s G H D EE hr hp hf hn => ?_
  have hp : EdQ q e := hp
  have h0 := hp.ok.1.1
  have h1 := hp.ok.1.2
  refine j_set 2 (s := sInt ((cutV q e.first).idx : Nat)) (O1 := oQ CQ x r (cut1 q e)) (e_methO (S := fsQCut CQ) (tab := qTab r q.least) (q := x) (O1 := oQ CQ x r q) (O2 := []) ⟨x, r, q, e.first⟩ 0 FC hr Q.cl mC (e_name 0) (ea_cons (e_fld 0 EC.cl EC.nF (e_name 1)) ea_nil) ⟨h0, hp.l0⟩) ?_ scQEdit.nd
  refine j_set 3 (s := sInt ((cutV (cut1 q e) e.last).idx : Nat)) (O1 := oQ CQ x r (cut2 q e)) (e_methO (S := fsQCut CQ) (tab := qTab r (cut1 q e).least) (q := x) (O1 := oQ CQ x r (cut1 q e)) (O2 := []) ⟨x, r, cut1 q e, e.last⟩ 0 FC hr Q.cl mC (e_name 0) (ea_cons (e_fld 1 EC.cl EC.nL (e_name 1)) ea_nil) ⟨by show 0 ≤ e.last; omega, hp.l1⟩) ?_ scQEdit.nd
  have o1 := hp.o1
  have o2 := hp.o2
  have l2 := hp.l2
  have lw := hp.w
  refine j_setSl (q := r) (as := (cut2 q e).rows) (bs := e.words.map Rw.word) (R := sRw) (i := ((cutV q e.first).idx : Nat)) (j := ((cutV (cut1 q e) e.last).idx : Nat)) (O1 := oQ CQ x r (cut2 q e)) (O2 := oQ CQ x r (cut2 q e)) (O3 := oQ CQ x r (cut2 q e)) (O4 := oQ CQ x r (cut2 q e)) 1
    (e_lst (ew_map (R := sStr) (S := sRw) (as := e.words) 4 Rw.word scQEdit.nd (it_tupl (e_fld 2 EC.cl EC.nW (e_name 1))) (blkOk_by (own := [("word", 4)]) (N := ["self", "edit", "start", "end", "word"]) (sc := defScope sQEdit) (by decide +kernel)) (fun y hy s H _ cl fp => e_tup (ss := [sStr y, sNon]) (ea_cons (e_name 4) (ea_cons e_non ea_nil)) (szl (by simp))) (szl (by omega))))
    (e_fldO (q := x) (tab := qTab r (cut2 q e).least) 0 0 Q.cl Q.nR (e_name 0)) (e_name 2) (e_name 3) (by omega) (by omega) (by omega) (Nat.le_trans (show _ ≤ 101000 by rw [List.length_map]; omega) (by decide)) ?_
  rw [Int.toNat_natCast, Int.toNat_natCast]
  exact fin_end hf hn fun w hw => hw
theorem scQTold : FnScope ["self", "found", "at", "new", "row"] ["self"] (defScope sQTold) := ⟨rfl, rfl, rfl, by decide +kernel, rfl, by decide +kernel, by decide +kernel⟩
/-- the pieces, done: nobody changes them any more -/
abbrev sQ (CQ : Addr) (q : Ps) : Slot := sIns CQ [("rows", sLst sRw q.rows), ("least", sInt q.least)]
/-- words are right ones, and only the last row has no end -/
structure RwsOk (rows : List Rw) : Prop where
  few : rows.length ≤ 1000
  ws : ∀ t, Rw.word t ∈ rows → okStrs [t]
  end_ : ∀ n, n < rows.length → (toldAt rows n).1 ≠ none
def fsQTold (CQ : Addr) : FS Ps := { args := fun q => [sQ CQ q], pre := fun q => RwsOk q.rows, res := fun q => sTupl sCh (toldV q.rows) }
theorem toldAt_ok {rows : List Rw} (h : ∀ t, Rw.word t ∈ rows → okStrs [t]) : ∀ n, n ≤ rows.length → (∀ c ∈ (toldAt rows n).2.1, okStrs c.words) ∧ okStrs (toldAt rows n).2.2 ∧ wsum (toldAt rows n).2.1 + (toldAt rows n).2.2.length ≤ n ∧ (toldAt rows n).2.1.length ≤ n
  | 0, _ => ⟨(fun c hc => by cases hc), (fun t ht => by cases ht), by simp [toldAt, wsum], by simp [toldAt]⟩
  | n + 1, hn => by
    obtain ⟨i1, i2, i3, i4⟩ := toldAt_ok h n (by omega)
    have hrow := List.getElem?_eq_getElem (show n < rows.length from hn)
    have hm := List.mem_of_getElem? hrow
    rw [toldAt_succ hrow]
    generalize rows[n] = row at hm
    cases row with
    | word t =>
      refine ⟨i1, fun z hz => ?_, ?_, Nat.le_succ_of_le i4⟩
      · rcases List.mem_append.mp hz with hz | hz
        · exact i2 z hz
        · exact h t hm z hz
      · show wsum (toldAt rows n).2.1 + ((toldAt rows n).2.2 ++ [t]).length ≤ _
        rw [List.length_append]
        simp
        omega
    | gap a bb =>
      by_cases hc : (toldAt rows n).2.2 ≠ [] ∨ (toldAt rows n).1.getD 0 < a
      · have e : toldStep (toldAt rows n) (.gap a bb) = (bb, (toldAt rows n).2.1 ++ [⟨(toldAt rows n).1.getD 0, a, (toldAt rows n).2.2⟩], []) := by
          unfold toldStep
          dsimp only
          rw [if_pos hc]
        rw [e]
        refine ⟨fun c hcm => ?_, (fun t ht => by cases ht), ?_, ?_⟩
        · rcases List.mem_append.mp hcm with hcm | hcm
          · exact i1 c hcm
          · simp at hcm
            subst hcm
            exact i2
        · rw [wsum_append]
          simp [wsum] at i3 ⊢
          omega
        · rw [List.length_append]
          simp
          omega
      · have e : toldStep (toldAt rows n) (.gap a bb) = (bb, (toldAt rows n).2.1, []) := by
          unfold toldStep
          dsimp only
          rw [if_neg hc]
        rw [e]
        exact ⟨i1, (fun t ht => by cases ht), by simp; omega, Nat.le_succ_of_le i4⟩
theorem ok_qtold {f fJ : Addr} {fd : FuncData} (F : Fun K "told" "Pieces.told" sQTold f fd) (b : Binds K fd ["self"] []) (Cc : Cs K mg) (Q : QC K mg CQ) (gJ : mg "joined" = some (.ref fJ)) (FJ : DefOk P w K mg base 1 fJ [] fsJoined) : DefOk P w K mg base 2 f [] (fsQTold CQ) := by
  refine fn_ok F scQTold b .nil (fun _ => rfl) fun ⟨rows, least⟩ cdv A outer s G H D EE hr hp hf hn => ?_
  have hp : RwsOk rows := hp
  have few := hp.few
  refine j_par3W (s2 := sInt 0) (O1 := []) (O2 := []) 1 2 3 (ew_lst (R := sCh) (as := []) el_nil (szl (by simp))) (fun r => e_int) (fun r => by exact ew_lst (R := sStr) (as := []) el_nil (szl (by simp))) (fun fr nr hfr hnr => ?_) scQTold.nd
  refine j_for (γ := Nat × Addr) (O1 := [oLst nr sStr [], oLst fr sCh []]) (R := sRw) (as := rows) (fun n (g : Nat × Addr) => g.1 = n) (fun g => [some (sQ CQ ⟨rows, least⟩), some (sRef fr), some (sOpt sInt (toldAt rows g.1).1), some (sRef g.2), none]) (fun g => [oLst g.2 sStr (toldAt rows g.1).2.2, oLst fr sCh (toldAt rows g.1).2.1]) (fun y => [(4, sRw y)])
    (it_lst (e_fld 0 Q.cl Q.nR (e_name 0))) (tg_name 4 scQTold.nd) ⟨(0, nr), rfl, fun _ _ _ _ h => h⟩ ?_ ?_
  · rintro B1 n row ⟨g, nr'⟩ hB hy hg
    have hg : g = n := hg
    subst hg
    have hn1 : g < rows.length := (List.getElem?_eq_some_iff.mp hy).1
    obtain ⟨i1, i2, i3, i4⟩ := toldAt_ok hp.ws g (by omega)
    have hend := hp.end_ g hn1
    have next := toldAt_succ hy
    show J _ _ [some (sQ CQ ⟨rows, least⟩), some (sRef fr), some (sOpt sInt (toldAt rows g).1), some (sRef nr'), some (sRw row)] [oLst nr' sStr (toldAt rows g).2.2, oLst fr sCh (toldAt rows g).2.1] _ _
    generalize toldAt rows g = st0 at i1 i2 i3 i4 hend next
    obtain ⟨at_, fo, nw⟩ := st0
    have i3 : wsum fo + nw.length ≤ g := i3
    have i4 : fo.length ≤ g := i4
    cases at_ with
    | none => exact absurd rfl hend
    | some at_ =>
      cases row with
      | word t =>
        refine j_if (O1 := [oLst nr' sStr nw, oLst fr sCh fo]) (u := true) (t_val (e_callB (c_isi (n := "str") (k := true) ty_str (kit_ty (by decide +kernel))) Cc.isi (by decide +kernel) (ea_cons (e_ix (i_tup (ss := [sStr t, sNon]) 0 rfl rfl) (e_name (s := sTup [sStr t, sNon]) 4) e_int) (ea_cons (e_ty "str" Cc.str (by decide +kernel)) ea_nil)))) (fun _ => ?_) (fun h => nomatch h)
        refine j_expr (e_append (q := nr') (as := nw) (R := sStr) (y := t) 0 (e_name 3) (e_ix (i_tup (ss := [sStr t, sNon]) 0 rfl rfl) (e_name (s := sTup [sStr t, sNon]) 4) e_int) (Nat.lt_of_le_of_lt (show nw.length ≤ 100000 by omega) (by decide))) (j_on (j_nil fun σ G H st => ⟨(g + 1, nr'), G, rfl, ?_⟩))
        show Sta K B1 [_, _, some (sOpt sInt (toldAt rows (g + 1)).1), _, _] [oLst nr' sStr (toldAt rows (g + 1)).2.2, oLst fr sCh (toldAt rows (g + 1)).2.1] σ G H
        rw [next]
        exact st.wk (.same (.same (.same (.same (.skip .nil)))))
      | gap a bb =>
        refine j_if (O1 := [oLst nr' sStr nw, oLst fr sCh fo]) (u := false) (t_val (e_callB (c_isi (n := "str") (k := false) ty_int (kit_ty (by decide +kernel))) Cc.isi (by decide +kernel) (ea_cons (e_ix (i_tup (ss := [sInt a, sOpt sInt bb]) 0 rfl rfl) (e_name (s := sTup [sInt a, sOpt sInt bb]) 4) e_int) (ea_cons (e_ty "str" Cc.str (by decide +kernel)) ea_nil)))) (fun h => nomatch h) (fun _ => ?_)
        refine j_if (O1 := [oLst nr' sStr nw, oLst fr sCh fo]) (u := (!nw.isEmpty || decide (at_ < a))) (t_w (tw_or2 (t_neNil (q := nr') (as := nw) (R := sStr) (d := PyData.str) 0 hr (fun z => isD_str) (e_name 3) (shaped_lst (canAll_strs i2) (by rw [depthAll_strs]; decide))) (tw_or1 (t_cmp o_gt (e_ix (i_tup (ss := [sInt a, sOpt sInt bb]) 0 rfl rfl) (e_name (s := sTup [sInt a, sOpt sInt bb]) 4) e_int) (e_name (s := sInt at_) 2))))) (fun h => ?_) (fun h => j_on ?_)
        · have hc : nw ≠ [] ∨ at_ < a := by
            cases nw <;> simp_all
          have e : toldAt rows (g + 1) = (bb, fo ++ [⟨at_, a, nw⟩], []) := by
            rw [next]
            unfold toldStep
            dsimp only [Option.getD_some]
            rw [if_pos hc]
          refine j_expr (e_append (q := fr) (as := fo) (R := sCh) (y := ⟨at_, a, nw⟩) 1 (e_name 1) (e_tup (ss := [sInt at_, sInt a, sTupl sStr nw]) (ea_cons (e_name (s := sInt at_) 2) (ea_cons (e_ix (i_tup (ss := [sInt a, sOpt sInt bb]) 0 rfl rfl) (e_name (s := sTup [sInt a, sOpt sInt bb]) 4) e_int) (ea_cons (e_tupleO (q := nr') (as := nw) (R := sStr) 0 Cc.tuple (e_name 3)) ea_nil))) (szl (by simp))) (Nat.lt_of_le_of_lt (show fo.length ≤ 100000 by omega) (by decide))) (j_on ?_)
          refine j_parW (O1 := [oLst nr' sStr nw, oLst fr sCh (fo ++ [⟨at_, a, nw⟩])]) (s1 := sOpt sInt bb) 2 3 (e_ix (i_tup (ss := [sInt a, sOpt sInt bb]) 1 rfl rfl) (e_name (s := sTup [sInt a, sOpt sInt bb]) 4) e_int) (ew_lst (R := sStr) (as := []) el_nil (szl (by simp))) (fun nr2 hnr2 => ?_) scQTold.nd
          refine j_on (j_nil fun σ G H st => ⟨(g + 1, nr2), G, rfl, ?_⟩)
          show Sta K B1 [_, _, some (sOpt sInt (toldAt rows (g + 1)).1), _, _] [oLst nr2 sStr (toldAt rows (g + 1)).2.2, oLst fr sCh (toldAt rows (g + 1)).2.1] σ G H
          rw [e]
          exact (st.wk (.same (.same (.same (.same (.skip .nil)))))).drop2
        · have hc : ¬ (nw ≠ [] ∨ at_ < a) := by
            cases nw <;> simp_all
          have e : toldAt rows (g + 1) = (bb, fo, []) := by
            rw [next]
            unfold toldStep
            dsimp only [Option.getD_some]
            rw [if_neg hc]
          refine j_parW (O1 := [oLst nr' sStr nw, oLst fr sCh fo]) (s1 := sOpt sInt bb) 2 3 (e_ix (i_tup (ss := [sInt a, sOpt sInt bb]) 1 rfl rfl) (e_name (s := sTup [sInt a, sOpt sInt bb]) 4) e_int) (ew_lst (R := sStr) (as := []) el_nil (szl (by simp))) (fun nr2 hnr2 => ?_) scQTold.nd
          refine j_on (j_nil fun σ G H st => ⟨(g + 1, nr2), G, rfl, ?_⟩)
          show Sta K B1 [_, _, some (sOpt sInt (toldAt rows (g + 1)).1), _, _] [oLst nr2 sStr (toldAt rows (g + 1)).2.2, oLst fr sCh (toldAt rows (g + 1)).2.1] σ G H
          rw [e]
          exact (st.wk (.same (.same (.same (.same (.skip .nil)))))).drop2
  · rintro ⟨g, nr'⟩ hg
    have hg : g = rows.length := hg
    subst hg
    obtain ⟨i1, i2, i3, i4⟩ := toldAt_ok hp.ws rows.length (Nat.le_refl _)
    refine j_drop ?_
    refine j_freeze 1 (s := sLst sCh (toldAt rows rows.length).2.1) rfl hfr (fun K G o => frz_lst K G fr o) ?_
    exact j_ret (O1 := []) (e_call (S := fsJoined) (O2 := []) (toldAt rows rows.length).2.1 FJ hr gJ (ea_cons (e_name 1) ea_nil) ⟨i1, by omega, by omega⟩) (fin_ret hf (fun w hw => nomatch hw) fun G v hv => hv)
end
end K50

namespace K50
open PySem L2 Gd
abbrev sCheckEdits : Stmt := top 20
abbrev sPatch : Stmt := top 25
abbrev sCheckPatch : Stmt := top 26
abbrev sBehind : Stmt := top 27
/-- edits, in a list or a tuple -/
def sEs (C : Addr) (tup : Bool) (es : List Ed) : Slot := if tup then sTupl (sEd C) es else sLst (sEd C) es
def qAt (es : List Ed) (n : Nat) : Ps := (es.take n).foldl editQ ⟨[.gap 0 none], 0⟩
theorem qAt_succ {es : List Ed} {n : Nat} {e : Ed} (h : es[n]? = some e) : qAt es (n + 1) = editQ (qAt es n) e := by
  unfold qAt
  rw [take_succ h, List.foldl_append]
  rfl
def patchV (es : List Ed) : Pa := ⟨toldV (qAt es es.length).rows, (qAt es es.length).least⟩
structure PatchOk (es : List Ed) : Prop where
  few : es.length ≤ 60
  ed : ∀ n e, es[n]? = some e → EdQ (qAt es n) e
  rws : RwsOk (qAt es es.length).rows
  ok : (patchV es).ok
section
variable {P : Program} {w : World} {K : Fg} {mg : Str → Option Value} {base : Heap} {C CP CQ : Addr}
theorem scCheckEdits : FnScope ["edits", "edit"] ["edits"] (defScope sCheckEdits) := ⟨rfl, rfl, rfl, by decide +kernel, rfl, by decide +kernel, by decide +kernel⟩
def fsCheckEdits (C : Addr) : FS (Bool × List Ed) := { args := fun i => [sEs C i.1 i.2], pre := fun i => i.2.length ≤ 60, res := fun _ => sNon }
theorem ok_checkEdits {f : Addr} {fd : FuncData} {t : Tok} (F : Fun K "check_edits" "check_edits" sCheckEdits f fd) (b : Binds K fd ["edits"] []) (T : Bt mg) (Cc : Cs K mg) (EC : EdC K mg C) (CI : ClsI K C) (gM : mg "MOST_EDITS" = some (.int 60 t)) : DefOk P w K mg base 1 f [] (fsCheckEdits C) := by
  refine fn_ok F scCheckEdits b .nil (fun _ => rfl) fun ⟨tup, es⟩ cdv A outer s G H D EE hr hp hf hn => ?_
  have hp : es.length ≤ 60 := hp
  have isl : CallE (cxD P w K mg base ["edits", "edit"] "check_edits" sCheckEdits f cdv A outer s H EE) (.builtin "isinstance") [sEs C tup es, sTupX [sVal (.ty "list"), sVal (.ty "tuple")]] (sBl true) := by
    cases tup with
    | false => exact c_isi2 ty_lst (kitAny_cons (b := true) (kit_ty (by decide +kernel)) (fun h => nomatch h) fun _ => rfl)
    | true => exact c_isi2 ty_tupl (kitAny_cons (b := false) (kit_ty (by decide +kernel)) (fun _ => kitAny_cons (b := true) (kit_ty (by decide +kernel)) (fun h => nomatch h) fun _ => rfl) fun h => nomatch h)
  have len : CallE (cxD P w K mg base ["edits", "edit"] "check_edits" sCheckEdits f cdv A outer s H EE) (.builtin "len") [sEs C tup es] (sInt es.length) := by
    cases tup with
    | false => exact c_len
    | true => exact c_lenT
  refine j_if (O1 := []) (u := false) (t_eq (t_w (tw_or2 (t_not (t_val (e_callB isl Cc.isi (by decide +kernel) (ea_cons (e_name 0) (ea_cons (e_tupX (ea_cons (e_ty "list" Cc.list (by decide +kernel)) (ea_cons (e_ty "tuple" Cc.tuple (by decide +kernel)) ea_nil)) (by decide)) ea_nil)))))
    (tw_or1 (t_cmp o_gt (e_callB len T.len PySem.boot_len (ea_cons (e_name 0) ea_nil)) (e_gint gM))))) (by simp; omega)) (fun h => nomatch h) (fun _ => j_on ?_)
  refine j_if (O1 := []) (u := false) (t_eq (t_not (t_val (e_callB c_all Cc.all (by decide +kernel) (ea_cons (e_lst (ew_map (R := sEd C) (S := sBl) (as := es) 1 (fun _ => true) scCheckEdits.nd (by
      cases tup with
      | false => exact it_lst (e_name 0)
      | true => exact it_tupl (e_name 0)) (blkOk_by (own := [("edit", 1)]) (N := ["edits", "edit"]) (sc := defScope sCheckEdits) (by decide +kernel))
    (fun y hy s H _ cl fp => e_callB (c_isiC (k := true) (ty_ins CI) kit_self) Cc.isi (by decide +kernel) (ea_cons (e_name 1) (ea_cons (e_gref EC.gC) ea_nil))) (szl (by omega)))) ea_nil)))) (by
    have : (List.map (fun _ => true) es).all id = true := by simp
    rw [this]
    rfl)) (fun h => nomatch h) (fun _ => j_on ?_)
  exact fin_end hf hn fun w hw => hw
/-- Patch(cs, n): a frozen patch -/
theorem e_patch {X : Cx} {δ : List (Option Slot)} {O O1 : List Own} {a1 a2 : Expr} {f : Addr} {p pos : Pos} (pa : Pa) (M : Mk X.K CP f) (FI : DefX X 4 f [] (fsPInit CP)) (hr : Room 5 X.A) (gP : X.mg "Patch" = some (.ref CP)) (hp : pa.ok)
    (ha : EA X δ O [a1, a2] [sTupl sCh pa.changes, sInt pa.least] O1) (hg : Gl X "Patch" := by rfl) (h1 : noStar a1 = true := by rfl) (h2 : noStars [a2] = true := by rfl) : E X δ O (.Call (.Name "Patch" p) [a1, a2] [] pos) (sPa CP pa) O1 :=
  e_ins (ew_make (S := fsPInit CP) (fun q => (q, pa)) M FI hr gP ha (fun q => hp) (fun _ => rfl) (fun _ => rfl) (fun _ => rfl) (fun _ => rfl) (fun _ => rfl) hg (by decide) h1 h2)
theorem scPatch : FnScope ["edits", "pieces", "edit"] ["edits"] (defScope sPatch) := ⟨rfl, rfl, rfl, by decide +kernel, rfl, by decide +kernel, by decide +kernel⟩
def fsPatch (C CP : Addr) : FS (Bool × List Ed) := { args := fun i => [sEs C i.1 i.2], pre := fun i => PatchOk i.2, res := fun i => sPa CP (patchV i.2) }
theorem ok_patch {f fK fI fQ fE fT : Addr} {fd : FuncData} (F : Fun K "patch" "patch" sPatch f fd) (b : Binds K fd ["edits"] []) (PC : PaC K mg CP) (Q : QC K mg CQ) (gK : mg "check_edits" = some (.ref fK)) (FK : DefOk P w K mg base 1 fK [] (fsCheckEdits C)) (MQ : Mk K CQ fQ) (FQ : DefOkX P w K mg base 1 fQ [] (fsQInit CQ))
    (mE : Meth K CQ "edit" fE) (FE : DefOk P w K mg base 3 fE [] (fsQEdit C CQ)) (mT : Meth K CQ "told" fT) (FT : DefOk P w K mg base 2 fT [] (fsQTold CQ)) (MP : Mk K CP fI) (FI : DefOk P w K mg base 4 fI [] (fsPInit CP)) : DefOk P w K mg base 6 f [] (fsPatch C CP) := by
  refine fn_ok F scPatch b .nil (fun _ => rfl) fun ⟨tup, es⟩ cdv A outer s G H D EE hr hp hf hn => ?_
  have hp : PatchOk es := hp
  (have hr1 : Room 1 _ := hr.mono (by decide))
  (have hr2 : Room 2 _ := hr.mono (by decide))
  have hr3 : Room 3 _ := hr.mono (by decide)
  refine j_expr (O1 := []) (e_call (O2 := []) (S := fsCheckEdits C) (tup, es) FK hr1 gK (ea_cons (e_name 0) ea_nil) (by exact hp.few)) ?_
  refine j_make0 1 (S := fsQInit CQ) (fun x => x) MQ FQ hr2 Q.gQ (fun _ => trivial) (fun x r hx => ?_) scPatch.nd
  show J _ _ [some (sEs C tup es), some (sRef x), none] (oQ CQ x r ⟨[.gap 0 none], 0⟩) _ _
  refine j_sta fun ⟨σ0, G0, H0, st0⟩ => ?_
  have hbr := st0.new (oLst r sRw [.gap 0 none]) (by simp [oQ])
  have hbr : H r = none := by
    rcases hbr with z | z
    · cases z
    · exact z
  refine j_for (O1 := oQ CQ x r ⟨[.gap 0 none], 0⟩) (R := sEd C) (as := es) (fun n (g : Nat) => g = n) (fun _ => [some (sEs C tup es), some (sRef x), none]) (fun g => oQ CQ x r (qAt es g)) (fun e => [(2, sEd C e)]) (by
      cases tup with
      | false => exact it_lst (e_name 0)
      | true => exact it_tupl (e_name 0)) (tg_name 2 scPatch.nd) ⟨0, rfl, fun _ _ _ _ h => h⟩ ?_ ?_
  · rintro B1 n e g hB hy rfl
    refine j_expr (s := sNon) (O1 := oQ CQ x r (qAt es (g + 1))) ?_ (j_nil fun σ G H st => ⟨g + 1, G, rfl, st.wk (.same (.same (.skip .nil)))⟩)
    rw [qAt_succ hy]
    exact e_methO (S := fsQEdit C CQ) (tab := qTab r (qAt es g).least) (q := x) (O1 := oQ CQ x r (qAt es g)) (O2 := []) ⟨x, r, qAt es g, e⟩ 0 FE hr3 Q.cl mE (e_name 1) (ea_cons (e_name 2) ea_nil) (hp.ed g e hy)
  · rintro g rfl
    have hrw := hp.rws
    have hok := hp.ok
    unfold patchV at hok
    have hres : (fsPatch C CP).res (tup, es) = sPa CP ⟨toldV (qAt es es.length).rows, (qAt es es.length).least⟩ := rfl
    generalize qAt es es.length = q at hrw hok hres
    obtain ⟨rows, least⟩ := q
    refine j_swap ?_
    refine j_freezeT (r := r) (q := x) (tab := qTab r least) (f' := "rows") (O := []) 0 hbr ?_
    refine j_freeze 1 (s := sQ CQ ⟨rows, least⟩) rfl hx (fun K G o => frz_ins K G x o) ?_
    exact j_ret (O1 := []) (e_patch ⟨toldV rows, least⟩ MP FI hr PC.gP hok (ea_cons (e_meth0 (S := fsQTold CQ) (O2 := []) ⟨rows, least⟩ FT hr2 Q.cl mT (e_name 1) hrw) (ea_cons (e_fld 1 Q.cl Q.nL (e_name 1)) ea_nil))) (fin_ret hf (fun w hw => hw) fun G v hv => by rw [hres]; exact hv)
end
end K50

namespace K50
open PySem L2 Gd
abbrev sWordsD : Stmt := top 35
abbrev sEditD : Stmt := top 36
def six : List Str := ["a", "b", "c", "let", ";", "="]
def pickV (ws : List Str) (ns : List Int) (c : Int) : Str := ws.getD (nextV ns c ws.length).toNat ""
theorem pick_some {ws : List Str} {ns : List Int} {c : Int} (h : 0 < ws.length) : ws[(nextV ns c ws.length).toNat]? = some (pickV ws ns c) := by
  have h1 : nextV ns c ws.length < ws.length := nextV_hi (by omega)
  have h0 : 0 ≤ nextV ns c ws.length := nextV_lo (by omega)
  unfold pickV
  rw [List.getD_eq_getElem?_getD, List.getElem?_eq_getElem (by omega)]
  rfl
theorem pick_mem {ws : List Str} {ns : List Int} {c : Int} (h : 0 < ws.length) : pickV ws ns c ∈ ws := List.mem_of_getElem? (pick_some h)
theorem ok_six : okWords six := by
  have h : (six.all fun t => isToken t && decide (t.length ≤ 100000)) = true := by decide +kernel
  intro t ht
  have := List.all_eq_true.mp h t ht
  simpa using this
/-- drawn words -/
def wordsV (ns : List Int) (c : Int) (many : Int) : List Str := (List.range many.toNat).map fun k : Nat => pickV six ns (c + k)
theorem wordsV_len {ns : List Int} {c many : Int} : (wordsV ns c many).length = many.toNat := by
  unfold wordsV
  (rw [List.length_map, List.length_range])
theorem wordsV_six {ns : List Int} {c many : Int} : ∀ t ∈ wordsV ns c many, t ∈ six := fun t ht => by
  obtain ⟨k, _, rfl⟩ := List.mem_map.mp ht
  exact pick_mem (by decide)
theorem wordsV_ok {ns : List Int} {c many : Int} : okWords (wordsV ns c many) := fun t ht => ok_six t (wordsV_six t ht)
def edM (ns : List Int) (c : Int) : Int := nextV ns (c + 1 + 1) 3
def edFirst (ns : List Int) (c many : Int) : Int := nextV ns c (many + 1)
def edLast (ns : List Int) (c many : Int) : Int := edFirst ns c many + nextV ns (c + 1) (min (many - edFirst ns c many) 3 + 1)
def editV (ns : List Int) (c many : Int) : Ed := ⟨edFirst ns c many, edLast ns c many, wordsV ns (c + 1 + 1 + 1) (edM ns c)⟩
def editC (ns : List Int) (c : Int) : Int := c + 1 + 1 + 1 + ((edM ns c).toNat : Nat)
theorem edFirst_lo {ns : List Int} {c many : Int} (h : 0 ≤ many) : 0 ≤ edFirst ns c many := nextV_lo (by omega)
theorem edFirst_hi {ns : List Int} {c many : Int} (h : 0 ≤ many) : edFirst ns c many ≤ many := by
  have : edFirst ns c many < many + 1 := nextV_hi (by omega)
  omega
theorem edLast_lo {ns : List Int} {c many : Int} (h : 0 ≤ many) : edFirst ns c many ≤ edLast ns c many := by
  have h := edFirst_hi (ns := ns) (c := c) h
  have : 0 ≤ nextV ns (c + 1) (min (many - edFirst ns c many) 3 + 1) := nextV_lo (by omega)
  unfold edLast
  omega
theorem edLast_hi {ns : List Int} {c many : Int} (h : 0 ≤ many) : edLast ns c many ≤ many := by
  have h := edFirst_hi (ns := ns) (c := c) h
  have : nextV ns (c + 1) (min (many - edFirst ns c many) 3 + 1) < min (many - edFirst ns c many) 3 + 1 := nextV_hi (by omega)
  unfold edLast
  omega
theorem edLast_3 {ns : List Int} {c many : Int} (h : 0 ≤ many) : edLast ns c many ≤ edFirst ns c many + 3 := by
  have h := edFirst_hi (ns := ns) (c := c) h
  have : nextV ns (c + 1) (min (many - edFirst ns c many) 3 + 1) < min (many - edFirst ns c many) 3 + 1 := nextV_hi (by omega)
  unfold edLast
  omega
theorem edM_lo {ns : List Int} {c : Int} : 0 ≤ edM ns c := nextV_lo (by decide)
theorem edM_hi {ns : List Int} {c : Int} : edM ns c < 3 := nextV_hi (by decide)
theorem editV_len {ns : List Int} {c many : Int} : (editV ns c many).words.length ≤ 2 := by
  show (wordsV ns (c + 1 + 1 + 1) (edM ns c)).length ≤ 2
  rw [wordsV_len]
  have := edM_lo (ns := ns) (c := c)
  have := edM_hi (ns := ns) (c := c)
  omega
theorem editV_ok {ns : List Int} {c many : Int} (h : 0 ≤ many) : (editV ns c many).ok :=
  ⟨⟨edFirst_lo h, edLast_lo h⟩, wordsV_ok, Nat.le_trans editV_len (by decide)⟩
theorem editC_lo {ns : List Int} {c : Int} (h : 0 ≤ c) : 0 ≤ editC ns c := by
  unfold editC
  omega
section
variable {X : Cx}
theorem c_min22 {a b : Int} (hc : X.calm = true := by rfl) : CallE X (.builtin "min") [sInt a, sInt b] (sInt (min a b)) :=
  ⟨_, call_min2 hc, fun B δ O σ G H Q xs st h k => by
    obtain ⟨v, u, rfl, hv, hu⟩ := alls2 h
    have hv : v = V.int a := hv
    have hu : u = V.int b := hu
    subst hv hu
    refine ⟨a, b, rfl, k _ G H (Same.refl _) st ?_⟩
    show V.int (if b < a then b else a) = V.int (min a b)
    congr 1
    split <;> omega⟩
theorem ew_mapN {δ : List (Option Slot)} {O : List Own} {x : Str} {px pos : Pos} {elt iter : Expr} {scope : Scope} {own : List (Str × Nat)} {α β : Type} {R : α → Slot} {S : β → Slot} {as : List α} (i n : Nat) (Ωs : Nat → List Own) (f : Nat → β) (hn : as.length = n) (hN : X.N.Nodup) (hi : IT X δ O (.Name x px) iter R as (Ωs 0)) (ok : BlkOk X.N X.env.scope scope own)
    (helt : ∀ k y, as[k]? = some y → ∀ s H C cl fp, E (Blk X scope s H C cl fp) ((wipeD δ (own.map (·.2))).set i (some (R y))) (Ωs k) elt (S (f k)) (Ωs (k + 1))) (hz : n ≤ sizeLine)
    (hin : i ∈ own.map (·.2) := by decide) (hix : X.N[i]? = some x := by rfl) (hx : ∀ s H C cl fp, Loc (Blk X scope s H C cl fp).env.scope x := by intro _ _ _ _ _; first | exact Or.inl rfl | exact Or.inr rfl)
    (hf : ∀ s H C cl fp, (Blk X scope s H C cl fp).fn x = true ∨ (Blk X scope s H C cl fp).env.scope.names.lookup x = some .local := by intro _ _ _ _ _; first | exact .inl rfl | exact .inr rfl)
    (hc : X.calm = true := by rfl) (hs : noSet iter = true := by rfl) :
    EW X δ O (.ListComp elt [⟨.Name x px, iter, [], 0⟩] scope pos) (fun p => oLst p S ((List.range n).map f)) (Ωs n) := by
  subst hn
  exact ew_mapO i Ωs f hN hi ok helt hz hin hix hx hf hc hs
end
section
variable {P : Program} {w : World} {K : Fg} {mg : Str → Option Value} {base : Heap} {C : Addr}
theorem scWordsD : FnScope ["_law_draw_here", "_law_many", "_law_turn"] ["_law_draw_here", "_law_many"] (defScope sWordsD) := ⟨rfl, rfl, rfl, by decide +kernel, rfl, by decide +kernel, by decide +kernel⟩
structure DrI where
  dr : Addr
  ns : List Int
  c : Int
  many : Int
def fsWordsD : FS DrI := { args := fun i => [sRef i.dr, sInt i.many], own := fun i => [dO i.dr i.ns i.c], pre := fun i => 0 ≤ i.c ∧ 0 ≤ i.many ∧ i.many ≤ 100000, res := fun i => sLst sStr (wordsV i.ns i.c i.many), own' := fun i => [dO i.dr i.ns (i.c + (i.many.toNat : Nat))] }
theorem ok_wordsD {f fP : Addr} {fd : FuncData} (F : Fun K "_law_words" "_law_words" sWordsD f fd) (b : Binds K fd ["_law_draw_here", "_law_many"] []) (T : Bt mg)
    (gP : mg "_law_pick" = some (.ref fP)) (FP : DefOk P w K mg base 4 fP [] (fsPick sStr)) : DefOk P w K mg base 5 f [] fsWordsD := by
  refine fn_ok F scWordsD b .nil (fun _ => rfl) fun ⟨dr, ns, c, many⟩ cdv A outer s G H D EE hr hp hf hn => ?_
  have hp : 0 ≤ c ∧ 0 ≤ many ∧ many ≤ 100000 := hp
  have hlr : (List.range many.toNat).length = many.toNat := List.length_range
  refine j_ret (O1 := [dO dr ns (c + (many.toNat : Nat))]) (s := sLst sStr (wordsV ns c many)) (e_lst ?_) (fin_ret hf (fun w hw => hw) fun G v hv => hv)
  exact ew_mapN (S := sStr) (R := fun k : Nat => sInt k) (as := List.range many.toNat) 2 many.toNat (fun k => [dO dr ns (c + k)]) (fun k => pickV six ns (c + k)) hlr scWordsD.nd
    (it_range (O1 := [dO dr ns (c + (0 : Nat))]) T.range (by show E _ _ [dO dr ns c] _ _ [dO dr ns (c + 0)]; rw [Int.add_zero]; exact e_name 1) (by omega) (by omega))
    (blkOk_by (own := [("_law_turn", 2)]) (N := ["_law_draw_here", "_law_many", "_law_turn"]) (sc := defScope sWordsD) (by decide +kernel))
    (fun k y hy s H _ cl fp => e_callR (S := fsPick sStr) (O2 := []) (dr, ns, c + k, six, pickV six ns (c + k)) FP hr gP (ea_cons (e_name 0) (ea_cons (e_lst (ew_lst (R := sStr) (el_cons e_str (el_cons e_str (el_cons e_str (el_cons e_str (el_cons e_str (el_cons e_str el_nil)))))) (szl (by simp)))) ea_nil)) (by
      show 0 ≤ c + (k : Int) ∧ _
      exact ⟨by omega, pick_some (ws := six) (by decide)⟩) rfl (by
      show [dO dr ns (c + k + 1)] = [dO dr ns (c + ((k + 1 : Nat) : Int))]
      rw [Int.natCast_add, Int.add_assoc]
      rfl)) (szl (by omega))
theorem scEditD : FnScope ["_law_draw_here", "_law_many", "_law_first"] ["_law_draw_here", "_law_many"] (defScope sEditD) := ⟨rfl, rfl, rfl, by decide +kernel, rfl, by decide +kernel, by decide +kernel⟩
def fsEditD (C : Addr) : FS DrI := { args := fun i => [sRef i.dr, sInt i.many], own := fun i => [dO i.dr i.ns i.c], pre := fun i => 0 ≤ i.c ∧ 0 ≤ i.many, res := fun i => sEd C (editV i.ns i.c i.many), own' := fun i => [dO i.dr i.ns (editC i.ns i.c)] }
theorem ok_editD {f fN fW fI : Addr} {fd : FuncData} (F : Fun K "_law_edit" "_law_edit" sEditD f fd) (b : Binds K fd ["_law_draw_here", "_law_many"] []) (T : Bt mg) (Cc : Cs K mg) (EC : EdC K mg C)
    (gN : mg "_law_next" = some (.ref fN)) (FN : DefOk P w K mg base 3 fN [] fsNext) (gW : mg "_law_words" = some (.ref fW)) (FW : DefOk P w K mg base 5 fW [] fsWordsD) (M : Mk K C fI) (FI : DefOk P w K mg base 3 fI [] (fsInit C)) : DefOk P w K mg base 6 f [] (fsEditD C) := by
  refine fn_ok F scEditD b .nil (fun _ => rfl) fun ⟨dr, ns, c, many⟩ cdv A outer s G H D EE hr hp hf hn => ?_
  have hp : 0 ≤ c ∧ 0 ≤ many := hp
  have hr5 : Room 5 _ := hr
  have hr4 : Room 4 _ := hr.mono (by decide)
  have hr3 : Room 3 _ := hr.mono (by decide)
  have hhi := edFirst_hi (ns := ns) (c := c) hp.2
  have hm := edM_lo (ns := ns) (c := c)
  have hm2 := edM_hi (ns := ns) (c := c)
  refine j_set 2 (O1 := [dO dr ns (c + 1)]) (s := sInt (edFirst ns c many)) (e_call (S := fsNext) (O2 := []) (dr, ns, c, many + 1) FN hr3 gN (ea_cons (e_name 0) (ea_cons (e_bin o_add (e_name 1) e_int) ea_nil)) ?_) ?_ scEditD.nd
  · show 0 ≤ c ∧ (0 : Int) < many + 1
    omega
  refine j_ret (O1 := [dO dr ns (editC ns c)]) (s := sEd C (editV ns c many)) (e_edit (ws := (editV ns c many).words) false M FI hr4 EC.gC (editV_ok hp.2) (ea_cons (e_name 2) (ea_cons (O1 := [dO dr ns (c + 1 + 1)]) (e_bin o_add (e_name 2) (e_call (S := fsNext) (O2 := []) (dr, ns, c + 1, min (many - edFirst ns c many) 3 + 1) FN hr3 gN (ea_cons (e_name 0) (ea_cons (e_bin o_add (e_callB c_min22 Cc.min (by decide +kernel) (ea_cons (e_bin o_sub (e_name 1) (e_name 2)) (ea_cons e_int ea_nil))) e_int) ea_nil)) ?_)) (ea_cons ?_ ea_nil)))) (fin_ret hf (fun w hw => hw) fun G v hv => hv)
  · show 0 ≤ c + 1 ∧ (0 : Int) < min (many - edFirst ns c many) 3 + 1
    omega
  · show E _ _ _ _ (sLst sStr (wordsV ns (c + 1 + 1 + 1) (edM ns c))) _
    exact e_call (S := fsWordsD) (O2 := []) ⟨dr, ns, c + 1 + 1 + 1, edM ns c⟩ FW hr5 gW (ea_cons (O1 := [dO dr ns (c + 1 + 1)]) (e_name 0) (ea_cons (O1 := [dO dr ns (c + 1 + 1 + 1)]) (e_call (S := fsNext) (O2 := []) (dr, ns, c + 1 + 1, 3) FN hr3 gN (ea_cons (e_name 0) (ea_cons e_int ea_nil)) (by show 0 ≤ c + 1 + 1 ∧ (0 : Int) < 3; omega)) ea_nil)) (by show 0 ≤ c + 1 + 1 + 1 ∧ 0 ≤ edM ns c ∧ edM ns c ≤ 100000; omega)
end
end K50

namespace K50
open PySem L2 Gd
/-- a word of a text behind edits: an old one, by its place, or a new one -/
inductive Tk where
  | old (i : Int)
  | new (t : Str)
  deriving DecidableEq
def seg (a b : Int) : List Tk := (List.range (b - a).toNat).map fun k : Nat => Tk.old (a + k)
theorem seg_len (a b : Int) : (seg a b).length = (b - a).toNat := by simp [seg]
theorem seg_nil {a b : Int} (h : b ≤ a) : seg a b = [] := by
  unfold seg
  rw [show (b - a).toNat = 0 by omega]
  rfl
theorem seg_cons {a b : Int} (h : a < b) : seg a b = .old a :: seg (a + 1) b := by
  unfold seg
  obtain ⟨n, hn⟩ := Int.eq_ofNat_of_zero_le (show 0 ≤ b - a - 1 by omega)
  rw [show (b - a).toNat = n + 1 by omega, show (b - (a + 1)).toNat = n by omega, List.range_succ_eq_map, List.map_cons, List.map_map]
  simp only [Int.natCast_zero, Int.add_zero]
  congr 1
  (refine List.map_congr_left fun k _ => ?_)
  show Tk.old (a + ((k + 1 : Nat) : Int)) = Tk.old (a + 1 + (k : Int))
  congr 1
  omega
theorem seg_append {a b c : Int} (h1 : a ≤ b) (h2 : b ≤ c) : seg a b ++ seg b c = seg a c := by
  obtain ⟨n, hn⟩ := Int.eq_ofNat_of_zero_le (show 0 ≤ b - a by omega)
  induction n generalizing a with
  | zero =>
    have : a = b := by omega
    subst this
    rw [seg_nil (Int.le_refl a)]
    rfl
  | succ n ih =>
    rw [seg_cons (show a < b by omega), seg_cons (show a < c by omega), List.cons_append, ih (by omega) (by omega)]
/-- rows without the last one -/
def wfI : Int → List Rw → Int → Prop
  | s, [], e => s ≤ e
  | s, .gap a (some b) :: r, e => s ≤ a ∧ a < b ∧ wfI b r e
  | _, .gap _ none :: _, _ => False
  | s, .word t :: r, e => okWords [t] ∧ wfI s r e
theorem wfI.le : ∀ {s : Int} {r : List Rw} {e : Int}, wfI s r e → s ≤ e
  | _, [], _, h => h
  | _, .gap a (some b) :: r, _, h => by have := h.2.2.le; have := h.1; have := h.2.1; omega
  | _, .word t :: r, _, h => h.2.le
theorem wfI.mono : ∀ {s s' : Int} {r : List Rw} {e e' : Int}, wfI s r e → s' ≤ s → e ≤ e' → wfI s' r e'
  | _, _, [], _, _, h, h1, h2 => Int.le_trans h1 (Int.le_trans h h2)
  | _, _, .gap a (some b) :: r, _, _, h, h1, h2 => ⟨Int.le_trans h1 h.1, h.2.1, h.2.2.mono (Int.le_refl _) h2⟩
  | _, _, .word t :: r, _, _, h, h1, h2 => ⟨h.1, h.2.mono h1 h2⟩
theorem wfI.app : ∀ {s m : Int} {r1 r2 : List Rw} {e : Int}, wfI s r1 m → wfI m r2 e → wfI s (r1 ++ r2) e
  | _, _, [], _, _, h1, h2 => h2.mono h1 (Int.le_refl _)
  | _, _, .gap a (some b) :: r, _, _, h1, h2 => ⟨h1.1, h1.2.1, h1.2.2.app h2⟩
  | _, _, .word t :: r, _, _, h1, h2 => ⟨h1.1, h1.2.app h2⟩
theorem wfI_words {s e : Int} (h : s ≤ e) : ∀ {ws : List Str}, okWords ws → wfI s (ws.map Rw.word) e
  | [], _ => h
  | t :: ws, ho => ⟨fun u hu => by simp at hu; subst hu; exact ho u List.mem_cons_self, wfI_words h fun u hu => ho u (List.mem_cons_of_mem _ hu)⟩
/-- how many words the rows have -/
def lenI : List Rw → Int
  | [] => 0
  | .gap a (some b) :: r => (b - a) + lenI r
  | .gap _ none :: r => lenI r
  | .word _ :: r => 1 + lenI r
theorem lenI_app : ∀ (r1 r2 : List Rw), lenI (r1 ++ r2) = lenI r1 + lenI r2
  | [], r2 => by simp [lenI]
  | .gap a (some b) :: r, r2 => by
    have := lenI_app r r2
    simp only [List.cons_append, lenI, this]
    omega
  | .gap a none :: r, r2 => by
    have := lenI_app r r2
    simp only [List.cons_append, lenI, this]
  | .word t :: r, r2 => by
    have := lenI_app r r2
    simp only [List.cons_append, lenI, this]
    omega
theorem lenI_words (ws : List Str) : lenI (ws.map Rw.word) = ws.length := by
  induction ws with
  | nil => rfl
  | cons t ws ih =>
    simp only [List.map_cons, lenI, ih, List.length_cons]
    omega
/-- the words that rows are, of so many words at first -/
def semR (N : Int) : Rw → List Tk
  | .gap a (some b) => seg a b
  | .gap a none => seg a N
  | .word t => [.new t]
def sem (N : Int) (rows : List Rw) : List Tk := rows.flatMap (semR N)
theorem sem_nil (N : Int) : sem N [] = [] := rfl
theorem sem_cons (N : Int) (r : Rw) (rs : List Rw) : sem N (r :: rs) = semR N r ++ sem N rs := rfl
theorem sem_app (N : Int) (r1 r2 : List Rw) : sem N (r1 ++ r2) = sem N r1 ++ sem N r2 := by simp [sem, List.flatMap_append]
theorem sem_words (N : Int) (ws : List Str) : sem N (ws.map Rw.word) = ws.map Tk.new := by
  induction ws with
  | nil => rfl
  | cons t ws ih => rw [List.map_cons, sem_cons, ih]; rfl
theorem sem_len {N : Int} : ∀ {s : Int} {r : List Rw} {e : Int}, wfI s r e → ((sem N r).length : Int) = lenI r
  | _, [], _, _ => rfl
  | _, .gap a (some b) :: r, _, h => by
    have i := sem_len (N := N) h.2.2
    have := h.2.1
    rw [sem_cons, List.length_append]
    show ((((seg a b).length + (sem N r).length : Nat)) : Int) = (b - a) + lenI r
    rw [seg_len]
    omega
  | _, .word t :: r, _, h => by
    have i := sem_len (N := N) h.2
    rw [sem_cons, List.length_append]
    show (((1 + (sem N r).length : Nat)) : Int) = 1 + lenI r
    omega
theorem lenI_nn {s : Int} {r : List Rw} {e : Int} (h : wfI s r e) : 0 ≤ lenI r := by
  rw [← sem_len (N := 0) h]
  omega
/-- what a cut does to the rows from the one that begins at at_ -/
structure CutOk (rest : List Rw) (least at_ place : Int) (s : Int) (r1 i2 : List Rw) (l : Int) : Prop where
  l_eq : l = max least (least + (place - at_ - lenI rest))
  len : lenI r1 = place - at_
  wf : ∃ m, wfI s r1 m ∧ wfI m i2 l
  sm : ∀ N, l ≤ N → sem N (r1 ++ (i2 ++ [.gap l none])) = sem N (rest ++ [.gap least none])
  few : r1.length + i2.length ≤ rest.length + 1
  gr : lenI r1 + lenI i2 - l = lenI rest - least
theorem cut_spec (pre : List Rw) {place least : Int} : ∀ {s : Int} (rest : List Rw) {at_ : Int}, wfI s rest least → at_ ≤ place → ∃ r1 i2 l, CutOk rest least at_ place s r1 i2 l ∧ ∀ pre : List Rw, cutGo pre place least (rest ++ [.gap least none]) at_ = ⟨pre ++ (r1 ++ (i2 ++ [.gap l none])), l, pre.length + r1.length⟩
  | s, [], at_, hw, hle => by
    by_cases h : place = at_
    · refine ⟨[], [], least, ⟨?_, ?_, ⟨s, Int.le_refl _, hw⟩, fun N _ => rfl, by simp, by simp [lenI]⟩, fun pre => ?_⟩
      · simp [lenI]; omega
      · simp [lenI]; omega
      · simp [cutGo, h]
    · have hlt : at_ < place := by omega
      have hw : s ≤ least := hw
      refine ⟨[.gap least (some (least + (place - at_)))], [], least + (place - at_), ⟨?_, ?_, ⟨least + (place - at_), ⟨hw, by omega, Int.le_refl _⟩, Int.le_refl _⟩, fun N hN => ?_, by simp, ?_⟩, fun pre => ?_⟩
      · simp [lenI]; omega
      · simp [lenI]; omega
      · rw [List.singleton_append, List.nil_append, List.nil_append, sem_cons, sem_cons, sem_cons, sem_nil, List.append_nil, List.append_nil]
        exact seg_append (by omega) hN
      · simp [lenI]; omega
      · simp [cutGo, h, sizeV, splitRw, bump]
        omega
  | s, .word t :: rest, at_, hw, hle => by
    by_cases h : place = at_
    · refine ⟨[], .word t :: rest, least, ⟨?_, ?_, ⟨s, Int.le_refl _, hw⟩, fun N _ => rfl, by simp, by simp [lenI]⟩, fun pre => ?_⟩
      · have := lenI_nn hw
        omega
      · simp [lenI]; omega
      · simp [cutGo, h]
    · have hlt : at_ + 1 ≤ place := by omega
      obtain ⟨r1, i2, l, ⟨c1, c2, ⟨m, c3, c4⟩, c5, c6, c7⟩, hc⟩ := cut_spec pre rest hw.2 hlt
      refine ⟨.word t :: r1, i2, l, ⟨?_, ?_, ⟨m, ⟨hw.1, c3⟩, c4⟩, fun N hN => ?_, ?_, ?_⟩, fun pre => ?_⟩
      · simp only [lenI]; omega
      · simp only [lenI]; omega
      · rw [List.cons_append, sem_cons, c5 N hN]
        rfl
      · (simp only [List.length_cons]; omega)
      · simp only [lenI]; omega
      · have hn : ¬ place < at_ + 1 := by omega
        have e : cutGo pre place least ((.word t :: rest) ++ [.gap least none]) at_ = cutGo (pre ++ [.word t]) place least (rest ++ [.gap least none]) (at_ + 1) := by
          rw [List.cons_append]
          conv => lhs; unfold cutGo
          rw [if_neg h]
          dsimp only [sizeV]
          rw [if_neg hn]
        rw [e, hc]
        simp only [List.append_assoc, List.length_append, List.length_cons, List.length_nil, List.cons_append, List.nil_append, CutR.mk.injEq, true_and]
        omega
  | s, .gap a (some b) :: rest, at_, hw, hle => by
    by_cases h : place = at_
    · refine ⟨[], .gap a (some b) :: rest, least, ⟨?_, ?_, ⟨s, Int.le_refl _, hw⟩, fun N _ => rfl, by simp, by simp [lenI]⟩, fun pre => ?_⟩
      · have := lenI_nn hw
        omega
      · simp [lenI]; omega
      · simp [cutGo, h]
    · by_cases hlt : place < at_ + (b - a)
      · have hl := hw.2.2.le
        have hn := lenI_nn hw.2.2
        refine ⟨[.gap a (some (a + (place - at_)))], .gap (a + (place - at_)) (some b) :: rest, least, ⟨?_, ?_, ⟨a + (place - at_), ⟨hw.1, by omega, Int.le_refl _⟩, ⟨Int.le_refl _, by omega, hw.2.2⟩⟩, fun N hN => ?_, ?_, ?_⟩, fun pre => ?_⟩
        · simp only [lenI]; omega
        · simp only [lenI]; omega
        · rw [List.singleton_append, List.cons_append, List.cons_append, sem_cons, sem_cons, sem_cons, ← List.append_assoc]
          congr 1
          exact seg_append (by omega) (by omega)
        · simp only [List.length_cons, List.length_nil]; omega
        · simp only [lenI]; omega
        · rw [List.cons_append]
          unfold cutGo
          rw [if_neg h]
          dsimp only [sizeV]
          rw [if_pos hlt]
          dsimp only [splitRw, bump]
          simp only [List.append_assoc, List.length_cons, List.length_nil, List.cons_append, List.nil_append, CutR.mk.injEq, true_and, and_true]
          omega
      · have hlt' : at_ + (b - a) ≤ place := by omega
        obtain ⟨r1, i2, l, ⟨c1, c2, ⟨m, c3, c4⟩, c5, c6, c7⟩, hc⟩ := cut_spec pre rest hw.2.2 hlt'
        refine ⟨.gap a (some b) :: r1, i2, l, ⟨?_, ?_, ⟨m, ⟨hw.1, hw.2.1, c3⟩, c4⟩, fun N hN => ?_, ?_, ?_⟩, fun pre => ?_⟩
        · simp only [lenI]; omega
        · simp only [lenI]; omega
        · rw [List.cons_append, sem_cons, c5 N hN]
          rfl
        · (simp only [List.length_cons]; omega)
        · simp only [lenI]; omega
        · have e : cutGo pre place least ((.gap a (some b) :: rest) ++ [.gap least none]) at_ = cutGo (pre ++ [.gap a (some b)]) place least (rest ++ [.gap least none]) (at_ + (b - a)) := by
            rw [List.cons_append]
            conv => lhs; unfold cutGo
            rw [if_neg h]
            dsimp only [sizeV]
            rw [if_neg hlt]
          rw [e, hc]
          simp only [List.append_assoc, List.length_append, List.length_cons, List.length_nil, List.cons_append, List.nil_append, CutR.mk.injEq, true_and]
          omega
/-- rows that end ahead of a place are passed over -/
theorem cut_skip {place least : Int} {tl : List Rw} : ∀ {s : Int} {r1 : List Rw} {e : Int} {at_ : Int} (pre : List Rw), wfI s r1 e → at_ + lenI r1 ≤ place → cutGo pre place least (r1 ++ tl) at_ = cutGo (pre ++ r1) place least tl (at_ + lenI r1)
  | _, [], _, at_, pre, _, _ => by simp [lenI]
  | _, .word t :: r, _, at_, pre, h, hl => by
    have hn := lenI_nn h.2
    simp only [lenI] at hl
    rw [List.cons_append]
    conv => lhs; unfold cutGo
    rw [if_neg (by omega)]
    dsimp only [sizeV]
    rw [if_neg (by omega), cut_skip (pre ++ [Rw.word t]) h.2 (by omega)]
    simp only [lenI, List.append_assoc, List.singleton_append, Int.add_assoc]
  | _, .gap a (some b) :: r, _, at_, pre, h, hl => by
    have hn := lenI_nn h.2.2
    have := h.2.1
    simp only [lenI] at hl
    rw [List.cons_append]
    conv => lhs; unfold cutGo
    rw [if_neg (by omega)]
    dsimp only [sizeV]
    rw [if_neg (by omega), cut_skip (pre ++ [Rw.gap a (some b)]) h.2.2 (by omega)]
    simp only [lenI, List.append_assoc, List.singleton_append, Int.add_assoc]
/-- an edit done on a text -/
def doG {β : Type} (nw : Str → β) (e : Ed) (R : List β) : List β := R.take e.first.toNat ++ e.words.map nw ++ R.drop e.last.toNat
/-- the pieces, with their last row -/
def WfQ (q : Ps) (init : List Rw) : Prop := q.rows = init ++ [.gap q.least none] ∧ wfI 0 init q.least
structure EditOk (q : Ps) (init : List Rw) (e : Ed) (i' : List Rw) : Prop where
  wf : WfQ (editQ q e) i'
  edq : q.rows.length ≤ 90000 → e.words.length ≤ 1000 → EdQ q e
  least : (editQ q e).least = max q.least (e.last - (lenI init - q.least))
  gr : lenI i' - (editQ q e).least = (lenI init - q.least) + Ed.growth e
  few : i'.length ≤ init.length + 2 + e.words.length
  sm : ∀ N, (editQ q e).least ≤ N → sem N (editQ q e).rows = doG Tk.new e (sem N q.rows)
theorem edit_spec {q : Ps} {init : List Rw} {e : Ed} (h : WfQ q init) (he : e.ok) : ∃ i', EditOk q init e i' := by
  obtain ⟨rows, least⟩ := q
  obtain ⟨hr, hw⟩ := h
  have hr : rows = init ++ [.gap least none] := hr
  have hw : wfI 0 init least := hw
  subst hr
  have f0 := he.1.1
  have f1 := he.1.2
  obtain ⟨r1, i2, l, ⟨c1, c2, ⟨m, c3, c4⟩, c5, c6, c7⟩, hc⟩ := cut_spec [] (place := e.first) (at_ := 0) init hw f0
  have c1 : l = max least (least + (e.first - 0 - lenI init)) := c1
  have c7 : lenI r1 + lenI i2 - l = lenI init - least := c7
  have hc := hc []
  rw [List.nil_append] at hc
  have e1 : cutV ⟨init ++ [.gap least none], least⟩ e.first = ⟨r1 ++ (i2 ++ [.gap l none]), l, r1.length⟩ := by
    have : cutV ⟨init ++ [.gap least none], least⟩ e.first = _ := hc
    rw [this]
    simp
  obtain ⟨r1', i2', l', ⟨d1, d2, ⟨m', d3, d4⟩, d5, d6, d7⟩, hd⟩ := cut_spec [] (place := e.last) (at_ := 0 + lenI r1) i2 c4 (by omega)
  have hq1 : cut1 ⟨init ++ [.gap least none], least⟩ e = ⟨r1 ++ (i2 ++ [.gap l none]), l⟩ := by
    unfold cut1
    rw [e1]
  have e2 : cutV (cut1 ⟨init ++ [.gap least none], least⟩ e) e.last = ⟨r1 ++ (r1' ++ (i2' ++ [.gap l' none])), l', r1.length + r1'.length⟩ := by
    rw [hq1]
    show cutGo [] e.last l (r1 ++ (i2 ++ [.gap l none])) 0 = _
    rw [cut_skip [] c3 (by omega), List.nil_append, hd]
  have hq2 : cut2 ⟨init ++ [.gap least none], least⟩ e = ⟨r1 ++ (r1' ++ (i2' ++ [.gap l' none])), l'⟩ := by
    unfold cut2
    rw [e2]
  have heq : editQ ⟨init ++ [.gap least none], least⟩ e = ⟨(r1 ++ e.words.map Rw.word ++ i2') ++ [.gap l' none], l'⟩ := by
    unfold editQ
    rw [hq2, e1, e2]
    dsimp only
    rw [List.take_left, ← List.append_assoc r1 r1', ← List.length_append, List.drop_left]
    simp only [List.append_assoc]
  have hmm := d3.le
  have hnn := lenI_nn d3
  refine ⟨r1 ++ e.words.map Rw.word ++ i2', ?_, fun hl hws => ?_, ?_, ?_, ?_, fun N hN => ?_⟩
  · rw [heq]
    exact ⟨rfl, (c3.app (wfI_words hmm he.2.1)).app d4⟩
  · have hl : (init ++ [Rw.gap least none]).length ≤ 90000 := hl
    rw [List.length_append] at hl
    simp only [List.length_cons, List.length_nil] at hl
    refine ⟨he, hws, ?_, ?_, ?_, ?_, ?_⟩
    · rw [List.length_append]; simp only [List.length_cons, List.length_nil]; omega
    · rw [hq1]; simp only [List.length_append, List.length_cons, List.length_nil]; omega
    · rw [hq2]; simp only [List.length_append, List.length_cons, List.length_nil]; omega
    · rw [e1, e2]; simp only; omega
    · rw [e2, hq2]; simp only [List.length_append, List.length_cons, List.length_nil]; omega
  · rw [heq]
    show l' = max least (e.last - (lenI init - least))
    have e3 : l + (e.last - (0 + lenI r1) - lenI i2) = e.last - (lenI init - least) := by omega
    have hA : least + (e.first - 0 - lenI init) ≤ e.last - (lenI init - least) := by omega
    rw [e3, c1, Int.max_assoc, Int.max_eq_right hA] at d1
    exact d1
  · rw [heq]
    show lenI (r1 ++ e.words.map Rw.word ++ i2') - l' = lenI init - least + Ed.growth e
    rw [lenI_app, lenI_app, lenI_words]
    unfold Ed.growth
    omega
  · rw [List.length_append, List.length_append, List.length_map]
    omega
  · rw [heq] at hN ⊢
    have hN : l' ≤ N := hN
    have hlN : l ≤ N := by omega
    have s1 := c5 N hlN
    have s2 := d5 N hN
    show sem N ((r1 ++ e.words.map Rw.word ++ i2') ++ [.gap l' none]) = doG Tk.new e (sem N (init ++ [.gap least none]))
    have lr1 := sem_len (N := N) c3
    have lr2 := sem_len (N := N) d3
    rw [← s1, sem_app N r1, ← s2, sem_app N r1']
    unfold doG
    rw [List.take_append_of_le_length (by omega), List.take_of_length_le (by omega), ← List.append_assoc (sem N r1), List.drop_append_of_le_length (by rw [List.length_append]; omega), List.drop_of_length_le (by rw [List.length_append]; omega), List.nil_append]
    rw [List.append_assoc, sem_app N (r1 ++ _), sem_app N r1, sem_words]
end K50

namespace K50
open PySem L2 Gd
/-- changes done on the words from a place on -/
def appC (N : Int) : Int → List Ch → List Tk
  | s, [] => seg s N
  | s, c :: r => seg s c.first ++ (c.words.map Tk.new ++ appC N c.last r)
def toldRec : Int → List Str → List Rw → List Ch
  | _, _, [] => []
  | at_, new, .word t :: r => toldRec at_ (new ++ [t]) r
  | at_, new, .gap a b :: r => (if new ≠ [] ∨ at_ < a then [⟨at_, a, new⟩] else []) ++ toldRec (b.getD 0) [] r
theorem toldFold : ∀ (rows : List Rw) (at_ : Option Int) (f : List Ch) (new : List Str), (rows.foldl toldStep (at_, f, new)).2.1 = f ++ toldRec (at_.getD 0) new rows
  | [], at_, f, new => by simp [toldRec]
  | .word t :: r, at_, f, new => by
    rw [List.foldl_cons]
    exact toldFold r at_ f (new ++ [t])
  | .gap a b :: r, at_, f, new => by
    rw [List.foldl_cons]
    have := toldFold r b (if new ≠ [] ∨ at_.getD 0 < a then f ++ [⟨at_.getD 0, a, new⟩] else f) []
    refine this.trans ?_
    simp only [toldRec]
    split <;> simp
theorem goodFrom.mono {e e' : Int} {cs : List Ch} (h : goodFrom e cs) (h1 : e' ≤ e) : goodFrom e' cs := by
  cases cs with
  | nil => trivial
  | cons c r => exact ⟨by have := h.1; omega, h.2⟩
theorem appC_seg {N a b : Int} (h : a ≤ b) {cs : List Ch} (hg : goodFrom (b - 1) cs) (hN : b ≤ N) : appC N a cs = seg a b ++ appC N b cs := by
  cases cs with
  | nil => exact (seg_append h hN).symm
  | cons c r =>
    have := hg.1
    show seg a c.first ++ _ = seg a b ++ (seg b c.first ++ _)
    rw [← List.append_assoc (seg a b), seg_append h (by omega)]
def newLen (new : List Str) (rows : List Rw) : Prop := new.length + rows.length ≤ 1000
theorem okWords_app {a b : List Str} (h1 : okWords a) (h2 : okWords b) : okWords (a ++ b) := fun t ht => (List.mem_append.mp ht).elim (h1 t) (h2 t)
theorem told_spec {least N : Int} (hN : least ≤ N) : ∀ {rest : List Rw} {at_ : Int} {new : List Str}, wfI at_ rest least → okWords new → new.length + rest.length ≤ 1000 →
    appC N at_ (toldRec at_ new (rest ++ [.gap least none])) = new.map Tk.new ++ sem N (rest ++ [.gap least none]) ∧ goodFrom (at_ - 1) (toldRec at_ new (rest ++ [.gap least none])) ∧ ∀ c ∈ toldRec at_ new (rest ++ [.gap least none]), c.last ≤ least
  | [], at_, new, hw, ho, hl => by
    have hw : at_ ≤ least := hw
    simp only [List.nil_append, toldRec, List.append_nil]
    by_cases h : new ≠ [] ∨ at_ < least
    · rw [if_pos h]
      refine ⟨?_, ⟨by show at_ - 1 < at_; omega, hw, ho, by show new.length ≤ 1000; omega, ?_, trivial⟩, fun c hc => ?_⟩
      · show seg at_ at_ ++ (new.map Tk.new ++ seg least N) = new.map Tk.new ++ (seg least N ++ [])
        rw [seg_nil (Int.le_refl _), List.nil_append, List.append_nil]
      · rintro ⟨h1, h2⟩
        have h1 : at_ = least := h1
        rcases h with h | h
        · exact h h2
        · omega
      · simp at hc
        subst hc
        exact Int.le_refl _
    · have h1 : new = [] := by
        by_cases z : new = []
        · exact z
        · exact absurd (Or.inl z) h
      have h2 : at_ = least := by
        have : ¬ at_ < least := fun z => h (Or.inr z)
        omega
      rw [if_neg h]
      subst h1 h2
      refine ⟨?_, trivial, fun c hc => by cases hc⟩
      show seg at_ N = [] ++ (seg at_ N ++ [])
      rw [List.append_nil, List.nil_append]
  | .word t :: r, at_, new, hw, ho, hl => by
    have hl : new.length + (r.length + 1) ≤ 1000 := hl
    have i := told_spec hN (rest := r) (at_ := at_) (new := new ++ [t]) hw.2 (okWords_app ho hw.1) (by rw [List.length_append]; simp only [List.length_cons, List.length_nil]; omega)
    simp only [List.cons_append, toldRec]
    refine ⟨?_, i.2⟩
    rw [i.1, List.map_append, List.append_assoc]
    rfl
  | .gap a (some b) :: r, at_, new, hw, ho, hl => by
    have hl : new.length + (r.length + 1) ≤ 1000 := hl
    have i := told_spec hN (rest := r) (at_ := b) (new := []) hw.2.2 (fun t ht => by cases ht) (by simp only [List.length_nil]; omega)
    have h1 := hw.1
    have h2 := hw.2.1
    have h3 := hw.2.2.le
    have key : appC N a (toldRec b [] (r ++ [.gap least none])) = seg a b ++ sem N (r ++ [.gap least none]) := by
      rw [appC_seg (by omega) i.2.1 (by omega), i.1]
      rfl
    simp only [List.cons_append, toldRec, Option.getD_some]
    by_cases h : new ≠ [] ∨ at_ < a
    · rw [if_pos h]
      refine ⟨?_, ⟨by show at_ - 1 < at_; omega, h1, ho, by show new.length ≤ 1000; omega, ?_, i.2.1.mono (by show a ≤ b - 1; omega)⟩, fun c hc => ?_⟩
      · show seg at_ at_ ++ (new.map Tk.new ++ appC N a (toldRec b [] (r ++ [.gap least none]))) = new.map Tk.new ++ (seg a b ++ sem N (r ++ [.gap least none]))
        rw [seg_nil (Int.le_refl _), List.nil_append, key]
      · rintro ⟨h1, h2⟩
        have h1 : at_ = a := h1
        rcases h with h | h
        · exact h h2
        · omega
      · rcases List.mem_append.mp hc with hc | hc
        · simp at hc
          subst hc
          show a ≤ least
          omega
        · exact i.2.2 c hc
    · have e1 : new = [] := by
        by_cases z : new = []
        · exact z
        · exact absurd (Or.inl z) h
      have e2 : at_ = a := by
        have : ¬ at_ < a := fun z => h (Or.inr z)
        omega
      rw [if_neg h]
      subst e1 e2
      refine ⟨?_, i.2.1.mono (by omega), i.2.2⟩
      show appC N at_ (toldRec b [] (r ++ [.gap least none])) = [] ++ (seg at_ b ++ sem N (r ++ [.gap least none]))
      rw [key, List.nil_append]
theorem joinFold_good : ∀ {cs f : List Ch} {e : Int}, goodFrom e cs → (∀ b, f.getLast? = some b → b.last ≤ e) → cs.foldl joinStep f = f ++ cs
  | [], f, e, _, _ => by simp
  | c :: r, f, e, hg, hf => by
    have hs : joinStep f c = f ++ [c] := by
      unfold joinStep
      cases z : f.getLast? with
      | none =>
        rw [List.getLast?_eq_none_iff] at z
        subst z
        rfl
      | some b =>
        have := hf b z
        have := hg.1
        dsimp only
        rw [if_neg (by omega)]
    rw [List.foldl_cons, hs, joinFold_good (e := c.last) hg.2.2.2.2.2 (fun b hb => by
      rw [List.getLast?_concat] at hb
      cases hb
      exact Int.le_refl _), List.append_assoc]
    rfl
theorem goodFrom.keep : ∀ {cs : List Ch} {e : Int}, goodFrom e cs → ∀ c ∈ cs, keepCh c = true
  | d :: r, e, hg, c, hc => by
    (rcases List.mem_cons.mp hc with rfl | hc)
    · have h1 := hg.2.1
      have h2 := hg.2.2.2.2.1
      unfold keepCh
      by_cases z : c.first < c.last
      · simp [z]
      · have : c.first = c.last := by omega
        have : c.words ≠ [] := fun h => h2 ⟨this, h⟩
        simp [z, this]
    · exact hg.2.2.2.2.2.keep c hc
theorem joined_good {cs : List Ch} {e : Int} (h : goodFrom e cs) : joinedV cs = cs := by
  unfold joinedV
  rw [joinFold_good h (fun b hb => by cases hb), List.nil_append]
  exact List.filter_eq_self.mpr h.keep
theorem told_at : ∀ (rows : List Rw), toldV rows = joinedV (toldRec 0 [] rows) := fun rows => by
  unfold toldV toldAt
  rw [List.take_length, toldFold]
  rfl
theorem lastEnd_le {cs : List Ch} {l : Int} (h0 : 0 ≤ l) (h : ∀ c ∈ cs, c.last ≤ l) : lastEnd cs ≤ l := by
  unfold lastEnd
  cases e : cs.getLast? with
  | none => exact h0
  | some c => exact h c (List.mem_of_getLast? e)
theorem le_lastEnd : ∀ {cs : List Ch} {e : Int}, goodFrom e cs → ∀ c ∈ cs, c.last ≤ lastEnd cs
  | [], e, _, c, hc => by cases hc
  | [d], e, _, c, hc => by
    simp at hc
    subst hc
    exact Int.le_refl _
  | d :: d2 :: r, e, hg, c, hc => by
    have i := le_lastEnd (cs := d2 :: r) (e := d.last) hg.2.2.2.2.2
    have hl : lastEnd (d :: d2 :: r) = lastEnd (d2 :: r) := by
      unfold lastEnd
      rw [List.getLast?_cons_cons]
    rw [hl]
    (rcases List.mem_cons.mp hc with rfl | hc)
    · have := i d2 List.mem_cons_self
      have h1 := hg.2.2.2.2.2.1
      have h2 := hg.2.2.2.2.2.2.1
      omega
    · exact i c hc
theorem toldEnd : ∀ {rest : List Rw} {s e : Int}, wfI s rest e → ∀ (st : Option Int × List Ch × List Str), st.1 ≠ none → ∀ n, n ≤ rest.length → ((rest.take n).foldl toldStep st).1 ≠ none
  | _, _, _, _, st, hst, 0, _ => by simpa using hst
  | .word t :: r, s, e, h, st, hst, n + 1, hn => by
    rw [List.take_succ_cons, List.foldl_cons]
    exact toldEnd h.2 (toldStep st (.word t)) hst n (by simpa using hn)
  | .gap a (some b) :: r, s, e, h, st, hst, n + 1, hn => by
    rw [List.take_succ_cons, List.foldl_cons]
    exact toldEnd h.2.2 (toldStep st (.gap a (some b))) (by intro hh; cases hh) n (by simpa using hn)
theorem wfI_word : ∀ {rest : List Rw} {s e : Int}, wfI s rest e → ∀ t, Rw.word t ∈ rest → okWords [t]
  | .word u :: r, s, e, h, t, hm => by
    (rcases List.mem_cons.mp hm with z | hm)
    · cases z
      exact h.1
    · exact wfI_word h.2 t hm
  | .gap a (some b) :: r, s, e, h, t, hm => by
    (rcases List.mem_cons.mp hm with z | hm)
    · cases z
    · exact wfI_word h.2.2 t hm
theorem wf_rws {q : Ps} {init : List Rw} (h : WfQ q init) (hl : init.length ≤ 900) : RwsOk q.rows := by
  rw [h.1]
  refine ⟨?_, fun t ht => ?_, fun n hn => ?_⟩
  · rw [List.length_append]
    (simp only [List.length_cons, List.length_nil])
    omega
  · rcases List.mem_append.mp ht with ht | ht
    · exact (wfI_word h.2 t ht).str
    · simp at ht
  · rw [List.length_append] at hn
    simp only [List.length_cons, List.length_nil] at hn
    unfold toldAt
    rw [List.take_append_of_le_length (by omega)]
    exact toldEnd h.2 _ (by intro hh; cases hh) n (by omega)
/-- what many edits do -/
def doAll {β : Type} (nw : Str → β) (es : List Ed) (R : List β) : List β := es.foldl (fun R e => doG nw e R) R
def lst : List Ed → Int → Int → Int
  | [], s, _ => s
  | e :: r, s, g => lst r (max s (e.last - g)) (g + e.growth)
def grow (es : List Ed) : Int := (es.map Ed.growth).sum
def wsum' (es : List Ed) : Nat := (es.map fun e => e.words.length).sum
structure QOk (es : List Ed) (n : Nat) (init : List Rw) : Prop where
  wf : WfQ (qAt es n) init
  least : lst (es.drop n) (qAt es n).least (lenI init - (qAt es n).least) = lst es 0 0
  gr : lenI init - (qAt es n).least = grow (es.take n)
  few : init.length ≤ 2 * n + wsum' (es.take n)
  sm : ∀ N, (qAt es n).least ≤ N → sem N (qAt es n).rows = doAll Tk.new (es.take n) (seg 0 N)
theorem lst_le : ∀ (es : List Ed) (s g : Int), s ≤ lst es s g
  | [], s, g => Int.le_refl _
  | e :: r, s, g => by
    have := lst_le r (max s (e.last - g)) (g + e.growth)
    show s ≤ lst r _ _
    omega
theorem sum_take_succ {es : List Ed} {n : Nat} {e : Ed} (h : es[n]? = some e) : grow (es.take (n + 1)) = grow (es.take n) + e.growth ∧ wsum' (es.take (n + 1)) = wsum' (es.take n) + e.words.length := by
  rw [take_succ h]
  unfold grow wsum'
  rw [List.map_append, List.sum_append, List.map_append, List.sum_append]
  simp
theorem q_ok {es : List Ed} (he : ∀ e ∈ es, e.ok) : ∀ n, n ≤ es.length → ∃ init, QOk es n init
  | 0, _ => ⟨[], ⟨⟨rfl, Int.le_refl _⟩, rfl, by simp [lenI, grow, qAt], by simp, fun N hN => by
      show seg 0 N ++ [] = seg 0 N
      rw [List.append_nil]⟩⟩
  | n + 1, hn => by
    obtain ⟨init, h⟩ := q_ok he n (by omega)
    have hy := List.getElem?_eq_getElem (show n < es.length from hn)
    have hd : es.drop n = es[n] :: es.drop (n + 1) := List.drop_eq_getElem_cons hn
    have hm : es[n] ∈ es := List.getElem_mem _
    generalize es[n] = e at hy hd hm
    obtain ⟨i', k⟩ := edit_spec h.wf (he e hm)
    have hq := qAt_succ hy
    have sums := sum_take_succ hy
    have hgr := h.gr
    have hkl := k.least
    have hkg := k.gr
    have hfew := h.few
    have hkf := k.few
    refine ⟨i', ⟨?_, ?_, ?_, ?_, fun N hN => ?_⟩⟩
    · rw [hq]
      exact k.wf
    · rw [hq, ← h.least, hd]
      show lst _ _ _ = lst _ (max _ _) _
      rw [hkg, hkl]
    · rw [hq, sums.1]
      omega
    · rw [sums.2]
      omega
    · rw [hq] at hN ⊢
      rw [k.sm N hN, h.sm N (by omega), take_succ hy]
      unfold doAll
      rw [List.foldl_append]
      rfl
/-- what patch makes of edits -/
structure PatchV (es : List Ed) : Prop where
  good : goodFrom (-1) (patchV es).changes
  ends : ∀ c ∈ (patchV es).changes, c.last ≤ (patchV es).least
  least : (patchV es).least = lst es 0 0
  does : ∀ N, (patchV es).least ≤ N → appC N 0 (patchV es).changes = doAll Tk.new es (seg 0 N)
  few : (patchV es).changes.length ≤ 2 * es.length + wsum' es + 1
  words : wsum (patchV es).changes ≤ 2 * es.length + wsum' es + 1
theorem patch_spec {es : List Ed} (he : ∀ e ∈ es, e.ok) (hl : 2 * es.length + wsum' es ≤ 900) (hw : ∀ e ∈ es, e.words.length ≤ 1000) : PatchV es ∧ (es.length ≤ 60 → PatchOk es) := by
  have htk : ∀ n, n ≤ es.length → wsum' (es.take n) ≤ wsum' es := fun n _ => by
    have : wsum' es = wsum' (es.take n) + wsum' (es.drop n) := by
      conv => lhs; rw [← List.take_append_drop n es]
      unfold wsum'
      rw [List.map_append, List.sum_append]
    omega
  obtain ⟨init, h⟩ := q_ok he es.length (Nat.le_refl _)
  have hf := h.few
  rw [List.take_length] at hf
  have hr := wf_rws h.wf (by omega)
  have hrows := h.wf.1
  have hwf := h.wf.2
  have hlst := h.least
  rw [List.drop_length] at hlst
  have hlst : (qAt es es.length).least = lst es 0 0 := hlst
  have hl0 := hwf.le
  have spec := fun N (hN : (qAt es es.length).least ≤ N) => told_spec hN (rest := init) (at_ := 0) (new := []) hwf (fun t ht => by cases ht) (by simp only [List.length_nil]; omega)
  have s0 := spec _ (Int.le_refl _)
  rw [← hrows] at s0
  have hj : toldV (qAt es es.length).rows = toldRec 0 [] (qAt es es.length).rows := by
    rw [told_at]
    exact joined_good s0.2.1
  have hch : (patchV es).changes = toldRec 0 [] (qAt es es.length).rows := hj
  have ht := toldAt_ok hr.ws (qAt es es.length).rows.length (Nat.le_refl _)
  have hta : (toldAt (qAt es es.length).rows (qAt es es.length).rows.length).2.1 = toldRec 0 [] (qAt es es.length).rows := by
    unfold toldAt
    rw [List.take_length, toldFold]
    rfl
  rw [hta] at ht
  have hrl : (qAt es es.length).rows.length = init.length + 1 := by
    rw [hrows, List.length_append]
    rfl
  have pv : PatchV es := by
    refine ⟨?_, ?_, hlst, fun N hN => ?_, ?_, ?_⟩
    · rw [hch]
      exact s0.2.1
    · rw [hch]
      exact s0.2.2
    · have s1 := (spec N hN).1
      rw [← hrows] at s1
      rw [hch, s1, h.sm N hN, List.take_length]
      rfl
    · rw [hch]
      omega
    · rw [hch]
      omega
  refine ⟨pv, fun h60 => ⟨h60, fun n e hy => ?_, hr, pv.good, ?_, ?_⟩⟩
  · have hn := (List.getElem?_eq_some_iff.mp hy).1
    obtain ⟨i0, h0⟩ := q_ok he n (by omega)
    obtain ⟨i', k⟩ := edit_spec h0.wf (he e (List.mem_of_getElem? hy))
    refine k.edq ?_ (hw e (List.mem_of_getElem? hy))
    have h0f := h0.few
    have := htk n (by omega)
    rw [h0.wf.1, List.length_append]
    (simp only [List.length_cons, List.length_nil])
    omega
  · have := pv.few
    omega
  · exact lastEnd_le hl0 pv.ends
end K50

namespace K50
open PySem L2 Gd
/-! ### a text tells the changes -/
def parse (N : Int) : Int → List Str → List Tk → List Ch
  | at_, new, [] => if new ≠ [] ∨ at_ < N then [⟨at_, N, new⟩] else []
  | at_, new, .new t :: R => parse N at_ (new ++ [t]) R
  | at_, new, .old i :: R => (if new ≠ [] ∨ at_ < i then [⟨at_, i, new⟩] else []) ++ parse N (i + 1) [] R
theorem parse_seg {N s f : Int} (h : s ≤ f) (X : List Tk) : parse N s [] (seg s f ++ X) = parse N f [] X := by
  obtain ⟨n, hn⟩ := Int.eq_ofNat_of_zero_le (show 0 ≤ f - s by omega)
  induction n generalizing s with
  | zero =>
    have : s = f := by omega
    subst this
    rw [seg_nil (Int.le_refl s)]
    rfl
  | succ n ih =>
    rw [seg_cons (show s < f by omega), List.cons_append]
    show (if [] ≠ ([] : List Str) ∨ s < s then _ else _) ++ _ = _
    rw [if_neg (by rintro (h | h); exact h rfl; omega), List.nil_append]
    exact ih (by omega) (by omega)
theorem parse_new {N at_ : Int} (Y : List Tk) : ∀ (ws new : List Str), parse N at_ new (ws.map Tk.new ++ Y) = parse N at_ (new ++ ws) Y
  | [], new => by simp
  | t :: ws, new => by
    rw [List.map_cons, List.cons_append]
    show parse N at_ (new ++ [t]) _ = _
    rw [parse_new Y ws, List.append_assoc]
    rfl
theorem good_nil {e N : Int} {r : List Ch} (h : goodFrom e r) (hl : ∀ c ∈ r, c.last ≤ N) (hN : N ≤ e) : r = [] := by
  cases r with
  | nil => rfl
  | cons c r =>
    have := h.1
    have := h.2.1
    have := hl c List.mem_cons_self
    omega
theorem parse_app {N : Int} : ∀ {cs : List Ch} {s : Int}, goodFrom (s - 1) cs → (∀ c ∈ cs, c.last ≤ N) → s ≤ N → parse N s [] (appC N s cs) = cs
  | [], s, _, _, hs => by
    show parse N s [] (seg s N) = []
    rw [← List.append_nil (seg s N), parse_seg hs]
    show (if [] ≠ ([] : List Str) ∨ N < N then _ else _) = _
    rw [if_neg (by rintro (h | h); exact h rfl; omega)]
  | c :: r, s, hg, hl, hs => by
    have g1 := hg.1
    have g2 := hg.2.1
    have g3 := hg.2.2.2.2.1
    have g4 := hg.2.2.2.2.2
    have cl := hl c List.mem_cons_self
    have hc : c.words ≠ [] ∨ c.first < c.last := by
      by_cases z : c.words = []
      · right
        have : c.first ≠ c.last := fun h => g3 ⟨h, z⟩
        omega
      · exact Or.inl z
    have hr : ∀ d ∈ r, d.last ≤ N := fun d hd => hl d (List.mem_cons_of_mem _ hd)
    show parse N s [] (seg s c.first ++ (c.words.map Tk.new ++ appC N c.last r)) = _
    rw [parse_seg (by omega), parse_new, List.nil_append]
    by_cases hN : c.last < N
    · rw [appC_seg (a := c.last) (b := c.last + 1) (by omega) (g4.mono (by omega)) (by omega), seg_cons (show c.last < c.last + 1 by omega), seg_nil (Int.le_refl _)]
      show (if c.words ≠ [] ∨ c.first < c.last then ([⟨c.first, c.last, c.words⟩] : List Ch) else []) ++ parse N (c.last + 1) [] (appC N (c.last + 1) r) = _
      rw [if_pos hc, parse_app (g4.mono (by omega)) hr (by omega)]
      rfl
    · have e : c.last = N := by omega
      have er : r = [] := good_nil g4 hr (by omega)
      subst er
      show parse N c.first c.words (seg c.last N) = _
      rw [seg_nil (by omega)]
      show (if c.words ≠ [] ∨ c.first < N then ([⟨c.first, N, c.words⟩] : List Ch) else []) = _
      rw [if_pos (by rw [← e]; exact hc), ← e]
theorem appC_inj {N : Int} {cs ds : List Ch} (h1 : goodFrom (-1) cs) (h2 : goodFrom (-1) ds) (l1 : ∀ c ∈ cs, c.last ≤ N) (l2 : ∀ c ∈ ds, c.last ≤ N) (hN : 0 ≤ N) (h : appC N 0 cs = appC N 0 ds) : cs = ds := by
  rw [← parse_app (s := 0) (by exact h1) l1 hN, h, parse_app (s := 0) (by exact h2) l2 hN]
/-! ### edits on any texts -/
section
variable {β γ : Type}
theorem doG_map (f : β → γ) (nw : Str → β) (e : Ed) (R : List β) : (doG nw e R).map f = doG (fun t => f (nw t)) e (R.map f) := by
  unfold doG
  simp [List.map_take, List.map_drop, Function.comp_def]
theorem doAll_map (f : β → γ) (nw : Str → β) : ∀ (es : List Ed) (R : List β), (doAll nw es R).map f = doAll (fun t => f (nw t)) es (R.map f)
  | [], R => rfl
  | e :: r, R => by
    show (doAll nw r (doG nw e R)).map f = doAll _ r (doG _ e (R.map f))
    rw [doAll_map f nw r, doG_map]
theorem doAll_app (nw : Str → β) (a b : List Ed) (R : List β) : doAll nw (a ++ b) R = doAll nw b (doAll nw a R) := List.foldl_append
/-- what a word of a text behind edits is, on words at hand -/
def look (nw : Str → β) (R : List β) : Tk → β
  | .old i => R.getD i.toNat (nw "")
  | .new t => nw t
theorem look_seg' (nw : Str → β) (R : List β) (n : Nat) : ∀ k, n + k = R.length → (seg n R.length).map (look nw R) = R.drop n := fun k => by
  induction k generalizing n with
  | zero =>
    intro h
    rw [seg_nil (by omega), List.drop_of_length_le (by omega)]
    rfl
  | succ k ih =>
    intro h
    rw [seg_cons (by omega), List.map_cons]
    have := ih (n + 1) (by omega)
    rw [Int.natCast_add] at this
    rw [show (n : Int) + 1 = (n : Int) + ((1 : Nat) : Int) from rfl, this, List.drop_eq_getElem_cons (show n < R.length by omega)]
    congr 1
    show R.getD (n : Int).toNat _ = _
    rw [Int.toNat_natCast, List.getD_eq_getElem?_getD, List.getElem?_eq_getElem (by omega)]
    rfl
theorem look_seg (nw : Str → β) (R : List β) : (seg 0 R.length).map (look nw R) = R := look_seg' nw R 0 R.length (by omega)
theorem doAll_look (nw : Str → β) (es : List Ed) (R : List β) : doAll nw es R = (doAll Tk.new es (seg 0 R.length)).map (look nw R) := by
  rw [doAll_map, look_seg]
  rfl
theorem doG_len {nw : Str → β} {e : Ed} (he : e.ok) {R : List β} (h : e.last ≤ R.length) : ((doG nw e R).length : Int) = R.length + e.growth := by
  have f0 := he.1.1
  have f1 := he.1.2
  unfold doG Ed.growth
  rw [List.length_append, List.length_append, List.length_take, List.length_map, List.length_drop]
  omega
theorem doAll_len {nw : Str → β} : ∀ {es : List Ed}, (∀ e ∈ es, e.ok) → ∀ {R : List β} {s g N : Int}, lst es s g ≤ N → (R.length : Int) = N + g → ((doAll nw es R).length : Int) = N + g + grow es
  | [], _, R, s, g, N, _, hR => by simp [doAll, grow, hR]
  | e :: r, he, R, s, g, N, hl, hR => by
    have hl : lst r (max s (e.last - g)) (g + e.growth) ≤ N := hl
    have h1 := lst_le r (max s (e.last - g)) (g + e.growth)
    have hd := doG_len (nw := nw) (he e List.mem_cons_self) (R := R) (by omega)
    have := doAll_len (nw := nw) (fun d hd => he d (List.mem_cons_of_mem _ hd)) (R := doG nw e R) hl (by omega)
    show ((doAll nw r (doG nw e R)).length : Int) = _
    have hg : grow (e :: r) = e.growth + grow r := by simp [grow]
    rw [this, hg]
    omega
end
theorem appC_len {N : Int} : ∀ {cs : List Ch} {s : Int}, goodFrom (s - 1) cs → (∀ c ∈ cs, c.last ≤ N) → s ≤ N → ((appC N s cs).length : Int) = N - s + grow cs
  | [], s, _, _, hs => by
    show (((seg s N).length : Nat) : Int) = _
    rw [seg_len]
    simp [grow]
    omega
  | c :: r, s, hg, hl, hs => by
    have g1 := hg.1
    have g2 := hg.2.1
    have cl := hl c List.mem_cons_self
    have i := appC_len (s := c.last) (hg.2.2.2.2.2.mono (by omega)) (fun d hd => hl d (List.mem_cons_of_mem _ hd)) cl
    have hgr : grow (c :: r) = Ed.growth c + grow r := by simp [grow]
    show (((seg s c.first ++ (c.words.map Tk.new ++ appC N c.last r)).length : Nat) : Int) = _
    rw [List.length_append, List.length_append, seg_len, List.length_map, hgr]
    unfold Ed.growth
    omega
theorem grow_app (a b : List Ed) : grow (a ++ b) = grow a + grow b := by simp [grow]
theorem grow_rev : ∀ cs : List Ed, grow cs.reverse = grow cs
  | [] => rfl
  | c :: r => by
    rw [List.reverse_cons, grow_app, grow_rev r]
    simp [grow]
    omega
theorem grow_good {L : Int} : ∀ {cs : List Ch} {e : Int}, goodFrom e cs → (∀ c ∈ cs, c.last ≤ L) → e ≤ L → e - L ≤ grow cs
  | [], e, _, _, h => by simp [grow]; omega
  | c :: r, e, hg, hl, h => by
    have g1 := hg.1
    have g2 := hg.2.1
    have cl := hl c List.mem_cons_self
    have i := grow_good hg.2.2.2.2.2 (fun d hd => hl d (List.mem_cons_of_mem _ hd)) cl
    have hgr : grow (c :: r) = Ed.growth c + grow r := by simp [grow]
    rw [hgr]
    unfold Ed.growth
    omega
theorem lst_app : ∀ (a b : List Ed) (s g : Int), lst (a ++ b) s g = lst b (lst a s g) (g + grow a)
  | [], b, s, g => by simp [lst, grow]
  | e :: r, b, s, g => by
    show lst (r ++ b) _ _ = _
    rw [lst_app r b]
    have : grow (e :: r) = e.growth + grow r := by simp [grow]
    rw [this, ← Int.add_assoc]
    rfl
theorem lst_shift (s g : Int) : ∀ (b : List Ed) (s' g' : Int), lst b (max s (s' - g)) (g + g') = max s (lst b s' g' - g)
  | [], s', g' => rfl
  | e :: r, s', g' => by
    show lst r (max (max s (s' - g)) (e.last - (g + g'))) (g + g' + e.growth) = _
    have := lst_shift s g r (max s' (e.last - g')) (g' + e.growth)
    rw [show max (max s (s' - g)) (e.last - (g + g')) = max s (max s' (e.last - g') - g) by omega, Int.add_assoc, this]
    rfl
theorem lst_rev {L : Int} : ∀ {cs : List Ch} {e : Int} (s g : Int), goodFrom e cs → (∀ c ∈ cs, c.last ≤ L) → lst cs.reverse s g ≤ max s (L - g)
  | [], e, s, g, _, _ => by
    show s ≤ _
    omega
  | c :: r, e, s, g, hg, hl => by
    have cl := hl c List.mem_cons_self
    have hr : ∀ d ∈ r, d.last ≤ L := fun d hd => hl d (List.mem_cons_of_mem _ hd)
    have i := lst_rev (cs := r) (e := c.last) s g hg.2.2.2.2.2 hr
    have k := grow_good hg.2.2.2.2.2 hr cl
    rw [List.reverse_cons, lst_app, grow_rev]
    show max (lst r.reverse s g) (c.last - (g + grow r)) ≤ _
    omega
theorem rev_do {N : Int} : ∀ {cs : List Ch} {s : Int} (X : List Tk), goodFrom (s - 1) cs → (∀ c ∈ cs, c.last ≤ N) → 0 ≤ s → s ≤ N → (X.length : Int) = s → doAll Tk.new cs.reverse (X ++ seg s N) = X ++ appC N s cs
  | [], s, X, _, _, _, _, _ => rfl
  | c :: r, s, X, hg, hl, h0, hs, hX => by
    have g1 := hg.1
    have g2 := hg.2.1
    have cl := hl c List.mem_cons_self
    have hseg : seg s N = seg s c.last ++ seg c.last N := (seg_append (by omega) cl).symm
    have l1 := seg_len s c.last
    have l2 := seg_len s c.first
    have i := rev_do (cs := r) (s := c.last) (X ++ seg s c.last) (hg.2.2.2.2.2.mono (by omega)) (fun d hd => hl d (List.mem_cons_of_mem _ hd)) (by omega) cl (by rw [List.length_append]; omega)
    rw [List.reverse_cons, doAll_app, hseg, ← List.append_assoc, i]
    show doG Tk.new c _ = X ++ (seg s c.first ++ (c.words.map Tk.new ++ appC N c.last r))
    unfold doG
    rw [List.drop_append_of_le_length (by rw [List.length_append]; omega), List.drop_of_length_le (by rw [List.length_append]; omega), List.nil_append]
    rw [← seg_append (show s ≤ c.first by omega) g2, ← List.append_assoc, List.append_assoc, List.append_assoc (X ++ seg s c.first), List.take_append_of_le_length (by rw [List.length_append]; omega), List.take_of_length_le (by rw [List.length_append]; omega)]
    simp only [List.append_assoc]
theorem rev_do0 {N : Int} {cs : List Ch} (hg : goodFrom (-1) cs) (hl : ∀ c ∈ cs, c.last ≤ N) (hN : 0 ≤ N) : doAll Tk.new cs.reverse (seg 0 N) = appC N 0 cs := by
  have := rev_do (N := N) (cs := cs) (s := 0) [] hg hl (Int.le_refl _) hN rfl
  simpa using this
theorem pv_nn {es : List Ed} (h : PatchV es) : 0 ≤ (patchV es).least := by
  rw [h.least]
  exact lst_le es 0 0
theorem pv_growth {es : List Ed} (h : PatchV es) (he : ∀ e ∈ es, e.ok) : (patchV es).growth = grow es := by
  have h0 := pv_nn h
  have a := appC_len (N := (patchV es).least) (cs := (patchV es).changes) (s := 0) h.good h.ends h0
  have b := doAll_len (nw := Tk.new) he (R := seg 0 (patchV es).least) (s := 0) (g := 0) (N := (patchV es).least) (by rw [h.least]; exact Int.le_refl _) (by rw [seg_len]; omega)
  rw [h.does _ (Int.le_refl _), b] at a
  have : (patchV es).growth = grow (patchV es).changes := rfl
  omega
/-- the edits of a patch do what it does -/
theorem pv_edits {es : List Ed} (h : PatchV es) (hr : PatchV (patchV es).changes.reverse) : (patchV (patchV es).changes.reverse).changes = (patchV es).changes := by
  have h1 := pv_nn h
  have h2 := pv_nn hr
  refine appC_inj (N := max (patchV es).least (patchV (patchV es).changes.reverse).least) hr.good h.good (fun c hc => ?_) (fun c hc => ?_) (by omega) ?_
  · have := hr.ends c hc; omega
  · have := h.ends c hc; omega
  · rw [hr.does _ (by omega), rev_do0 h.good (fun c hc => by have := h.ends c hc; omega) (by omega)]
theorem pv_least {a b : List Ed} (ha : PatchV a) (hb : PatchV b) (hw : PatchV (a ++ b)) (oa : ∀ e ∈ a, e.ok) : (patchV (a ++ b)).least = max (patchV a).least ((patchV b).least - grow a) := by
  have g0 := doAll_len (nw := Tk.new) oa (R := seg 0 (patchV a).least) (s := 0) (g := 0) (N := (patchV a).least) (by rw [ha.least]; exact Int.le_refl _) (by rw [seg_len]; have := pv_nn ha; omega)
  rw [hw.least, lst_app, ← ha.least, hb.least, Int.zero_add]
  have := lst_shift (patchV a).least (grow a) b 0 0
  rw [Int.add_zero] at this
  rw [← this]
  congr 1
  omega
/-- one patch behind another one -/
def behindV (p q : Pa) : Pa := ⟨(patchV (p.changes.reverse ++ q.changes.reverse)).changes, max (max (patchV (p.changes.reverse ++ q.changes.reverse)).least p.least) (q.least - p.growth)⟩
theorem behind_spec {a b : List Ed} (ha : PatchV a) (hb : PatchV b) (hw : PatchV (a ++ b)) (hc : PatchV ((patchV a).changes.reverse ++ (patchV b).changes.reverse)) (oa : ∀ e ∈ a, e.ok) : behindV (patchV a) (patchV b) = patchV (a ++ b) := by
  have n1 := pv_nn ha
  have n2 := pv_nn hb
  have n3 := pv_nn hw
  have n4 := pv_nn hc
  have hl := pv_least ha hb hw oa
  have hgr := pv_growth ha oa
  have e1 : (patchV ((patchV a).changes.reverse ++ (patchV b).changes.reverse)).changes = (patchV (a ++ b)).changes := by
    generalize hN : max (patchV (a ++ b)).least (patchV ((patchV a).changes.reverse ++ (patchV b).changes.reverse)).least = N
    refine appC_inj (N := N) hc.good hw.good (fun c h => ?_) (fun c h => ?_) (by omega) ?_
    · have := hc.ends c h; omega
    · have := hw.ends c h; omega
    · rw [hc.does N (by omega), hw.does N (by omega), doAll_app, doAll_app, rev_do0 ha.good (fun c h => by have := ha.ends c h; omega) (by omega), ha.does N (by omega)]
      have lR := doAll_len (nw := Tk.new) oa (R := seg 0 N) (s := 0) (g := 0) (N := N) (by rw [← ha.least]; omega) (by rw [seg_len]; omega)
      generalize doAll Tk.new a (seg 0 N) = R at lR
      rw [doAll_look, doAll_look (es := b), rev_do0 hb.good (fun c h => by have := hb.ends c h; omega) (by omega), hb.does _ (by omega)]
  have e2 : (patchV ((patchV a).changes.reverse ++ (patchV b).changes.reverse)).least ≤ max (patchV a).least ((patchV b).least - grow a) := by
    rw [hc.least, lst_app, grow_rev]
    have r1 := lst_rev (L := (patchV a).least) 0 0 ha.good ha.ends
    have r2 := lst_rev (L := (patchV b).least) (lst (patchV a).changes.reverse 0 0) (0 + grow (patchV a).changes) hb.good hb.ends
    have : grow (patchV a).changes = grow a := hgr
    omega
  unfold behindV
  rw [e1, hgr]
  have : max (max (patchV ((patchV a).changes.reverse ++ (patchV b).changes.reverse)).least (patchV a).least) ((patchV b).least - grow a) = (patchV (a ++ b)).least := by omega
  rw [this]
end K50

namespace K50
open PySem L2 Gd
abbrev sEditsD : Stmt := top 37
abbrev sDone : Stmt := top 38
abbrev sMarks : Stmt := top 39
abbrev sLeast : Stmt := top 40
theorem c_max3 {X : Cx} {a b c : Int} (hc : X.calm = true := by rfl) : CallE X (.builtin "max") [sLst sInt [a, b, c]] (sInt (max (max a b) c)) := by
  refine c_max (m := max (max a b) c) ?_ ?_ hc
  · simp only [List.mem_cons, List.not_mem_nil, or_false]
    omega
  · intro y hy
    simp only [List.mem_cons, List.not_mem_nil, or_false] at hy
    omega
theorem e_eqS {X : Cx} {δ : List (Option Slot)} {O O1 : List Own} {e : Expr} {s s' : Slot} (h : E X δ O e s O1) (hs : s = s') : E X δ O e s' O1 := hs ▸ h
/-! ### drawn edits -/
structure EsS where
  es : List Ed
  c : Int
  many : Int
def esStep (ns : List Int) (s : EsS) : EsS := ⟨s.es ++ [editV ns s.c s.many], editC ns s.c, s.many + (editV ns s.c s.many).growth⟩
def esAt (ns : List Int) (c many : Int) : Nat → EsS
  | 0 => ⟨[], c, many⟩
  | n + 1 => esStep ns (esAt ns c many n)
theorem editV_growth {ns : List Int} {c many : Int} (h : 0 ≤ many) : 0 ≤ many + (editV ns c many).growth := by
  have h1 := edFirst_lo (ns := ns) (c := c) h
  have h2 := edLast_hi (ns := ns) (c := c) h
  unfold Ed.growth
  show 0 ≤ many + (((editV ns c many).words.length : Int) - (edLast ns c many - edFirst ns c many))
  omega
structure EsOk (many : Int) (n : Nat) (s : EsS) : Prop where
  c0 : 0 ≤ s.c
  m0 : 0 ≤ s.many
  len : s.es.length = n
  ok : ∀ e ∈ s.es, e.ok ∧ e.words.length ≤ 2 ∧ ∀ t ∈ e.words, t ∈ six
  gr : s.many = many + grow s.es
  ls : lst s.es 0 0 ≤ many
theorem grow_one (e : Ed) : grow [e] = e.growth := by simp [grow]
theorem esAt_ok {ns : List Int} {c many : Int} (hc : 0 ≤ c) (hm : 0 ≤ many) : ∀ n, EsOk many n (esAt ns c many n)
  | 0 => ⟨hc, hm, rfl, (fun e he => by cases he), by simp [esAt, grow], hm⟩
  | n + 1 => by
    have i := esAt_ok (ns := ns) hc hm n
    have i1 := i.m0
    have i2 := i.gr
    have i3 := i.ls
    have hl := edLast_hi (ns := ns) (c := (esAt ns c many n).c) i.m0
    refine ⟨editC_lo i.c0, editV_growth i.m0, ?_, fun e he => ?_, ?_, ?_⟩
    · show (_ ++ [_]).length = _
      rw [List.length_append, i.len]
      rfl
    · (rcases List.mem_append.mp he with he | he)
      · exact i.ok e he
      · simp at he
        subst he
        exact ⟨editV_ok i.m0, editV_len, wordsV_six⟩
    · show _ + _ = many + grow (_ ++ [_])
      rw [grow_app, grow_one, i.gr, Int.add_assoc]
    · show K50.lst (_ ++ [_]) 0 0 ≤ many
      rw [lst_app]
      show max _ (edLast ns _ _ - (0 + grow _)) ≤ many
      omega
/-! ### the least number of words -/
def fitsB : List Ed → Int → Bool
  | [], _ => true
  | e :: r, n => decide (e.last ≤ n) && fitsB r (n + e.growth)
theorem fitsB_app : ∀ (a b : List Ed) (n : Int), fitsB (a ++ b) n = (fitsB a n && fitsB b (n + grow a))
  | [], b, n => by simp [fitsB, grow]
  | e :: r, b, n => by
    have : grow (e :: r) = e.growth + grow r := by simp [grow]
    show (_ && fitsB (r ++ b) _) = ((_ && _) && _)
    rw [fitsB_app r b, this, Bool.and_assoc, Int.add_assoc]
theorem lst_iff : ∀ (es : List Ed) (s g M : Int), lst es s g ≤ M ↔ s ≤ M ∧ fitsB es (M + g) = true
  | [], s, g, M => by simp [lst, fitsB]
  | e :: r, s, g, M => by
    show lst r _ _ ≤ M ↔ _
    rw [lst_iff r, ← Int.add_assoc]
    show _ ↔ _ ∧ (decide _ && fitsB r _) = true
    rw [Bool.and_eq_true, decide_eq_true_eq, ← and_assoc]
    refine and_congr_left fun _ => ?_
    omega
theorem fits_iff {es : List Ed} {M : Int} (h : 0 ≤ M) : fitsB es M = decide (lst es 0 0 ≤ M) := by
  have := lst_iff es 0 0 M
  rw [Int.add_zero] at this
  rw [Bool.eq_iff_iff, decide_eq_true_eq, this]
  exact ⟨fun h2 => ⟨h, h2⟩, fun h2 => h2.2⟩
/-! ### marks -/
def marks23 : List Str := ["dq", "eq", "fq", "gq", "hq", "iq", "jq", "kq", "lq", "mq", "nq", "oq", "pq", "qq", "rq", "sq", "tq", "uq", "vq", "wq", "xq", "yq", "zq"]
def mark (k : Nat) : Str := marks23.getD k ""
def marksV (n : Int) : List Str := (List.range n.toNat).map mark
def lettersM : Str := "defghijklmnopqrstuvwxyz"
def chM (k : Nat) : Nat := lettersM.cps.toList.getD k 0
theorem mark_eq : ∀ k, k < 23 → atI lettersM.cps.toList (k : Nat) = some (chM k) ∧ (⟨#[chM k]⟩ : Str) ++ ("q" : Str) = mark k := by
  have h : (List.range 23).all (fun k => decide (atI lettersM.cps.toList (k : Nat) = some (chM k)) && decide ((⟨#[chM k]⟩ : Str) ++ ("q" : Str) = mark k)) = true := by decide +kernel
  intro k hk
  have := List.all_eq_true.mp h k (List.mem_range.mpr hk)
  simpa using this
theorem marks_ok : ∀ k, k < 23 → isToken (mark k) = true ∧ (mark k).length ≤ 100000 := by
  have h : (List.range 23).all (fun k => isToken (mark k) && decide ((mark k).length ≤ 100000)) = true := by decide +kernel
  intro k hk
  have := List.all_eq_true.mp h k (List.mem_range.mpr hk)
  simpa using this
theorem mark_inj : ∀ i j, i < 23 → j < 23 → mark i = mark j → i = j := by
  have h : (List.range 23).all (fun i => (List.range 23).all fun j => decide (mark i = mark j → i = j)) = true := by decide +kernel
  intro i j hi hj
  exact of_decide_eq_true (List.all_eq_true.mp (List.all_eq_true.mp h i (List.mem_range.mpr hi)) j (List.mem_range.mpr hj))
theorem mark_six : ∀ i, i < 23 → mark i ∉ six := by
  have h : (List.range 23).all (fun i => decide (mark i ∉ six)) = true := by decide +kernel
  intro i hi
  have := List.all_eq_true.mp h i (List.mem_range.mpr hi)
  simpa using this
theorem marksV_len (n : Int) : (marksV n).length = n.toNat := by
  unfold marksV
  (rw [List.length_map, List.length_range])
theorem marksV_ok {n : Int} (h : n ≤ 23) : okWords (marksV n) := fun t ht => by
  obtain ⟨k, hk, rfl⟩ := List.mem_map.mp ht
  have := List.mem_range.mp hk
  exact marks_ok k (by omega)
section
variable {P : Program} {w : World} {K : Fg} {mg : Str → Option Value} {base : Heap} {C CP CQ : Addr}
theorem scCheckPatch : FnScope ["thing"] ["thing"] (defScope sCheckPatch) := ⟨rfl, rfl, rfl, by decide +kernel, rfl, by decide +kernel, by decide +kernel⟩
def fsCheckPatch (CP : Addr) : FS Pa := { args := fun p => [sPa CP p], pre := fun _ => True, res := fun _ => sNon }
theorem ok_checkPatch {f : Addr} {fd : FuncData} (F : Fun K "check_patch" "check_patch" sCheckPatch f fd) (b : Binds K fd ["thing"] []) (Cc : Cs K mg) (PC : PaC K mg CP) (CI : ClsI K CP) : DefOk P w K mg base 1 f [] (fsCheckPatch CP) := by
  refine fn_ok F scCheckPatch b .nil (fun _ => rfl) fun p cdv A outer s G H D EE hr hp hf hn => ?_
  refine j_if (O1 := []) (u := false) (t_eq (t_not (t_val (e_callB (c_isiC (k := true) (ty_ins CI) kit_self) Cc.isi (by decide +kernel) (ea_cons (e_name 0) (ea_cons (e_gref PC.gP) ea_nil))))) rfl) (fun h => nomatch h) (fun _ => j_on ?_)
  exact fin_end hf hn fun w hw => hw
theorem scBehind : FnScope ["one", "other", "whole"] ["one", "other"] (defScope sBehind) := ⟨rfl, rfl, rfl, by decide +kernel, rfl, by decide +kernel, by decide +kernel⟩
structure BehOk (i : Pa × Pa) : Prop where
  one : i.1.ok
  other : i.2.ok
  p : PatchOk (i.1.changes.reverse ++ i.2.changes.reverse)
  ok : (behindV i.1 i.2).ok
def fsBehind (CP : Addr) : FS (Pa × Pa) := { args := fun i => [sPa CP i.1, sPa CP i.2], pre := BehOk, res := fun i => sPa CP (behindV i.1 i.2) }
theorem ok_behind {f fK fP fE fG fI : Addr} {fd : FuncData} (F : Fun K "behind" "behind" sBehind f fd) (b : Binds K fd ["one", "other"] []) (zm : mg "max" = none) (PC : PaC K mg CP) (gK : mg "check_patch" = some (.ref fK)) (FK : DefOk P w K mg base 1 fK [] (fsCheckPatch CP)) (gF : mg "patch" = some (.ref fP)) (FP : DefOk P w K mg base 6 fP [] (fsPatch C CP))
    (mE : Meth K CP "edits" fE) (FE : DefOk P w K mg base 5 fE [] (fsPEdits C CP)) (mG : Meth K CP "growth" fG) (FG : DefOk P w K mg base 2 fG [] (fsPGrowth CP)) (MP : Mk K CP fI) (FI : DefOk P w K mg base 4 fI [] (fsPInit CP)) : DefOk P w K mg base 7 f [] (fsBehind CP) := by
  refine fn_ok F scBehind b .nil (fun _ => rfl) fun ⟨p, q⟩ cdv A outer s G H D EE hr hp hf hn => ?_
  have hp : BehOk (p, q) := hp
  have hr6 : Room 6 _ := hr
  have hr5 : Room 5 _ := hr.mono (by decide)
  (have hr2 : Room 2 _ := hr.mono (by decide))
  (have hr1 : Room 1 _ := hr.mono (by decide))
  refine j_expr (O1 := []) (e_call (O2 := []) (S := fsCheckPatch CP) p FK hr1 gK (ea_cons (e_name 0) ea_nil) trivial) ?_
  refine j_expr (O1 := []) (e_call (O2 := []) (S := fsCheckPatch CP) q FK hr1 gK (ea_cons (e_name 1) ea_nil) trivial) ?_
  have n1 := hp.one.2.1
  have n2 := hp.other.2.1
  have n1 : p.changes.length ≤ 1000 := n1
  have n2 : q.changes.length ≤ 1000 := n2
  refine j_set 2 (O1 := []) (s := sPa CP (patchV (p.changes.reverse ++ q.changes.reverse))) (e_call (S := fsPatch C CP) (O2 := []) (false, p.changes.reverse ++ q.changes.reverse) FP hr6 gF (ea_cons (s := sLst (sEd C) (p.changes.reverse ++ q.changes.reverse)) (e_lst (ew_lst ?_ (szl (by rw [List.length_append, List.length_reverse, List.length_reverse]; omega)))) ea_nil) (by exact hp.p)) ?_ scBehind.nd
  · rw [← List.append_nil q.changes.reverse]
    exact el_star (e_meth0 (S := fsPEdits C CP) (O2 := []) p FE hr5 PC.cl mE (e_name 0) (by exact hp.one)) (el_star (e_meth0 (S := fsPEdits C CP) (O2 := []) q FE hr5 PC.cl mE (e_name 1) (by exact hp.other)) el_nil)
  refine j_ret (O1 := []) (s := sPa CP (behindV p q)) (e_patch (behindV p q) MP FI hr5 PC.gP hp.ok (ea_cons (e_fld 0 PC.cl PC.nC (e_name 2)) (ea_cons (e_callB c_max3 zm (by decide +kernel) (ea_cons (e_lst (ew_lst (R := sInt) (el_cons (e_fld 1 PC.cl PC.nL (e_name 2)) (el_cons (e_fld 1 PC.cl PC.nL (e_name 0)) (el_cons (e_bin o_sub (e_fld 1 PC.cl PC.nL (e_name 1)) (e_meth0 (S := fsPGrowth CP) (O2 := []) p FG hr2 PC.cl mG (e_name 0) (by exact n1))) el_nil))) (szl (by simp)))) ea_nil)) ea_nil))) (fin_ret hf (fun w hw => hw) fun G v hv => hv)
theorem scEditsD : FnScope ["_law_draw_here", "_law_many", "_law_turns", "_law_found", "_law_turn", "_law_edit_here"] ["_law_draw_here", "_law_many", "_law_turns"] (defScope sEditsD) := ⟨rfl, rfl, rfl, by decide +kernel, rfl, by decide +kernel, by decide +kernel⟩
structure EdsI where
  dr : Addr
  ns : List Int
  c : Int
  many : Int
  turns : Int
def fsEditsD (C : Addr) : FS EdsI := { args := fun i => [sRef i.dr, sInt i.many, sInt i.turns], own := fun i => [dO i.dr i.ns i.c], pre := fun i => 0 ≤ i.c ∧ 0 ≤ i.many ∧ 0 ≤ i.turns ∧ i.turns ≤ 100, res := fun i => sLst (sEd C) (esAt i.ns i.c i.many i.turns.toNat).es, own' := fun i => [dO i.dr i.ns (esAt i.ns i.c i.many i.turns.toNat).c] }
theorem ok_editsD {f fE fG : Addr} {fd : FuncData} (F : Fun K "_law_edits" "_law_edits" sEditsD f fd) (b : Binds K fd ["_law_draw_here", "_law_many", "_law_turns"] []) (T : Bt mg) (EC : EdC K mg C)
    (gE : mg "_law_edit" = some (.ref fE)) (FE : DefOk P w K mg base 6 fE [] (fsEditD C)) (mG : Meth K C "growth" fG) (FG : DefOk P w K mg base 1 fG [] (fsGrowth C)) : DefOk P w K mg base 7 f [] (fsEditsD C) := by
  refine fn_ok F scEditsD b .nil (fun _ => rfl) fun ⟨dr, ns, c, many, turns⟩ cdv A outer s G H D EE hr hp hf hn => ?_
  have hp : 0 ≤ c ∧ 0 ≤ many ∧ 0 ≤ turns ∧ turns ≤ 100 := hp
  have hr6 : Room 6 _ := hr
  (have hr1 : Room 1 _ := hr.mono (by decide))
  refine j_setW (O1 := [dO dr ns c]) 3 (ew_lst (R := sEd C) (as := []) el_nil (szl (by simp))) (fun fr hfr => ?_) scEditsD.nd
  refine j_for (O1 := [oLst fr (sEd C) [], dO dr ns c]) (R := fun k : Nat => sInt k) (as := List.range turns.toNat) (fun n (g : Nat) => g = n) (fun g => [some (sRef dr), some (sInt (esAt ns c many g).many), some (sInt turns), some (sRef fr), none, none]) (fun g => [oLst fr (sEd C) (esAt ns c many g).es, dO dr ns (esAt ns c many g).c]) (fun k => [(4, sInt k)])
    (it_range (O1 := [oLst fr (sEd C) [], dO dr ns c]) T.range (e_name 2) (by omega) (by omega)) (tg_name 4 scEditsD.nd) ⟨0, rfl, fun _ _ _ _ h => h⟩ ?_ ?_
  · rintro B1 n k g hB hy rfl
    have i := esAt_ok (ns := ns) hp.1 hp.2.1 g
    have hg : g < turns.toNat := by
      have := (List.getElem?_eq_some_iff.mp hy).1
      rwa [List.length_range] at this
    have hlen := i.len
    have i1 := i.c0
    have i2 := i.m0
    have next : esAt ns c many (g + 1) = esStep ns (esAt ns c many g) := rfl
    generalize esAt ns c many g = st at i1 i2 hlen next
    obtain ⟨es, c', many'⟩ := st
    refine j_swap ?_
    refine j_set 5 (O1 := [dO dr ns (editC ns c'), oLst fr (sEd C) es]) (s := sEd C (editV ns c' many')) (e_call (S := fsEditD C) (O2 := [oLst fr (sEd C) es]) ⟨dr, ns, c', many'⟩ FE hr6 gE (ea_cons (e_name 0) (ea_cons (e_name 1) ea_nil)) (by exact ⟨i1, i2⟩)) ?_ scEditsD.nd
    refine j_expr (e_append (q := fr) (as := es) (R := sEd C) (y := editV ns c' many') 1 (e_name 3) (e_name 5) (Nat.lt_of_le_of_lt (show es.length ≤ 100000 by show es.length ≤ _; have hlen : es.length = g := hlen; omega) (by decide))) ?_
    refine j_swap ?_
    refine j_set 1 (O1 := [oLst fr (sEd C) (es ++ [editV ns c' many']), dO dr ns (editC ns c')]) (e_bin o_add (e_name 1) (e_meth0 (S := fsGrowth C) (O2 := [oLst fr (sEd C) (es ++ [editV ns c' many']), dO dr ns (editC ns c')]) (editV ns c' many') FG hr1 EC.cl mG (e_name 5) trivial)) (j_nil fun σ G H st => ⟨g + 1, G, rfl, ?_⟩) scEditsD.nd
    show Sta K B1 [_, some (sInt (esAt ns c many (g + 1)).many), _, _, _, _] [oLst fr (sEd C) (esAt ns c many (g + 1)).es, dO dr ns (esAt ns c many (g + 1)).c] σ G H
    rw [next]
    exact st.wk (.same (.same (.same (.same (.skip (.skip .nil))))))
  · rintro g rfl
    rw [List.length_range]
    have i := esAt_ok (ns := ns) hp.1 hp.2.1 turns.toNat
    refine j_freeze 3 (s := sLst (sEd C) (esAt ns c many turns.toNat).es) rfl hfr (fun K G o => frz_lst K G fr o) ?_
    exact j_ret (O1 := [dO dr ns (esAt ns c many turns.toNat).c]) (e_name 3) (fin_ret hf (fun w hw => hw) fun G v hv => hv)
theorem scDone : FnScope ["_law_edits_here", "_law_words_here", "_law_late", "_law_edit_here"] ["_law_edits_here", "_law_words_here"] (defScope sDone) := ⟨rfl, rfl, rfl, by decide +kernel, rfl, by decide +kernel, by decide +kernel⟩
def doneV (es : List Ed) (ws : List Str) : List Str := doAll id es ws
def fsDone (C : Addr) : FS (List Ed × List Str) := { args := fun i => [sLst (sEd C) i.1, sLst sStr i.2], pre := fun i => (∀ e ∈ i.1, e.ok ∧ e.words.length ≤ 2) ∧ i.1.length ≤ 20 ∧ i.2.length ≤ 200, res := fun i => sLst sStr (doneV i.1 i.2) }
theorem doneV_succ {es : List Ed} {ws : List Str} {n : Nat} {e : Ed} (h : es[n]? = some e) : doneV (es.take (n + 1)) ws = doG id e (doneV (es.take n) ws) := by
  rw [take_succ h]
  unfold doneV doAll
  rw [List.foldl_append]
  rfl
theorem doneAt_len {es : List Ed} {ws : List Str} (h : ∀ e ∈ es, e.ok ∧ e.words.length ≤ 2) (hw : ws.length ≤ 200) : ∀ n, n ≤ es.length → (doneV (es.take n) ws).length ≤ 200 + 2 * n
  | 0, _ => by simp [doneV, doAll]; exact hw
  | n + 1, hn => by
    have ih := doneAt_len h hw n (by omega)
    have hy := List.getElem?_eq_getElem (show n < es.length from hn)
    have he := h _ (List.getElem_mem (show n < es.length from hn))
    generalize es[n] = e at hy he
    have f1 := he.1.1.2
    have f2 := he.2
    rw [doneV_succ hy]
    generalize doneV (es.take n) ws = late at ih
    unfold doG
    rw [List.length_append, List.length_append, List.length_take, List.length_map, List.length_drop]
    omega
theorem ok_done {f : Addr} {fd : FuncData} (F : Fun K "_law_done" "_law_done" sDone f fd) (b : Binds K fd ["_law_edits_here", "_law_words_here"] []) (Cc : Cs K mg) (EC : EdC K mg C) : DefOk P w K mg base 1 f [] (fsDone C) := by
  refine fn_ok F scDone b .nil (fun _ => rfl) fun ⟨es, ws⟩ cdv A outer s G H D EE hr hp hf hn => ?_
  have hp : (∀ e ∈ es, e.ok ∧ e.words.length ≤ 2) ∧ es.length ≤ 20 ∧ ws.length ≤ 200 := hp
  refine j_set 2 (O1 := []) (s := sLst sStr ws) (e_lst (ew_callTy c_list Cc.list (by decide +kernel) (ea_cons (e_name 1) ea_nil))) ?_ scDone.nd
  refine j_for (O1 := []) (R := sEd C) (as := es) (fun n (g : Nat) => g = n) (fun g => [some (sLst (sEd C) es), some (sLst sStr ws), some (sLst sStr (doneV (es.take g) ws)), none]) (fun _ => []) (fun e => [(3, sEd C e)])
    (it_lst (e_name 0)) (tg_name 3 scDone.nd) ⟨0, rfl, fun _ _ _ _ h => h⟩ ?_ ?_
  · rintro B1 n e g hB hy rfl
    have hm := hp.1 e (List.mem_of_getElem? hy)
    have hg := (List.getElem?_eq_some_iff.mp hy).1
    have hlen := doneAt_len hp.1 hp.2.2 g (by omega)
    have f0 := hm.1.1.1
    have f1 := hm.1.1.2
    have next : doneV (es.take (g + 1)) ws = cutA (doneV (es.take g) ws) none (some e.first) ++ e.words ++ cutA (doneV (es.take g) ws) (some e.last) none := by
      rw [doneV_succ hy, cutA_take _ f0, cutA_drop _ (by omega)]
      unfold doG
      rw [List.map_id]
    generalize doneV (es.take g) ws = late at hlen next
    have h1 := cutA_len late none (some e.first)
    have h2 := cutA_len late (some e.last) none
    have h3 := hm.2
    refine j_set 2 (O1 := []) (s := sLst sStr (cutA late none (some e.first) ++ e.words ++ cutA late (some e.last) none)) (e_lst (ew_bin (o_cat (szl (by rw [List.length_append]; omega))) (e_lst (ew_bin (o_cat (szl (by omega))) (e_lst (ew_slice (e_name 2) po_n (po_s (e_fld 0 EC.cl EC.nF (e_name 3))))) (e_lst (ew_callTy c_listT Cc.list (by decide +kernel) (ea_cons (e_fld 2 EC.cl EC.nW (e_name 3)) ea_nil))))) (e_lst (ew_slice (e_name 2) (po_s (e_fld 1 EC.cl EC.nL (e_name 3))) po_n)))) (j_nil fun σ G H st => ⟨g + 1, G, rfl, ?_⟩) scDone.nd
    show Sta K B1 [_, _, some (sLst sStr (doneV (es.take (g + 1)) ws)), _] _ σ G H
    rw [next]
    exact st.wk (.same (.same (.same (.skip .nil))))
  · rintro g rfl
    rw [List.take_length]
    exact j_ret (O1 := []) (e_name 2) (fin_ret hf (fun w hw => hw) fun G v hv => hv)
theorem scMarks : FnScope ["_law_many", "_law_letters", "_law_at"] ["_law_many"] (defScope sMarks) := ⟨rfl, rfl, rfl, by decide +kernel, rfl, by decide +kernel, by decide +kernel⟩
def fsMarks : FS Int := { args := fun n => [sInt n], pre := fun n => 0 ≤ n ∧ n ≤ 23, res := fun n => sLst sStr (marksV n) }
theorem ok_marks {f : Addr} {fd : FuncData} (F : Fun K "_law_marks" "_law_marks" sMarks f fd) (b : Binds K fd ["_law_many"] []) (T : Bt mg) : DefOk P w K mg base 1 f [] fsMarks := by
  refine fn_ok F scMarks b .nil (fun _ => rfl) fun n cdv A outer s G H D EE hr hp hf hn => ?_
  have hp : 0 ≤ n ∧ n ≤ 23 := hp
  refine j_set 1 (O1 := []) (s := sStr lettersM) e_str ?_ scMarks.nd
  refine j_ret (O1 := []) (s := sLst sStr (marksV n)) (e_lst (ew_map (R := fun k : Nat => sInt k) (S := sStr) (as := List.range n.toNat) 2 mark scMarks.nd (it_range (O1 := []) T.range (e_name 0) (by omega) (by omega)) (blkOk_by (own := [("_law_at", 2)]) (N := ["_law_many", "_law_letters", "_law_at"]) (sc := defScope sMarks) (by decide +kernel))
    (fun y hy s H _ cl fp => ?_) (szl (by rw [List.length_range]; omega)))) (fin_ret hf (fun w hw => hw) fun G v hv => hv)
  have hy' := List.mem_range.mp hy
  have hy23 : y < 23 := by omega
  obtain ⟨m1, m2⟩ := mark_eq y hy23
  rw [← m2]
  have e1 : (y : Int) % 23 = (y : Int) := by omega
  have e2 : 1 + (y : Int) / 23 = 1 := by omega
  refine e_bin (O1 := []) (s1 := sStr ⟨#[chM y]⟩) (s2 := sStr "q") (o_addS (szl (by show 1 + (Str.ofString "q").length ≤ _; decide))) (e_ix (O1 := []) (i_str (z := lettersM) (i := (y : Nat)) m1 (by decide +kernel)) (e_name 1) ?_) (e_bin (O1 := []) (s2 := sInt 1) o_mulS1 e_str ?_)
  · exact e_eqS (e_bin (o_mod (by decide)) (e_name 2) e_int) (by rw [e1])
  · exact e_eqS (e_bin o_add e_int (e_bin (o_fdiv (i := (y : Nat)) (by exact ⟨by decide, by decide⟩)) (e_name 2) e_int)) (by rw [e2])
theorem scLeast : FnScope ["_law_edits_here", "_law_many", "_law_now", "_law_is_good", "_law_edit_here"] ["_law_edits_here"] (defScope sLeast) := ⟨rfl, rfl, rfl, by decide +kernel, rfl, by decide +kernel, by decide +kernel⟩
def fsLeast (C : Addr) : FS (List Ed) := { args := fun es => [sLst (sEd C) es], pre := fun es => lst es 0 0 < 60, res := fun es => sInt (lst es 0 0) }
theorem grow0 (n : Int) (es : List Ed) : n + grow (es.take 0) = n := by simp [grow]
theorem least0 {B : Bs} {a b : Option Slot} {n : Int} {es : List Ed} {σ : SS} {G H : Hp} (h : Sta K B [a, b, some (sInt n), some (sBl true), none] [] σ G H) : Sta K B [a, b, some (sInt (n + grow (es.take 0))), some (sBl true), none] [] σ G H := by
  rw [grow0]
  exact h
theorem ok_least {f fG : Addr} {fd : FuncData} (F : Fun K "_law_least" "_law_least" sLeast f fd) (b : Binds K fd ["_law_edits_here"] []) (T : Bt mg) (EC : EdC K mg C) (mG : Meth K C "growth" fG) (FG : DefOk P w K mg base 1 fG [] (fsGrowth C)) : DefOk P w K mg base 2 f [] (fsLeast C) := by
  refine fn_ok F scLeast b .nil (fun _ => rfl) fun es cdv A outer s G H D EE hr hp hf hn => ?_
  have hp : lst es 0 0 < 60 := hp
  have h0 := lst_le es 0 0
  have hr1 : Room 1 _ := hr
  refine j_for (O1 := []) (R := fun k : Nat => sInt k) (as := List.range (60 : Int).toNat) (fun n (g : Unit) => (n : Int) ≤ lst es 0 0) (fun _ => [some (sLst (sEd C) es), none, none, none, none]) (fun _ => []) (fun k => [(1, sInt k)])
    (it_range (O1 := []) T.range e_int (by omega) (by omega)) (tg_name 1 scLeast.nd) ⟨(), h0, fun _ _ _ _ h => h⟩ ?_ ?_
  · rintro B1 n k ⟨⟩ hB hy hle
    have hk : k = n := by
      obtain ⟨h1, h2⟩ := List.getElem?_eq_some_iff.mp hy
      rw [List.getElem_range] at h2
      exact h2.symm
    subst hk
    refine j_par (O1 := []) (s1 := sInt (k : Nat)) (s2 := sBl true) 2 3 (e_name 1) e_bl ?_ scLeast.nd
    refine j_for (O1 := []) (R := sEd C) (as := es) (fun n (g : Nat) => g = n) (fun g => [some (sLst (sEd C) es), some (sInt (k : Nat)), some (sInt ((k : Nat) + grow (es.take g))), some (sBl (fitsB (es.take g) (k : Nat))), none]) (fun _ => []) (fun e => [(4, sEd C e)])
      (it_lst (e_name 0)) (tg_name 4 scLeast.nd) ⟨0, rfl, fun _ _ _ _ h => least0 h⟩ ?_ ?_
    · rintro B2 n e g hB2 hy2 rfl
      refine j_set 3 (O1 := []) (e_and2 (e_name 3) (e_one (e_cmp o_le (e_fld 1 EC.cl EC.nL (e_name 4)) (e_name 2)))) ?_ scLeast.nd
      refine j_set 2 (O1 := []) (e_bin o_add (e_name 2) (e_meth0 (S := fsGrowth C) (O2 := []) e FG hr1 EC.cl mG (e_name 4) trivial)) (j_nil fun σ G H st => ⟨g + 1, G, rfl, ?_⟩) scLeast.nd
      have t1 : grow (es.take (g + 1)) = grow (es.take g) + e.growth := (sum_take_succ hy2).1
      have t2 : fitsB (es.take (g + 1)) (k : Nat) = (fitsB (es.take g) (k : Nat) && decide (e.last ≤ (k : Nat) + grow (es.take g))) := by
        rw [take_succ hy2, fitsB_app]
        simp [fitsB]
      show Sta K B2 [_, _, some (sInt ((k : Nat) + grow (es.take (g + 1)))), some (sBl (fitsB (es.take (g + 1)) (k : Nat))), _] _ σ G H
      rw [t1, t2, ← Int.add_assoc]
      exact st.wk (.same (.same (.same (.same (.skip .nil)))))
    · rintro g rfl
      rw [List.take_length]
      have hfit : fitsB es (k : Nat) = decide (lst es 0 0 ≤ (k : Nat)) := fits_iff (by omega)
      refine j_if (O1 := []) (t_val (e_name 3)) (fun h => ?_) (fun h => j_on (j_nil fun σ G H st => ⟨(), G, ?_, st.wk (.same (.skip (.skip (.skip (.skip .nil)))))⟩))
      · rw [hfit] at h
        have h : lst es 0 0 ≤ (k : Nat) := by simpa using h
        refine j_ret (O1 := []) (s := sInt (lst es 0 0)) ?_ (fin_ret (D := D) (hf.le hB) (fun w hw => hw) fun G v hv => hv)
        rw [show lst es 0 0 = ((k : Nat) : Int) by omega]
        exact e_name 1
      · rw [hfit] at h
        have h : ¬ lst es 0 0 ≤ (k : Nat) := by simpa using h
        show (((k + 1 : Nat) : Int)) ≤ _
        omega
  · rintro ⟨⟩ hle
    exfalso
    have : (List.range (60 : Int).toNat).length = 60 := List.length_range
    rw [this] at hle
    omega
end
end K50

/-! the patch, made and compared while an exception is handled; its call that raises; its walk -/
namespace K50
open PySem L2 Gd
open L2H (RoomH)
section
variable {X : Cx} {s1 s2 : Slot}
theorem unitsH {A : Around} {k : Nat} (hr : RoomH k A) : A.units + 64 < cLine := by have := hr.un; omega
theorem o_eqDH {d d' : PyData} {k : Nat} {w : Bool} (hr : RoomH k X.A) (h1 : IsD s1 d) (h2 : IsD s2 d') (hs1 : SeqAt.shaped d = true) (hs2 : SeqAt.shaped d' = true) (hw : PyData.eqv d d' = w) : OpE X (compareOp .Eq) s1 s2 (sBl w) :=
  ⟨_, op_eqD (unitsH hr), fun B δ O σ G H Q x y st hx hy k => ⟨d, d', dp_up st.stp.gh _ _ (h1 _ _ _ hx), dp_up st.stp.gh _ _ (h2 _ _ _ hy), hs1, hs2, k _ G H (Same.refl _) st (by rw [hw]; rfl)⟩⟩
theorem o_neDH {d d' : PyData} {k : Nat} {w : Bool} (hr : RoomH k X.A) (h1 : IsD s1 d) (h2 : IsD s2 d') (hs1 : SeqAt.shaped d = true) (hs2 : SeqAt.shaped d' = true) (hw : PyData.eqv d d' = w) : OpE X (compareOp .NotEq) s1 s2 (sBl (!w)) :=
  ⟨_, op_neD (unitsH hr), fun B δ O σ G H Q x y st hx hy k => ⟨d, d', dp_up st.stp.gh _ _ (h1 _ _ _ hx), dp_up st.stp.gh _ _ (h2 _ _ _ hy), hs1, hs2, k _ G H (Same.refl _) st (by rw [hw]; rfl)⟩⟩
theorem o_eqTH {k : Nat} (hr : RoomH k X.A) {ts us : List Str} (h1 : okStrs ts) (h2 : okStrs us) : OpE X (compareOp .Eq) (sTupl sStr ts) (sTupl sStr us) (sBl (decide (ts = us))) :=
  o_eqDH hr (isD_tupl fun _ => isD_str) (isD_tupl fun _ => isD_str) (shaped_tup (canAll_strs h1) (by rw [depthAll_strs]; decide)) (shaped_tup (canAll_strs h2) (by rw [depthAll_strs]; decide)) (eqv_tup eqv_str)
theorem o_eqChH {k : Nat} (hr : RoomH k X.A) {as bs : List Ch} (h1 : ∀ c ∈ as, okStrs c.words) (h2 : ∀ c ∈ bs, okStrs c.words) : OpE X (compareOp .Eq) (sTupl sCh as) (sTupl sCh bs) (sBl (decide (as = bs))) :=
  o_eqDH hr (chsD as h1).1 (chsD bs h2).1 (chsD as h1).2 (chsD bs h2).2 (eqv_tup eqv_ch)
theorem o_neChH {k : Nat} (hr : RoomH k X.A) {as bs : List Ch} (h1 : ∀ c ∈ as, okStrs c.words) (h2 : ∀ c ∈ bs, okStrs c.words) : OpE X (compareOp .NotEq) (sTupl sCh as) (sTupl sCh bs) (sBl (!decide (as = bs))) :=
  o_neDH hr (chsD as h1).1 (chsD bs h2).1 (chsD as h1).2 (chsD bs h2).2 (eqv_tup eqv_ch)
end
section
variable {P : Program} {w : World} {K : Fg} {mg : Str → Option Value} {base : Heap} {C CP CB : Addr}
theorem ok_isWordH {f : Addr} {fd : FuncData} (F : Fun K "is_word" "is_word" sIsWord f fd) (b : Binds K fd ["thing"] []) (T : Bt mg) (C : Cs K mg) : DefOkH P w K mg base 1 f fsIsWord := by
  obtain ⟨uk, gk, vk, rk, hk⟩ := C.kept
  obtain ⟨tl, gl⟩ := C.letters
  obtain ⟨tn, gn⟩ := C.longest
  refine fn_okH F scIsWord b (fun _ => rfl) fun t cdv A outer s G H D EE pw hr hot W hp hf hn => ?_
  have hp : t.length ≤ 100000 := hp
  have hz : t.length ≤ sizeLine := Nat.le_trans hp (by decide)
  refine j_if (O1 := []) (t_w (tw_or (t_not (t_val (e_callB (c_isi (n := "str") (k := true) ty_str (kit_ty (by decide +kernel))) C.isi (by decide +kernel) (ea_cons (e_name 0) (ea_cons (e_ty "str" C.str (by decide +kernel)) ea_nil)))))
    fun _ => tw_or (t_not (t_chain o_le (fun _ => o_le) e_int (e_callB (c_lenS hz) T.len PySem.boot_len (ea_cons (e_name 0) ea_nil)) (e_gint gn))) fun _ => tw_or1 (t_cmp o_inT (e_name 0) (e_glob gk rk hk)))) (fun h => ?_) (fun h => ?_)
  · have h : ¬ ((1 ≤ (t.length : Int) ∧ (t.length : Int) ≤ 10) ∧ t ∉ keptL) := by
      intro z
      simp [z.1.1, z.1.2, z.2] at h
    refine j_ret (s := sBl false) e_bl (fin_ret hf (fun w hw => hw) fun G v hv => ?_)
    show v = V.bl (isWord t)
    unfold isWord
    rw [if_neg h]
    exact hv
  · have h : (1 ≤ (t.length : Int) ∧ (t.length : Int) ≤ 10) ∧ t ∉ keptL := by
      simp only [Bool.or_eq_false_iff, Bool.not_eq_false', Bool.not_true, Bool.and_eq_true, decide_eq_true_eq, decide_eq_false_iff_not] at h
      exact ⟨h.2.1, h.2.2⟩
    refine j_on (j_ret (O1 := []) (e_callB (c_allW W) C.all (by decide +kernel) (ea_cons (e_lst (ew_mapW hot (by show pw ∈ [pw]; simp) (R := fun n : Nat => sStr ⟨#[n]⟩) (S := sBl) (as := t.cps.toList) 1 (fun n => decide (n ∈ letters.cps.toList)) scIsWord.nd (it_strW (e_name 0)) (blkOk_by (own := [("sign", 1)]) (N := ["thing", "sign"]) (sc := defScope sIsWord) (by decide +kernel))
      (fun y hy s H C cl fp hw => e_cmp o_inC (e_name 1) (e_gstr gl)) (by rw [len_toList]; exact hz))) ea_nil)) (fin_ret hf (fun w hw => hw) fun G v hv => ?_))
    show v = V.bl (isWord t)
    unfold isWord
    rw [if_pos h]
    have hv : v = V.bl ((t.cps.toList.map fun n => decide (n ∈ letters.cps.toList)).all id) := hv
    rw [hv, List.all_map]
    rfl
theorem ok_isTokenH {f fW : Addr} {fd : FuncData} (F : Fun K "is_token" "is_token" sIsToken f fd) (b : Binds K fd ["thing"] []) (C : Cs K mg) (gW : mg "is_word" = some (.ref fW)) (FW : DefOkH P w K mg base 1 fW fsIsWord) : DefOkH P w K mg base 2 f fsIsToken := by
  obtain ⟨us, gs, vs, rs, hs⟩ := C.signs
  refine fn_okH F scIsToken b (fun _ => rfl) fun t cdv A outer s G H D EE pw hr hot W hp hf hn => ?_
  refine j_ret (O1 := []) (e_and2 (e_callB (c_isi (n := "str") (k := true) ty_str (kit_ty (by decide +kernel))) C.isi (by decide +kernel) (ea_cons (e_name 0) (ea_cons (e_ty "str" C.str (by decide +kernel)) ea_nil)))
    (e_one (e_or2 (e_callW (S := fsIsWord) (O2 := []) W t FW hr gW (ea_cons (e_name 0) ea_nil) (by exact hp)) (e_or2 (e_cmp o_inT (e_name 0) (e_tupl (as := ["give", "let"]) (R := sStr) (el_cons e_str (el_cons e_str el_nil)) (by decide))) (e_one (e_cmp o_inT (e_name 0) (e_glob gs rs hs))))))) (fin_ret hf (fun w hw => hw) fun G v hv => hv)
theorem ok_areH {f fT : Addr} {fd : FuncData} (F : Fun K "are_changes" "are_changes" sAre f fd) (b : Binds K fd ["thing"] []) (T : Bt mg) (Cc : Cs K mg) (gT : mg "is_token" = some (.ref fT)) (FT : DefOkH P w K mg base 2 fT fsIsToken) : DefOkH P w K mg base 3 f fsAre := by
  refine fn_okH F scAre b (fun _ => rfl) fun cs cdv A outer s G H D EE pw hr hot W hp hf hn => ?_
  have hp : goodFrom (-1) cs ∧ cs.length ≤ 1000 := hp
  have hr2 : RoomH 2 _ := hr
  have hpn : pw ∈ (cxDH P w K mg base areN "are_changes" sAre f cdv A outer s H EE pw).pn := by show pw ∈ [pw]; simp
  refine j_if (O1 := []) (u := false) (t_eq (t_w (tw_or2 (t_not (t_val (e_callB (c_isi (n := "tuple") (k := true) ty_tupl (kit_ty (by decide +kernel))) Cc.isi (by decide +kernel) (ea_cons (e_name 0) (ea_cons (e_ty "tuple" Cc.tuple (by decide +kernel)) ea_nil)))))
    (tw_or1 (t_not (t_val (e_callB (c_allW W) Cc.all (by decide +kernel) (ea_cons (e_lst (ew_mapW hot hpn (R := sCh) (S := sBl) (as := cs) 1 (fun _ => true) scAre.nd (it_tuplW (e_name 0)) (blkOk_by (own := [("row", 1)]) (N := areN) (sc := defScope sAre) (by decide +kernel))
      (fun y hy s H _ cl fp hw => e_and2 (e_callB (c_isi (n := "tuple") (k := true) ty_tup (kit_ty (by decide +kernel))) Cc.isi (by decide +kernel) (ea_cons (e_name 1) (ea_cons (e_ty "tuple" Cc.tuple (by decide +kernel)) ea_nil)))
        (e_one (e_cmp o_eq (e_callB (c_lenTup (ss := [sInt y.first, sInt y.last, sTupl sStr y.words])) T.len PySem.boot_len (ea_cons (e_name 1) ea_nil)) e_int))) (szl (by omega)))) ea_nil))))))) (by
    have : (List.map (fun _ => true) cs).all id = true := by simp
    rw [this]
    rfl)) (fun h => nomatch h) (fun _ => j_on ?_)
  refine j_set 2 (O1 := []) (e_neg e_int) ?_ scAre.nd
  refine j_forW W (O1 := []) (R := sCh) (as := cs) (fun n (g : Nat) => g = n) (fun g => [some (sTupl sCh cs), none, some (sInt (endAt cs g)), none, none, none, none, none]) (fun _ => []) (fun c => [(3, sInt c.first), (4, sInt c.last), (5, sTupl sStr c.words)])
    (it_tuplW (e_name 0)) (tg_tup3W W (r1 := fun c : Ch => sInt c.first) (r2 := fun c : Ch => sInt c.last) (r3 := fun c : Ch => sTupl sStr c.words) 3 4 5 scAre.nd) ⟨0, rfl, fun _ _ _ _ h => h⟩ ?_ ?_
  · rintro B1 n c g hB hy rfl
    obtain ⟨a1, a2, a3, a4, a5, a6⟩ := good_at hp.1 hy
    have he : endAt cs g < c.first := by
      rcases Nat.eq_zero_or_pos g with z | z
      · subst z
        simpa [endAt] using a1 rfl
      · exact a2 z
    refine j_if (O1 := []) (u := false) (t_eq (t_not (t_val (e_callB (c_allW W) Cc.all (by decide +kernel) (ea_cons (e_lst (ew_mapW hot hpn (R := sInt) (S := sBl) (as := [c.first, c.last]) 6 (fun _ => true) scAre.nd (it_tuplW (e_tupl (el_cons (e_name 3) (el_cons (e_name 4) el_nil)) (szl (by simp))))
      (blkOk_by (own := [("one", 6)]) (N := areN) (sc := defScope sAre) (by decide +kernel)) (fun y hy _ _ _ _ _ hw => ?_) (szl (by simp)))) ea_nil)))) (by rfl)) (fun h => nomatch h) (fun _ => j_on ?_)
    · exact e_and2 (e_callB (c_isi (n := "int") (k := true) ty_int (kit_ty (by decide +kernel))) Cc.isi (by decide +kernel) (ea_cons (e_name 6) (ea_cons (e_ty "int" Cc.int (by decide +kernel)) ea_nil)))
        (e_one (e_not (e_callB (c_isi (n := "bool") (k := false) ty_int (kit_ty (by decide +kernel))) Cc.isi (by decide +kernel) (ea_cons (e_name 6) (ea_cons (e_ty "bool" Cc.bool (by decide +kernel)) ea_nil)))))
    refine j_if (O1 := []) (u := false) (t_eq (t_w (tw_or2 (t_not (t_chain o_lt (fun _ => o_le) (e_name 2) (e_name 3) (e_name 4))) (tw_or2 (t_not (t_val (e_callB (c_isi (n := "tuple") (k := true) ty_tupl (kit_ty (by decide +kernel))) Cc.isi (by decide +kernel) (ea_cons (e_name 5) (ea_cons (e_ty "tuple" Cc.tuple (by decide +kernel)) ea_nil)))))
      (tw_or1 (t_not (t_val (e_callB (c_allW W) Cc.all (by decide +kernel) (ea_cons (e_lst (ew_mapW hot hpn (R := sStr) (S := sBl) (as := c.words) 7 (fun t => isToken t) scAre.nd (it_tuplW (e_name 5))
        (blkOk_by (own := [("word", 7)]) (N := areN) (sc := defScope sAre) (by decide +kernel)) (fun y hy _ _ _ _ _ hw => ?_) (szl (by omega)))) ea_nil)))))))) ?_) (fun h => nomatch h) (fun _ => j_on ?_)
    · exact e_callW (S := fsIsToken) (O2 := []) hw y FT hr2 gT (ea_cons (e_name 7) ea_nil) (by exact (a4 y hy).2)
    · have : (List.map (fun t => isToken t) c.words).all id = true := by
        rw [List.all_map, List.all_eq_true]
        exact fun t ht => (a4 t ht).1
      rw [this]
      simp [he, a3]
    refine j_if (O1 := []) (u := false) (t_eq (t_w (tw_and2 (t_cmp o_eq (e_name 3) (e_name 4)) (tw_and1 (t_cmp (o_eqTH (us := []) hr a4.str (fun t ht => by cases ht)) (e_name 5) (e_tupl (R := sStr) (as := []) el_nil (szl (by simp))))))) ?_) (fun h => nomatch h) (fun _ => j_on ?_)
    · cases e1 : decide (c.first = c.last) with
      | false => rfl
      | true =>
        cases e2 : decide (c.words = []) with
        | false => rfl
        | true => exact absurd ⟨of_decide_eq_true e1, of_decide_eq_true e2⟩ a6
    refine j_set 2 (O1 := []) (e_name 4) (j_nil fun σ G H st => ⟨g + 1, G, rfl, ?_⟩) scAre.nd
    show Sta K B1 [_, _, some (sInt (endAt cs (g + 1))), _, _, _, _, _] _ σ G H
    rw [endAt_succ hy]
    exact st.wk (.same (.same (.same (.skip (.skip (.skip (.same (.same .nil))))))))
  · rintro g rfl
    exact j_ret (O1 := []) e_bl (fin_ret hf (fun w hw => hw) fun G v hv => hv)
theorem ok_pinitH {f fA : Addr} {fd : FuncData} (F : Fun K "__init__" "Patch.__init__" sPInit f fd) (b : Binds K fd ["self", "changes", "least"] []) (Cc : Cs K mg) (PC : PaC K mg CP) (gA : mg "are_changes" = some (.ref fA)) (FA : DefOkH P w K mg base 3 fA fsAre) : DefOkH P w K mg base 4 f (fsPInit CP) := by
  refine fn_okH F scPInit b (fun _ => rfl) fun ⟨x, p⟩ cdv A outer s G H D EE pw hr hot W hp hf hn => ?_
  have hp : p.ok := hp
  refine j_if (O1 := [oIns x CP []]) (u := false) (t_eq (t_not (t_val (e_callW (S := fsAre) (O2 := [oIns x CP []]) W p.changes FA hr gA (ea_cons (e_name 1) ea_nil) ⟨hp.1, hp.2.1⟩))) rfl) (fun h => nomatch h) (fun _ => j_on ?_)
  refine j_if (O1 := [oIns x CP []]) (u := false) (t_eq (t_w (tw_or2 (t_not (t_val (e_callB (c_isi (n := "int") (k := true) ty_int (kit_ty (by decide +kernel))) Cc.isi (by decide +kernel) (ea_cons (e_name 2) (ea_cons (e_ty "int" Cc.int (by decide +kernel)) ea_nil)))))
    (tw_or2 (t_val (e_callB (c_isi (n := "bool") (k := false) ty_int (kit_ty (by decide +kernel))) Cc.isi (by decide +kernel) (ea_cons (e_name 2) (ea_cons (e_ty "bool" Cc.bool (by decide +kernel)) ea_nil))))
    (tw_or1 (t_cmp o_lt (e_name 2) (e_ife (s := sInt (lastEnd p.changes)) (φ := fun _ => sNon) (t_cmp (o_neChH (bs := []) hr hp.str (fun c hc => by cases hc)) (e_name 1) (e_tupl (R := sCh) (as := []) el_nil (szl (by simp)))) (fun h => ?_) (fun h => ?_))))))) ?_) (fun h => nomatch h) (fun _ => j_on ?_)
  · have h : p.changes ≠ [] := by simpa using h
    cases e : p.changes.getLast? with
    | none => rw [List.getLast?_eq_none_iff] at e; exact absurd e h
    | some c =>
      have el : lastEnd p.changes = c.last := by unfold lastEnd; rw [e]
      rw [el]
      exact e_ix (i_tup (ss := [sInt c.first, sInt c.last, sTupl sStr c.words]) 1 rfl rfl) (e_ix (i_tupl (R := sCh) (y := c) (atI_neg1 e)) (e_name 1) (e_neg e_int)) e_int
  · have h : p.changes = [] := by simpa using h
    have el : lastEnd p.changes = 0 := by rw [h]; rfl
    rw [el]
    exact e_int
  · have := hp.2.2
    simp
    omega
  refine j_fld (O1 := [oIns x CP []]) (O2 := [oIns x CP []]) 0 (e_name 1) (e_name 0) PC.cl PC.nC ?_
  refine j_fld (O1 := [oIns x CP [("changes", sTupl sCh p.changes)]]) (O2 := [oIns x CP [("changes", sTupl sCh p.changes)]]) 0 (e_name 2) (e_name 0) PC.cl PC.nL ?_
  exact fin_end hf hn fun w hw => hw
theorem ok_peqH {f : Addr} {fd : FuncData} (F : Fun K "__eq__" "Patch.__eq__" sPEq f fd) (b : Binds K fd ["self", "other"] []) (Cc : Cs K mg) (PC : PaC K mg CP) (CI : ClsI K CP) : DefOkH P w K mg base 1 f (fsPEq CP) := by
  refine fn_okH F scPEq b (fun _ => rfl) fun ⟨p, q⟩ cdv A outer s G H D EE pw hr hot W hp hf hn => ?_
  have hp : p.ok ∧ q.ok := hp
  refine j_ret (O1 := []) (e_and2 (e_callB (c_isiC (k := true) (ty_ins CI) kit_self) Cc.isi (by decide +kernel) (ea_cons (e_name 1) (ea_cons (e_gref PC.gP) ea_nil))) (e_and2 (e_cmp (o_eqChH hr hp.1.str hp.2.str) (e_fld 0 PC.cl PC.nC (e_name 0)) (e_fld 0 PC.cl PC.nC (e_name 1)))
    (e_one (e_cmp o_eq (e_fld 1 PC.cl PC.nL (e_name 0)) (e_fld 1 PC.cl PC.nL (e_name 1)))))) (fin_ret hf (fun w hw => hw) fun G v hv => ?_)
  have hv : v = V.bl (true && (decide (p.changes = q.changes) && decide (p.least = q.least))) := hv
  show v = V.bl (decide (p = q))
  rw [hv]
  congr 1
  rw [Bool.eq_iff_iff]
  cases p
  cases q
  simp
theorem scPIter : FnScope ["self"] ["self"] (defScope sPIter) := ⟨rfl, rfl, rfl, by decide +kernel, rfl, by decide +kernel, by decide +kernel⟩
theorem ok_piter {f : Addr} {fd : FuncData} (F : Fun K "__iter__" "Patch.__iter__" sPIter f fd) (b : Binds K fd ["self"] []) (PC : PaC K mg CP) (zi : mg "iter" = none) : FnR P w K mg base CX0 1 f (spIter CP "changes" K) := by
  have h : FnOk P w K mg base CX0 1 f fd ["self"] (spIter CP "changes" K) := by
    refine F.ok scPIter (fun vs H Q E hsp => ?_) (fun cdv A outer s H vs Q E hr hsp => ?_)
    · obtain ⟨a, dx, fs, t, zs, rfl, _⟩ := hsp
      rfl
    · obtain ⟨a, dx, fs, t, zs, rfl, ha, hf, hq, hQ⟩ := hsp
      refine ⟨_, pss_one (ps_ret (pe_callB call_iterT rfl zi (by decide +kernel) (pa_cons (pe_fld (pv 0) rfl) pa_nil))), ?_⟩
      exact ⟨_, rfl, a, CP, dx, fs, .ref t, rfl, ha, PC.cl, PC.nC, hf, t, zs, rfl, hq, fun it hit => hQ it hit⟩
  exact (h.raw b .nil).imp fun vs H Q E h => by rwa [List.append_nil]
/-- the call with too few words -/
def frPCall (CP : Addr) : FR (Pa × Bool × List Str) := { args := fun i => [sPa CP i.1, sWs i.2.1 i.2.2], pre := fun i => okWords i.2.2 ∧ i.2.2.length ≤ 200 ∧ (i.2.2.length : Int) < i.1.least }
theorem ok_pcallR {f fK : Addr} {fd : FuncData} (F : Fun K "__call__" "Patch.__call__" sPCall f fd) (b : Binds K fd ["self", "words"] []) (T : Bt mg) (PC : PaC K mg CP) (BE : ExcC K mg "BadEdit" CB) (gK : mg "check_words" = some (.ref fK)) (FK : DefOk P w K mg base 3 fK [.bl false, .int 200] fsCheck) : DefOkR P w K mg base 4 f CB (frPCall CP) := by
  refine fn_okR F scPCall b (fun _ => rfl) fun ⟨p, tup, ws⟩ cdv A outer s G H D EE hr hp hE => ?_
  have hp : okWords ws ∧ ws.length ≤ 200 ∧ (ws.length : Int) < p.least := hp
  have len : CallE (cxR P w K mg base ["self", "words", "found", "start", "first", "last", "new"] "Patch.__call__" sPCall f cdv A outer s H EE) (.builtin "len") [sWs tup ws] (sInt ws.length) := by
    cases tup with
    | false => exact c_len
    | true => exact c_lenT
  refine j_expr (O1 := []) (e_call (O2 := []) (S := fsCheck) (tup, ws) FK hr gK (ea_cons (e_name 1) ea_nil) ⟨hp.1, hp.2.1⟩) ?_
  refine j_if (O1 := []) (u := true) (t_eq (t_cmp o_lt (e_callB len T.len PySem.boot_len (ea_cons (e_name 1) ea_nil)) (e_fld 1 PC.cl PC.nL (e_name 0))) (decide_eq_true hp.2.2)) (fun _ => ?_) (fun h => nomatch h)
  exact j_raise BE fun σ G' H' st => hE G' H' st.stp
end
end K50

/-! the law's words: plain mathematics -/
namespace K50
open PySem L2 Gd
/-- drawn edits -/
structure DrOk (many : Int) (es : List Ed) : Prop where
  ok : ∀ e ∈ es, e.ok ∧ e.words.length ≤ 2 ∧ ∀ t ∈ e.words, t ∈ six
  ls : lst es 0 0 ≤ many
  few : es.length ≤ 8
theorem wsum'_le {es : List Ed} (h : ∀ e ∈ es, e.words.length ≤ 2) : wsum' es ≤ 2 * es.length := by
  induction es with
  | nil => simp [wsum']
  | cons e es ih =>
    have h1 := h e List.mem_cons_self
    have h2 := ih fun d hd => h d (List.mem_cons_of_mem _ hd)
    have : wsum' (e :: es) = e.words.length + wsum' es := by simp [wsum']
    rw [List.length_cons]
    omega
theorem DrOk.edok {many : Int} {es : List Ed} (h : DrOk many es) : ∀ e ∈ es, e.ok := fun e he => (h.ok e he).1
theorem DrOk.pv {many : Int} {es : List Ed} (h : DrOk many es) : PatchV es ∧ PatchOk es := by
  have hw := wsum'_le fun e he => (h.ok e he).2.1
  have hf := h.few
  obtain ⟨a, b⟩ := patch_spec h.edok (by omega) (fun e he => by have := (h.ok e he).2.1; omega)
  exact ⟨a, b (by omega)⟩
theorem DrOk.count {many : Int} {es : List Ed} (h : DrOk many es) : (patchV es).changes.length ≤ 4 * es.length + 1 ∧ wsum (patchV es).changes ≤ 4 * es.length + 1 := by
  have hw := wsum'_le fun e he => (h.ok e he).2.1
  have := h.pv.1.few
  have := h.pv.1.words
  omega
theorem DrOk.least {many : Int} {es : List Ed} (h : DrOk many es) : 0 ≤ (patchV es).least ∧ (patchV es).least ≤ many := ⟨pv_nn h.pv.1, by rw [h.pv.1.least]; exact h.ls⟩
theorem es_dr {ns : List Int} {c many : Int} (hc : 0 ≤ c) (hm : 0 ≤ many) {n : Nat} (hn : n ≤ 8) : DrOk many (esAt ns c many n).es :=
  ⟨(esAt_ok hc hm n).ok, (esAt_ok hc hm n).ls, by rw [(esAt_ok hc hm n).len]; exact hn⟩
theorem nil_ok : (Ed.mk 0 0 []).ok := ⟨⟨Int.le_refl _, Int.le_refl _⟩, fun t ht => (by cases ht), by show 0 ≤ 100000; omega⟩
theorem DrOk.more {many : Int} {es : List Ed} (h : DrOk many es) (hf : es.length ≤ 7) (hg : 0 ≤ many + grow es) : DrOk many (es ++ [⟨0, 0, []⟩]) := by
  refine ⟨fun e he => ?_, ?_, ?_⟩
  · (rcases List.mem_append.mp he with he | he)
    · exact h.ok e he
    · simp at he
      subst he
      exact ⟨nil_ok, by simp, fun t ht => by cases ht⟩
  · rw [lst_app]
    have := h.ls
    show max (lst es 0 0) (0 - (0 + grow es)) ≤ many
    omega
  · rw [List.length_append]
    (simp only [List.length_cons, List.length_nil])
    omega
theorem DrOk.app {many : Int} {a b : List Ed} (ha : DrOk many a) (hb : DrOk (many + grow a) b) (hl : a.length + b.length ≤ 8) : DrOk many (a ++ b) := by
  refine ⟨fun e he => (List.mem_append.mp he).elim (ha.ok e) (hb.ok e), ?_, by rw [List.length_append]; omega⟩
  have g0 := doAll_len (nw := Tk.new) ha.edok (R := seg 0 many) (s := 0) (g := 0) (N := many) ha.ls (by rw [seg_len]; have := lst_le a 0 0; have := ha.ls; omega)
  rw [lst_app, Int.zero_add]
  have hs := lst_shift many (grow a) b 0 0
  rw [Int.add_zero] at hs
  have h1 := ha.ls
  have h2 := hb.ls
  have mono : ∀ (b : List Ed) (s t g : Int), s ≤ t → lst b s g ≤ lst b t g := by
    intro b
    induction b with
    | nil => intro s t g h; exact h
    | cons e r ih =>
      intro s t g h
      exact ih _ _ _ (by omega)
  have m := mono b (lst a 0 0) (max many (0 - grow a)) (grow a) (by omega)
  rw [hs] at m
  omega
/-! ### a patch done on words -/
theorem seg_map {ws : List Str} {a b : Int} (h0 : 0 ≤ a) (h1 : a ≤ b) (h2 : b ≤ ws.length) : (seg a b).map (look id ws) = cutA ws (some a) (some b) := by
  rw [cutA_mid _ h0 (by omega)]
  have hs := seg_append h1 h2
  have hl := look_seg' id ws a.toNat (ws.length - a.toNat) (by omega)
  rw [show ((a.toNat : Nat) : Int) = a by omega, ← hs, List.map_append] at hl
  have hlen : ((seg a b).map (look id ws)).length = b.toNat - a.toNat := by rw [List.length_map, seg_len]; omega
  rw [← hl, List.take_append_of_le_length (by omega), List.take_of_length_le (by omega)]
theorem seg_mapE {ws : List Str} {a : Int} (h0 : 0 ≤ a) (h2 : a ≤ ws.length) : (seg a ws.length).map (look id ws) = cutA ws (some a) none := by
  rw [cutA_drop _ h0]
  have hl := look_seg' id ws a.toNat (ws.length - a.toNat) (by omega)
  rwa [show ((a.toNat : Nat) : Int) = a by omega] at hl
theorem run_app {ws : List Str} : ∀ {cs : List Ch} {s : Int} (acc : List Str), goodFrom (s - 1) cs → (∀ c ∈ cs, c.last ≤ ws.length) → 0 ≤ s → s ≤ ws.length → (cs.foldl (runStep ws) (acc, s)).1 ++ cutA ws (some (cs.foldl (runStep ws) (acc, s)).2) none = acc ++ (appC ws.length s cs).map (look id ws)
  | [], s, acc, _, _, h0, hs => by
    show acc ++ cutA ws (some s) none = acc ++ (seg s ws.length).map (look id ws)
    rw [seg_mapE h0 hs]
  | c :: r, s, acc, hg, hl, h0, hs => by
    have g1 := hg.1
    have g2 := hg.2.1
    have cl := hl c List.mem_cons_self
    have i := run_app (ws := ws) (cs := r) (s := c.last) (acc ++ (cutA ws (some s) (some c.first) ++ c.words)) (hg.2.2.2.2.2.mono (by omega)) (fun d hd => hl d (List.mem_cons_of_mem _ hd)) (by omega) cl
    rw [List.foldl_cons]
    refine i.trans ?_
    show _ = acc ++ (seg s c.first ++ (c.words.map Tk.new ++ appC ws.length c.last r)).map (look id ws)
    rw [List.map_append, List.map_append, seg_map h0 (by omega) (by omega), List.map_map, List.append_assoc, List.append_assoc]
    congr 3
    exact (List.map_id _).symm
theorem pv_run {many : Int} {es : List Ed} (h : DrOk many es) {ws : List Str} (hw : (patchV es).least ≤ ws.length) : (patchV es).run ws = doneV es ws ∧ doneV es ws = (appC ws.length 0 (patchV es).changes).map (look id ws) := by
  have hp := h.pv.1
  have h0 := pv_nn hp
  have e2 : doneV es ws = (appC ws.length 0 (patchV es).changes).map (look id ws) := by
    rw [hp.does _ hw]
    exact doAll_look id es ws
  refine ⟨?_, e2⟩
  rw [e2]
  have := run_app (ws := ws) (cs := (patchV es).changes) (s := 0) [] hp.good (fun c hc => by have := hp.ends c hc; omega) (Int.le_refl _) (by omega)
  unfold Pa.run runAt
  rw [List.take_length]
  simpa using this
theorem doneV_ok {es : List Ed} (h : ∀ e ∈ es, e.ok) {ws : List Str} (hw : okWords ws) : okWords (doneV es ws) := by
  induction es generalizing ws with
  | nil => exact hw
  | cons e r ih =>
    refine ih (fun d hd => h d (List.mem_cons_of_mem _ hd)) (ws := doG id e ws) fun t ht => ?_
    unfold doG at ht
    rcases List.mem_append.mp ht with ht | ht
    · rcases List.mem_append.mp ht with ht | ht
      · exact hw t (List.mem_of_mem_take ht)
      · rw [List.map_id] at ht
        exact (h e List.mem_cons_self).2.1 t ht
    · exact hw t (List.mem_of_mem_drop ht)
theorem DrOk.fits {many : Int} {es : List Ed} (h : DrOk many es) {ws : List Str} (ho : okWords ws) (hl : ws.length ≤ 200) (hm : many ≤ ws.length) : (patchV es).fits ws := ⟨h.pv.2.ok, ho, hl, by have := h.least; omega⟩
/-! ### marks tell everything -/
def TokOk (N : Int) : Tk → Prop
  | .old i => 0 ≤ i ∧ i < N
  | .new t => t ∈ six
theorem seg_tok {N a : Int} (h0 : 0 ≤ a) : ∀ x ∈ seg a N, TokOk N x := fun x hx => by
  obtain ⟨k, hk, rfl⟩ := List.mem_map.mp hx
  have := List.mem_range.mp hk
  show 0 ≤ a + (k : Int) ∧ a + (k : Int) < N
  omega
theorem doAll_tok {N : Int} : ∀ {es : List Ed} {R : List Tk}, (∀ e ∈ es, ∀ t ∈ e.words, t ∈ six) → (∀ x ∈ R, TokOk N x) → ∀ x ∈ doAll Tk.new es R, TokOk N x
  | [], R, _, h, x, hx => h x hx
  | e :: r, R, he, h, x, hx => by
    refine doAll_tok (es := r) (R := doG Tk.new e R) (fun d hd => he d (List.mem_cons_of_mem _ hd)) (fun y hy => ?_) x hx
    unfold doG at hy
    (rcases List.mem_append.mp hy with hy | hy)
    · rcases List.mem_append.mp hy with hy | hy
      · exact h y (List.mem_of_mem_take hy)
      · obtain ⟨t, ht, rfl⟩ := List.mem_map.mp hy
        exact he e List.mem_cons_self t ht
    · exact h y (List.mem_of_mem_drop hy)
theorem look_mark {N : Int} (hN : N ≤ 23) {i : Int} (h0 : 0 ≤ i) (h1 : i < N) : look id (marksV N) (.old i) = mark i.toNat ∧ i.toNat < 23 := by
  refine ⟨?_, by omega⟩
  show (marksV N).getD i.toNat _ = _
  unfold marksV
  rw [List.getD_eq_getElem?_getD, List.getElem?_map, List.getElem?_range (by omega)]
  rfl
theorem look_inj {N : Int} (hN : N ≤ 23) {x y : Tk} (hx : TokOk N x) (hy : TokOk N y) (h : look id (marksV N) x = look id (marksV N) y) : x = y := by
  cases x with
  | old i =>
    obtain ⟨e1, l1⟩ := look_mark hN hx.1 hx.2
    rw [e1] at h
    cases y with
    | old j =>
      obtain ⟨e2, l2⟩ := look_mark hN hy.1 hy.2
      rw [e2] at h
      have := mark_inj _ _ l1 l2 h
      have a := hx.1
      have b := hy.1
      congr 1
      omega
    | new t =>
      exfalso
      have h : mark i.toNat = t := h
      exact mark_six _ l1 (h ▸ hy)
  | new t =>
    cases y with
    | old j =>
      obtain ⟨e2, l2⟩ := look_mark hN hy.1 hy.2
      rw [e2] at h
      exfalso
      have h : t = mark j.toNat := h
      exact mark_six _ l2 (h ▸ hx)
    | new u =>
      have h : t = u := h
      rw [h]
theorem map_inj_on {α β : Type} {f : α → β} {P : α → Prop} (hf : ∀ x y, P x → P y → f x = f y → x = y) : ∀ {xs ys : List α}, (∀ x ∈ xs, P x) → (∀ y ∈ ys, P y) → xs.map f = ys.map f → xs = ys
  | [], [], _, _, _ => rfl
  | [], y :: ys, _, _, h => by cases h
  | x :: xs, [], _, _, h => by cases h
  | x :: xs, y :: ys, hx, hy, h => by
    (rw [List.map_cons, List.map_cons] at h)
    injection h with h1 h2
    rw [hf x y (hx x List.mem_cons_self) (hy y List.mem_cons_self) h1, map_inj_on hf (fun z hz => hx z (List.mem_cons_of_mem _ hz)) (fun z hz => hy z (List.mem_cons_of_mem _ hz)) h2]
theorem alike {many N : Int} {a b : List Ed} (ha : DrOk many a) (hb : DrOk many b) (h1 : many ≤ N) (hN : N ≤ 23) (h0 : 0 ≤ N) :
    decide (patchV a = patchV b) = (decide (doneV a (marksV N) = doneV b (marksV N)) && decide (lst a 0 0 = lst b 0 0)) := by
  have hl : ((marksV N).length : Int) = N := by rw [marksV_len]; omega
  have la := ha.least
  have lb := hb.least
  have ra := (pv_run ha (ws := marksV N) (by omega)).2
  have rb := (pv_run hb (ws := marksV N) (by omega)).2
  have pa := ha.pv.1
  have pb := hb.pv.1
  rw [Bool.eq_iff_iff, Bool.and_eq_true, decide_eq_true_eq, decide_eq_true_eq, decide_eq_true_eq]
  constructor
  · intro h
    refine ⟨by rw [ra, rb, h], by rw [← pa.least, ← pb.least, h]⟩
  · rintro ⟨h, he⟩
    rw [ra, rb, hl] at h
    have ta : ∀ x ∈ appC N 0 (patchV a).changes, TokOk N x := by
      rw [pa.does _ (by omega)]
      exact doAll_tok (fun e he => (ha.ok e he).2.2) (seg_tok (Int.le_refl _))
    have tb : ∀ x ∈ appC N 0 (patchV b).changes, TokOk N x := by
      rw [pb.does _ (by omega)]
      exact doAll_tok (fun e he => (hb.ok e he).2.2) (seg_tok (Int.le_refl _))
    have hc := map_inj_on (fun x y => look_inj hN) ta tb h
    have hcs := appC_inj pa.good pb.good (fun c hc => by have := pa.ends c hc; omega) (fun c hc => by have := pb.ends c hc; omega) h0 hc
    have e1 : patchV a = ⟨(patchV a).changes, (patchV a).least⟩ := rfl
    have e2 : patchV b = ⟨(patchV b).changes, (patchV b).least⟩ := rfl
    rw [e1, e2, hcs, pa.least, pb.least, he]
/-! ### gaps -/
def plc : Tk → Int
  | .old i => i
  | .new _ => -1
def condB (prev : Option Int) (x : Int) : Bool := match prev with
  | none => decide (x < 0)
  | some b => (decide (x < 0) && decide (b ≥ 0)) || (decide (x ≥ 0) && (decide (b ≥ 0) && !decide (x = b + 1)))
def cntP : Option Int → List Int → Int
  | _, [] => 0
  | prev, x :: r => (if condB prev x then 1 else 0) + cntP (some x) r
def lastOr (prev : Option Int) (l : List Int) : Option Int := match l.getLast? with | some b => some b | none => prev
theorem cntP_snoc : ∀ (l : List Int) (prev : Option Int) (x : Int), cntP prev (l ++ [x]) = cntP prev l + (if condB (lastOr prev l) x then 1 else 0)
  | [], prev, x => by
    show (if condB prev x = true then (1 : Int) else 0) + 0 = 0 + (if condB prev x = true then 1 else 0)
    rw [Int.add_zero, Int.zero_add]
  | y :: l, prev, x => by
    have i := cntP_snoc l (some y) x
    have e : lastOr prev (y :: l) = lastOr (some y) l := by
      unfold lastOr
      rw [List.getLast?_cons]
      cases l.getLast? <;> rfl
    rw [List.cons_append]
    show _ + cntP (some y) (l ++ [x]) = (_ + cntP (some y) l) + _
    rw [i, e]
    omega
theorem cnt_seg {p f : Int} (h0 : 0 ≤ p) (h : p + 1 ≤ f) (Y : List Int) : cntP (some p) ((seg (p + 1) f).map plc ++ Y) = cntP (some (f - 1)) Y := by
  obtain ⟨n, hn⟩ := Int.eq_ofNat_of_zero_le (show 0 ≤ f - (p + 1) by omega)
  induction n generalizing p with
  | zero =>
    have : f = p + 1 := by omega
    subst this
    rw [seg_nil (Int.le_refl _), show p + 1 - 1 = p by omega]
    rfl
  | succ n ih =>
    rw [seg_cons (show p + 1 < f by omega), List.map_cons, List.cons_append]
    show (if condB (some p) (p + 1) then 1 else 0) + cntP (some (p + 1)) _ = _
    rw [ih (by omega) (by omega) (by omega)]
    have : condB (some p) (p + 1) = false := by
      unfold condB
      simp
      omega
    rw [this]
    simp
theorem cnt_new : ∀ (ws : List Str) (Y : List Int), cntP (some (-1)) ((ws.map Tk.new).map plc ++ Y) = cntP (some (-1)) Y
  | [], Y => rfl
  | t :: ws, Y => by
    rw [List.map_cons, List.map_cons, List.cons_append]
    show (if condB (some (-1)) (-1) then 1 else 0) + cntP (some (-1)) _ = _
    rw [cnt_new ws Y]
    have : condB (some (-1)) (-1) = false := by decide
    rw [this]
    simp
theorem appC_old {N : Int} {r : List Ch} {l : Int} (hg : goodFrom l r) (h : l < N) : (appC N l r).map plc = l :: (appC N (l + 1) r).map plc := by
  rw [appC_seg (a := l) (b := l + 1) (by omega) (hg.mono (by omega)) (by omega), seg_cons (show l < l + 1 by omega), seg_nil (Int.le_refl _)]
  rfl
theorem cnt_app {N : Int} : ∀ {cs : List Ch} {p : Int}, goodFrom p cs → 0 ≤ p → p < N → (∀ c ∈ cs, c.last < N) → cntP (some p) ((appC N (p + 1) cs).map plc) = cs.length
  | [], p, _, h0, hp, _ => by
    show cntP (some p) ((seg (p + 1) N).map plc) = 0
    rw [← List.append_nil ((seg (p + 1) N).map plc), cnt_seg h0 (by omega)]
    rfl
  | c :: r, p, hg, h0, hp, hl => by
    have g1 := hg.1
    have g2 := hg.2.1
    have g3 := hg.2.2.2.2.1
    have g4 := hg.2.2.2.2.2
    have cl := hl c List.mem_cons_self
    have i := cnt_app g4 (by omega) cl (fun d hd => hl d (List.mem_cons_of_mem _ hd))
    show cntP (some p) ((seg (p + 1) c.first ++ (c.words.map Tk.new ++ appC N c.last r)).map plc) = _
    rw [List.map_append, List.map_append, cnt_seg h0 (by omega), appC_old g4 cl]
    cases hw : c.words with
    | nil =>
      have hne : c.last ≠ c.first := fun e => g3 ⟨e.symm, hw⟩
      show (if condB (some (c.first - 1)) c.last then 1 else 0) + cntP (some c.last) _ = _
      rw [i]
      have : condB (some (c.first - 1)) c.last = true := by
        unfold condB
        simp
        omega
      rw [this]
      simp
      omega
    | cons t ts =>
      rw [List.map_cons, List.map_cons, List.cons_append]
      show (if condB (some (c.first - 1)) (-1) then 1 else 0) + cntP (some (-1)) _ = _
      rw [cnt_new]
      show _ + ((if condB (some (-1)) c.last then 1 else 0) + cntP (some c.last) _) = _
      rw [i]
      have e1 : condB (some (c.first - 1)) (-1) = true := by
        unfold condB
        simp
        omega
      have e2 : condB (some (-1)) c.last = false := by
        unfold condB
        simp
      rw [e1, e2]
      simp
      omega
def gap0 (pl : List Int) : Int := match pl with | x :: _ => if x > 0 then 1 else 0 | [] => 0
theorem gaps {N : Int} {cs : List Ch} (hg : goodFrom (-1) cs) (hN : 0 < N) (hl : ∀ c ∈ cs, c.last < N) : gap0 ((appC N 0 cs).map plc) + cntP none ((appC N 0 cs).map plc) = cs.length := by
  have easy : goodFrom 0 cs → gap0 ((appC N 0 cs).map plc) + cntP none ((appC N 0 cs).map plc) = cs.length := fun h => by
    rw [appC_old h hN]
    show (if (0 : Int) > 0 then 1 else 0) + ((if condB none 0 then 1 else 0) + cntP (some 0) _) = _
    rw [cnt_app h (Int.le_refl _) hN hl]
    have : condB none 0 = false := by decide
    rw [this]
    simp
  cases cs with
  | nil => exact easy trivial
  | cons c r =>
    have g1 := hg.1
    have g2 := hg.2.1
    have g3 := hg.2.2.2.2.1
    have g4 := hg.2.2.2.2.2
    have cl := hl c List.mem_cons_self
    by_cases hz : 0 < c.first
    · exact easy ⟨hz, hg.2⟩
    · have hz : c.first = 0 := by omega
      have i := cnt_app g4 (by omega) cl (fun d hd => hl d (List.mem_cons_of_mem _ hd))
      have e : (appC N 0 (c :: r)).map plc = (c.words.map Tk.new).map plc ++ (c.last :: (appC N (c.last + 1) r).map plc) := by
        show ((seg 0 c.first ++ (c.words.map Tk.new ++ appC N c.last r)).map plc) = _
        rw [hz, seg_nil (Int.le_refl _), List.nil_append, List.map_append, appC_old g4 cl]
      rw [e]
      cases hw : c.words with
      | nil =>
        have hne : c.last ≠ c.first := fun e => g3 ⟨e.symm, hw⟩
        show (if c.last > 0 then 1 else 0) + ((if condB none c.last then 1 else 0) + cntP (some c.last) _) = _
        rw [i]
        have e1 : condB none c.last = false := by
          unfold condB
          simp
          omega
        rw [e1, if_pos (by omega)]
        simp
        omega
      | cons t ts =>
        rw [List.map_cons, List.map_cons, List.cons_append]
        show (if (-1 : Int) > 0 then 1 else 0) + ((if condB none (-1) then 1 else 0) + cntP (some (-1)) _) = _
        rw [cnt_new]
        show _ + (_ + ((if condB (some (-1)) c.last then 1 else 0) + cntP (some c.last) _)) = _
        rw [i]
        have e2 : condB (some (-1)) c.last = false := by
          unfold condB
          simp
        have e1 : condB none (-1) = true := by decide
        rw [e1, e2]
        simp
        omega
/-- the place of a word among the marks -/
def placeV (ms : List Str) (t : Str) : Int := if t ∈ ms then (ms.idxOf t : Nat) else -1
theorem idx_mark {N : Int} (hN : N ≤ 23) {i : Nat} (h : (i : Int) < N) : mark i ∈ marksV N ∧ (marksV N).idxOf (mark i) = i := by
  have hget : (marksV N)[i]? = some (mark i) := by
    unfold marksV
    rw [List.getElem?_map, List.getElem?_range (by omega)]
    rfl
  refine ⟨List.mem_of_getElem? hget, ?_⟩
  have hm := List.mem_of_getElem? hget
  have hlt : (marksV N).idxOf (mark i) < (marksV N).length := List.idxOf_lt_length_iff.mpr hm
  have hge := List.getElem_idxOf hlt
  have hlen := marksV_len N
  have e2 : (marksV N)[(marksV N).idxOf (mark i)]'hlt = mark ((marksV N).idxOf (mark i)) := by
    have a := List.getElem?_eq_getElem hlt
    have b : (marksV N)[(marksV N).idxOf (mark i)]? = some (mark ((marksV N).idxOf (mark i))) := by
      rw [hlen] at hlt
      generalize (marksV N).idxOf (mark i) = j at hlt
      unfold marksV
      rw [List.getElem?_map, List.getElem?_range hlt]
      rfl
    exact Option.some.inj (a.symm.trans b)
  rw [e2] at hge
  exact mark_inj _ _ (by omega) (by omega) hge
theorem place_tok {N : Int} (hN : N ≤ 23) {x : Tk} (h : TokOk N x) : placeV (marksV N) (look id (marksV N) x) = plc x := by
  cases x with
  | old i =>
    obtain ⟨e, l⟩ := look_mark hN h.1 h.2
    rw [e]
    have h0 := h.1
    have h1 := h.2
    obtain ⟨m1, m2⟩ := idx_mark hN (i := i.toNat) (by omega)
    unfold placeV
    rw [if_pos m1, m2]
    show ((i.toNat : Nat) : Int) = i
    omega
  | new t =>
    have : t ∉ marksV N := fun hm => by
      obtain ⟨k, hk, rfl⟩ := List.mem_map.mp hm
      have := List.mem_range.mp hk
      exact mark_six k (by omega) h
    unfold placeV
    show (if t ∈ marksV N then _ else _) = (-1 : Int)
    rw [if_neg this]
theorem gaps_pv {many N : Int} {es : List Ed} (h : DrOk many es) (h1 : many < N) (hN : N ≤ 23) : gap0 ((doneV es (marksV N)).map (placeV (marksV N))) + cntP none ((doneV es (marksV N)).map (placeV (marksV N))) = (patchV es).changes.length := by
  have l := h.least
  have hl : ((marksV N).length : Int) = N := by rw [marksV_len]; omega
  have r := (pv_run h (ws := marksV N) (by omega)).2
  have p := h.pv.1
  have t : ∀ x ∈ appC N 0 (patchV es).changes, TokOk N x := by
    rw [p.does _ (by omega)]
    exact doAll_tok (fun e he => (h.ok e he).2.2) (seg_tok (Int.le_refl _))
  rw [r, hl, List.map_map]
  have e : (appC N 0 (patchV es).changes).map (placeV (marksV N) ∘ look id (marksV N)) = (appC N 0 (patchV es).changes).map plc := List.map_congr_left fun x hx => place_tok hN (t x hx)
  rw [e]
  exact gaps p.good (by omega) (fun c hc => by have := p.ends c hc; omega)
end K50

namespace Gd
open PySem L2
section
variable {X : Cx} {B B1 : Bs} {δ δ' : List (Option Slot)} {O O1 O2 O3 : List Own} {a b c e o : Expr} {es : List Expr} {p pos : Pos} {s s1 s2 s3 : Slot} {D : Ends} {rest sts : List Stmt} {u : Bool}
theorem wSs_mono {nx' : SS → Hp → Prop} {σ : SS} {H : Hp} (h : wSs X sts D σ H) (k : ∀ σ H, D.nx σ H → nx' σ H) : wSs X sts { D with nx := nx' } σ H := ⟨fun pins s I => wpAny_mono (h.run pins s I) (fun f s' hs => by
  cases f with
  | next =>
    obtain ⟨σ', H', J, q⟩ := hs
    exact ⟨σ', H', J, k _ _ q⟩
  | brk => exact hs
  | cont => exact hs
  | ret v => exact hs) fun _ _ x => x⟩
/-- both branches come to one shape of state -/
theorem j_ifM {γ : Type} {ys ns : List Stmt} (P : γ → Prop) (Δ : γ → List (Option Slot)) (Ω : γ → List Own) (h : T X δ O c u O1) (hy : u = true → J X B δ O1 ys { D with nx := Mid X B P Δ Ω }) (hn : u = false → J X B δ O1 ns { D with nx := Mid X B P Δ Ω })
    (hd : ∀ g, P g → J X B (Δ g) (Ω g) rest D) : J X B δ O (.If c ys ns pos :: rest) D := by
  have on : ∀ (sts : List Stmt), J X B δ O1 sts { D with nx := Mid X B P Δ Ω } → J X B δ O1 sts { D with nx := fun σ H => wSs X rest D σ H } := fun sts hj σ G H st =>
    wSs_mono (D := { D with nx := Mid X B P Δ Ω }) (hj σ G H st) fun σ' H' ⟨g, G', pg, st'⟩ => hd g pg σ' G' H' st'
  exact j_if h (fun hu => on _ (hy hu)) (fun hu => on _ (hn hu))
/-- a, b, c = x, y, z -/
theorem j_par3 {c' : Expr} {x y z : Str} {px py pz pt pos pt2 : Pos} {kt k2} (i j l : Nat) (ha : E X δ O a s1 O1) (hb : E X δ O1 b s2 O2) (hd : E X δ O2 c' s3 O3) (q : J X B (((δ.set i (some s1)).set j (some s2)).set l (some s3)) O3 rest D) (hN : X.N.Nodup)
    (hi : X.N[i]? = some x := by rfl) (hj : X.N[j]? = some y := by rfl) (hl : X.N[l]? = some z := by rfl) (hij : i ≠ j := by decide) (hil : i ≠ l := by decide) (hjl : j ≠ l := by decide) (hc : X.calm = true := by rfl)
    (hx : X.env.scope.names.lookup x = some .local := by rfl) (hy : X.env.scope.names.lookup y = some .local := by rfl) (hz : X.env.scope.names.lookup z = some .local := by rfl) (h1 : noStar a = true := by rfl) (h2 : noStar b = true := by rfl) (h3 : noStar c' = true := by rfl)
    (hw : swappedStores [.Tuple [.Name x px, .Name y py, .Name z pz] kt pt] (.Tuple [a, b, c'] k2 pt2) X.env = pure (some [x, y, z]) := by rfl) (hs : swapsWithSole [.Tuple [.Name x px, .Name y py, .Name z pz] kt pt] (.Tuple [a, b, c'] k2 pt2) pos.line X.env = pure false := by rfl) :
    J X B δ O (.Assign [.Tuple [.Name x px, .Name y py, .Name z pz] kt pt] (.Tuple [a, b, c'] k2 pt2) pos :: rest) D :=
  j_cons fun σ G H st => s_of (ps_par3 hc hN hi hj hl hij hil hjl hx hy hz (pa_cons pe_w (pa_cons pe_w (pa_cons pe_w pa_nil (starEach_plain h3)) (starEach_plain h2)) (starEach_plain h1)) hw hs)
    (ha B σ G H _ st fun r G1 H1 m1 st1 hr => hb B σ G1 H1 _ st1 fun w G2 H2 m2 st2 hw2 => hd B σ G2 H2 _ st2 fun t G3 H3 m3 st3 ht => ⟨r, w, t, rfl, q _ G3 H3 (((st3.set (s1.mono (m2.trans m3) hr)).set (s2.mono m3 hw2)).set ht)⟩)
end
end Gd
namespace K50
open PySem L2 Gd
open L2H (RoomH Hot1)
abbrev sLaw : Stmt := top 41
abbrev lawN : List Str := ["_law_script", "_law_draw_here", "_law_many", "_law_one", "_law_other", "_law_edit_here", "_law_first", "_law_second", "_law_words_here", "_law_marks_here", "_law_alike", "_law_late", "_law_start", "_law_kept", "_law_begin", "_law_end", "_law_new", "_law_word", "_law_places", "_law_gaps", "_law_at", "_law_place", "_law_before", "_law_whole", "_law_both"]
theorem o_neChL {X : Cx} {k : Nat} (hr : Room k X.A) {as bs : List Ch} (h1 : ∀ c ∈ as, okStrs c.words) (h2 : ∀ c ∈ bs, okStrs c.words) : OpE X (compareOp .NotEq) (sLst sCh as) (sLst sCh bs) (sBl (!decide (as = bs))) :=
  o_neD hr (isD_lst isD_ch) (isD_lst isD_ch) (shaped_chs h1) (shaped_chs h2) (eqv_lst eqv_ch)
/-- all that the law's body rests on -/
structure LawC (P : Program) (w : World) (K : Fg) (mg : Str → Option Value) (base : Heap) (C CP CB : Addr) where
  T : Bt mg
  Cc : Cs K mg
  EC : EdC K mg C
  PC : PaC K mg CP
  BE : ExcC K mg "BadEdit" CB
  zs : mg "sum" = none
  ze : mg "enumerate" = none
  fN : Addr
  gN : mg "_law_next" = some (.ref fN)
  FN : DefOk P w K mg base 3 fN [] fsNext
  fE : Addr
  gE : mg "_law_edits" = some (.ref fE)
  FE : DefOk P w K mg base 7 fE [] (fsEditsD C)
  fW : Addr
  gW : mg "_law_words" = some (.ref fW)
  FW : DefOk P w K mg base 5 fW [] fsWordsD
  fD : Addr
  gD : mg "_law_done" = some (.ref fD)
  FD : DefOk P w K mg base 1 fD [] (fsDone C)
  fM : Addr
  gM : mg "_law_marks" = some (.ref fM)
  FM : DefOk P w K mg base 1 fM [] fsMarks
  fL : Addr
  gL : mg "_law_least" = some (.ref fL)
  FL : DefOk P w K mg base 2 fL [] (fsLeast C)
  fP : Addr
  gP : mg "patch" = some (.ref fP)
  FP : DefOk P w K mg base 6 fP [] (fsPatch C CP)
  fB : Addr
  gB : mg "behind" = some (.ref fB)
  FB : DefOk P w K mg base 7 fB [] (fsBehind CP)
  fI : Addr
  M : Mk K C fI
  FI : DefOk P w K mg base 3 fI [] (fsInit C)
  fG : Addr
  mG : Meth K C "growth" fG
  FG : DefOk P w K mg base 1 fG [] (fsGrowth C)
  fC : Addr
  mC : StX.CallO K CP fC
  FC : DefOk P w K mg base 4 fC [] (fsPCall CP)
  FCR : DefOkR P w K mg base 4 fC CB (frPCall CP)
  fPG : Addr
  mPG : Meth K CP "growth" fPG
  FPG : DefOk P w K mg base 2 fPG [] (fsPGrowth CP)
  fPE : Addr
  mPE : Meth K CP "edits" fPE
  FPE : DefOk P w K mg base 5 fPE [] (fsPEdits C CP)
  fQ : Addr
  sQ : PySem.W.findIn K (.ref CP) "__eq__" = some (some (.ref fQ))
  nQ : PySem.W.isFn K (.ref fQ) = true
  FQ : DefOk P w K mg base 1 fQ [] (fsPEq CP)
  FQH : DefOkH P w K mg base 1 fQ (fsPEq CP)
  hO : ClsO K CP
  hne : PySem.W.findIn K (.ref CP) "__ne__" = some (some (.builtin "object.__ne__"))
  fLn : Addr
  sLn : PySem.W.findIn K (.ref CP) "__len__" = some (some (.ref fLn))
  nLn : PySem.W.isFn K (.ref fLn) = true
  FLn : DefOk P w K mg base 1 fLn [] (fsPLen CP)
  fBo : Addr
  sBo : PySem.W.findIn K (.ref CP) "__bool__" = some (some (.ref fBo))
  nBo : PySem.W.isFn K (.ref fBo) = true
  FBo : DefOk P w K mg base 1 fBo [] (fsPBool CP)
  fIt : Addr
  it : ItT K CP fIt fLn
  FIt : FnR P w K mg base CX0 1 fIt (spIter CP "changes" K)
  fPI : Addr
  MP : Mk K CP fPI
  FPIH : DefOkH P w K mg base 4 fPI (fsPInit CP)
theorem scLaw : FnScope lawN ["_law_script"] (defScope sLaw) := ⟨rfl, rfl, rfl, by decide +kernel, rfl, by decide +kernel, by decide +kernel⟩
def fsLaw : FS (List Int) := { args := fun i => [sLstK sInt i], pre := fun _ => True, res := fun _ => sBl true }
def lawNs (xs : List Int) : List Int := cutA xs none (some 63)
/-- what is known of a drawn patch -/
structure PF (many : Int) (es : List Ed) (p : Pa) : Prop where
  eq : p = patchV es
  ok : p.ok
  run : ∀ ws : List Str, okWords ws → many ≤ ws.length → p.run ws = doneV es ws
  fits : ∀ ws : List Str, okWords ws → ws.length ≤ 200 → many ≤ ws.length → p.fits ws
  least : p.least = lst es 0 0 ∧ 0 ≤ p.least ∧ p.least ≤ many
  grow : p.growth = grow es
  few : p.changes.length ≤ 4 * es.length + 1
theorem DrOk.pf {many : Int} {es : List Ed} (h : DrOk many es) : ∃ p, PF many es p :=
  ⟨patchV es, rfl, h.pv.2.ok, fun ws ho hm => (pv_run h (by have := h.least; omega)).1, fun ws ho hl hm => h.fits ho hl hm, ⟨h.pv.1.least, h.least⟩, pv_growth h.pv.1 h.edok, h.count.1⟩
theorem DrOk.done {many : Int} {es : List Ed} (h : DrOk many es) {ws : List Str} (hl : ws.length ≤ 200) : (∀ e ∈ es, e.ok ∧ e.words.length ≤ 2) ∧ es.length ≤ 20 ∧ ws.length ≤ 200 := ⟨fun e he => ⟨(h.ok e he).1, (h.ok e he).2.1⟩, by have := h.few; omega, hl⟩
theorem wsum'_app (a b : List Ed) : wsum' (a ++ b) = wsum' a + wsum' b := by simp [wsum']
theorem wsum'_rev : ∀ cs : List Ed, wsum' cs.reverse = wsum' cs
  | [] => rfl
  | c :: r => by
    rw [List.reverse_cons, wsum'_app, wsum'_rev r]
    simp [wsum']
    omega
/-- the edits of patches, taken together -/
theorem PF.back {m1 m2 : Int} {a b : List Ed} {p q : Pa} (ha : DrOk m1 a) (hb : DrOk m2 b) (fa : PF m1 a p) (fb : PF m2 b q) (hl : 4 * a.length + 1 + (4 * b.length + 1) ≤ 60) :
    PatchV (p.changes.reverse ++ q.changes.reverse) ∧ PatchOk (p.changes.reverse ++ q.changes.reverse) := by
  have na := ha.count
  have nb := hb.count
  rw [← fa.eq] at na
  rw [← fb.eq] at nb
  have wa : wsum' p.changes.reverse = wsum p.changes := wsum'_rev p.changes
  have wb : wsum' q.changes.reverse = wsum q.changes := wsum'_rev q.changes
  have len : (p.changes.reverse ++ q.changes.reverse).length = p.changes.length + q.changes.length := by rw [List.length_append, List.length_reverse, List.length_reverse]
  have hok : ∀ e ∈ p.changes.reverse ++ q.changes.reverse, e.ok := fun e he => by
    (rcases List.mem_append.mp he with he | he)
    · exact fa.ok.1.ed (by decide) e (List.mem_reverse.mp he)
    · exact fb.ok.1.ed (by decide) e (List.mem_reverse.mp he)
  have hw : ∀ e ∈ p.changes.reverse ++ q.changes.reverse, e.words.length ≤ 1000 := fun e he => by
    (rcases List.mem_append.mp he with he | he)
    · exact (fa.ok.1.all e (List.mem_reverse.mp he)).2.1
    · exact (fb.ok.1.all e (List.mem_reverse.mp he)).2.1
  obtain ⟨x, y⟩ := patch_spec hok (by rw [len, wsum'_app, wa, wb]; omega) hw
  exact ⟨x, y (by rw [len]; omega)⟩
theorem PF.back1 {m1 : Int} {a : List Ed} {p : Pa} (ha : DrOk m1 a) (fa : PF m1 a p) (hl : a.length ≤ 8) : PatchOk p.changes.reverse ∧ (patchV p.changes.reverse).changes = p.changes := by
  have na := ha.count
  rw [← fa.eq] at na
  have wa : wsum' p.changes.reverse = wsum p.changes := wsum'_rev p.changes
  obtain ⟨x, y⟩ := patch_spec (es := p.changes.reverse) (fun e he => fa.ok.1.ed (by decide) e (List.mem_reverse.mp he)) (by rw [List.length_reverse, wa]; omega) (fun e he => (fa.ok.1.all e (List.mem_reverse.mp he)).2.1)
  refine ⟨y (by rw [List.length_reverse]; omega), ?_⟩
  have := pv_edits ha.pv.1 (by rw [← fa.eq]; exact x)
  rwa [← fa.eq] at this
section
variable {P : Program} {w : World} {K : Fg} {mg : Str → Option Value} {base : Heap} {C CP CB : Addr}
theorem ok_law {f : Addr} {fd : FuncData} (F : Fun K "law" "law" sLaw f fd) (L : LawC P w K mg base C CP CB) : FnOk P w K mg base CX0 8 f fd ["_law_script"] (fsLaw.sp K) := by
  refine fn_okF F scLaw (fun _ => rfl) fun xs cdv A outer s G H D EE hr hp hf hn => ?_
  have hr7 : Room 7 _ := hr
  have hr6 : Room 6 _ := hr.mono (by decide)
  have hr5 : Room 5 _ := hr.mono (by decide)
  have hr4 : Room 4 _ := hr.mono (by decide)
  have hr3 : Room 3 _ := hr.mono (by decide)
  (have hr2 : Room 2 _ := hr.mono (by decide))
  (have hr1 : Room 1 _ := hr.mono (by decide))
  refine j_setW (O1 := []) 1 (ew_lstS (ss := [sLst sInt (lawNs xs), sInt 0, sInt 0]) (ea_cons (e_lst (ew_sliceK (e_name 0) po_n (po_s e_int))) (ea_cons e_int (ea_cons e_int ea_nil))) (szl (by simp))) (fun dr hdr => ?_) scLaw.nd
  generalize lawNs xs = ns
  have b1 : 0 ≤ nextV ns 0 8 ∧ nextV ns 0 8 < 8 := ⟨nextV_lo (by decide), nextV_hi (by decide)⟩
  refine j_set 2 (O1 := [dO dr ns (0 + 1)]) (s := sInt (3 + nextV ns 0 8)) (e_bin o_add e_int (e_call (S := fsNext) (O2 := []) (dr, ns, 0, 8) L.FN hr3 L.gN (ea_cons (e_name 1) (ea_cons e_int ea_nil)) (by show (0 : Int) ≤ 0 ∧ (0 : Int) < 8; omega))) ?_ scLaw.nd
  have hm : 3 ≤ 3 + nextV ns 0 8 ∧ 3 + nextV ns 0 8 ≤ 10 := by omega
  generalize 3 + nextV ns 0 8 = many at hm
  have b2 : 0 ≤ nextV ns (0 + 1) 6 ∧ nextV ns (0 + 1) 6 < 6 := ⟨nextV_lo (by decide), nextV_hi (by decide)⟩
  have d1 : DrOk many (esAt ns (0 + 1 + 1) many (nextV ns (0 + 1) 6).toNat).es := es_dr (by decide) (by omega) (by omega)
  have k1 := esAt_ok (ns := ns) (c := 0 + 1 + 1) (many := many) (by decide) (by omega) (nextV ns (0 + 1) 6).toNat
  obtain ⟨S1, hS1⟩ : ∃ S, S = esAt ns (0 + 1 + 1) many (nextV ns (0 + 1) 6).toNat := ⟨_, rfl⟩
  rw [← hS1] at d1 k1
  have c1 := k1.c0
  have b3 : 0 ≤ nextV ns S1.c 4 ∧ nextV ns S1.c 4 < 4 := ⟨nextV_lo (by decide), nextV_hi (by decide)⟩
  have d2 : DrOk many (esAt ns (S1.c + 1) many (nextV ns S1.c 4).toNat).es := es_dr (by omega) (by omega) (by omega)
  have k2 := esAt_ok (ns := ns) (c := S1.c + 1) (many := many) (by omega) (by omega) (nextV ns S1.c 4).toNat
  obtain ⟨S2, hS2⟩ : ∃ S, S = esAt ns (S1.c + 1) many (nextV ns S1.c 4).toNat := ⟨_, rfl⟩
  rw [← hS2] at d2 k2
  have c2 := k2.c0
  refine j_par 3 4 (s1 := sLst (sEd C) S1.es) (s2 := sLst (sEd C) S2.es) (O1 := [dO dr ns S1.c]) (O2 := [dO dr ns S2.c])
    (e_callR (S := fsEditsD C) (O2 := []) ⟨dr, ns, 0 + 1 + 1, many, nextV ns (0 + 1) 6⟩ L.FE hr7 L.gE (ea_cons (O1 := [dO dr ns (0 + 1)]) (e_name 1) (ea_cons (O1 := [dO dr ns (0 + 1)]) (e_name 2) (ea_cons (O1 := [dO dr ns (0 + 1 + 1)]) (e_call (S := fsNext) (O2 := []) (dr, ns, 0 + 1, 6) L.FN hr3 L.gN (ea_cons (e_name 1) (ea_cons e_int ea_nil)) (by show (0 : Int) ≤ 0 + 1 ∧ (0 : Int) < 6; omega)) ea_nil))) (by show (0 : Int) ≤ 0 + 1 + 1 ∧ 0 ≤ many ∧ 0 ≤ nextV ns (0 + 1) 6 ∧ nextV ns (0 + 1) 6 ≤ 100; omega) (by rw [hS1]; rfl) (by rw [hS1]; rfl))
    (e_callR (S := fsEditsD C) (O2 := []) ⟨dr, ns, S1.c + 1, many, nextV ns S1.c 4⟩ L.FE hr7 L.gE (ea_cons (O1 := [dO dr ns S1.c]) (e_name 1) (ea_cons (O1 := [dO dr ns S1.c]) (e_name 2) (ea_cons (O1 := [dO dr ns (S1.c + 1)]) (e_call (S := fsNext) (O2 := []) (dr, ns, S1.c, 4) L.FN hr3 L.gN (ea_cons (e_name 1) (ea_cons e_int ea_nil)) (by show (0 : Int) ≤ S1.c ∧ (0 : Int) < 4; omega)) ea_nil))) (by show (0 : Int) ≤ S1.c + 1 ∧ 0 ≤ many ∧ 0 ≤ nextV ns S1.c 4 ∧ nextV ns S1.c 4 ≤ 100; omega) (by rw [hS2]; rfl) (by rw [hS2]; rfl)) ?_ scLaw.nd
  have hl1 : S1.es.length ≤ 5 := by rw [k1.len]; omega
  have hg1 : 0 ≤ many + grow S1.es := by have := k1.m0; have := k1.gr; omega
  generalize S1.es = one at d1 hl1 hg1
  generalize S2.es = oth at d2
  generalize S2.c = c3 at c2
  clear hS1 hS2 k1 k2 b3 c1
  refine j_ifM (γ := List Ed) (O1 := [dO dr ns (c3 + 1)]) (DrOk many) (fun oth => [some (sLstK sInt xs), some (sRef dr), some (sInt many), some (sLst (sEd C) one), some (sLst (sEd C) oth), none, none, none, none, none, none, none, none, none, none, none, none, none, none, none, none, none, none, none, none]) (fun _ => [dO dr ns (c3 + 1)])
    (t_cmp o_eq (e_call (S := fsNext) (O2 := []) (dr, ns, c3, 3) L.FN hr3 L.gN (ea_cons (e_name 1) (ea_cons e_int ea_nil)) (by show (0 : Int) ≤ c3 ∧ (0 : Int) < 3; omega)) e_int) (fun h => ?_) (fun h => j_nil fun σ G H st => ⟨oth, G, d2, st⟩) ?_
  · refine j_setComp (S := sEd C) (R := sEd C) (as := one) 4 5 (fun _ => [dO dr ns (c3 + 1)]) (fun _ => [dO dr ns (c3 + 1)]) (fun _ => true) (fun n => one.take n) scLaw.nd (it_lst (e_name 3)) (blkOk_by (own := [("_law_edit_here", 5)]) (N := lawN) (sc := defScope sLaw) (by decide +kernel)) (fun k y hy s H _ cl fp => ts_nil)
      (fun k y hy _ => ⟨y, take_succ hy, fun s H _ cl fp => e_name 5⟩) (fun k _ h => by cases h) rfl (szl (by omega)) (fun lr hlr => ?_)
    rw [List.take_length]
    refine j_expr (e_append (R := sEd C) (as := one) (y := ⟨0, 0, []⟩) 0 (e_name 4) (e_edit (ws := []) false L.M L.FI hr4 L.EC.gC nil_ok (ea_cons e_int (ea_cons e_int (ea_cons (e_lst (ew_lst el_nil (szl (by simp)))) ea_nil)))) (Nat.lt_of_le_of_lt (show one.length ≤ 100000 by omega) (by decide))) ?_
    refine j_freeze 4 (s := sLst (sEd C) (one ++ [⟨0, 0, []⟩])) rfl hlr (fun K G o => frz_lst K G lr o) ?_
    exact j_nil fun σ G H st => ⟨one ++ [Ed.mk 0 0 []], G, d1.more (by omega) hg1, st⟩
  clear d2
  intro oth d2
  obtain ⟨first, f1⟩ := d1.pf
  obtain ⟨second, f2⟩ := d2.pf
  have c4 : 0 ≤ c3 + 1 := by omega
  generalize c3 + 1 = c at c4
  refine j_par 6 7 (s1 := sPa CP first) (s2 := sPa CP second) (O1 := [dO dr ns c]) (O2 := [dO dr ns c])
    (e_callR (S := fsPatch C CP) (O2 := [dO dr ns c]) (false, one) L.FP hr6 L.gP (ea_cons (s := sLst (sEd C) one) (e_name 3) ea_nil) (by exact d1.pv.2) (by rw [f1.eq]; rfl))
    (e_callR (S := fsPatch C CP) (O2 := [dO dr ns c]) (true, oth) L.FP hr6 L.gP (ea_cons (s := sTupl (sEd C) oth) (e_callTy c_tuple L.Cc.tuple (by decide +kernel) (ea_cons (e_name 4) ea_nil)) ea_nil) (by exact d2.pv.2) (by rw [f2.eq]; rfl)) ?_ scLaw.nd
  have m1 : okWords (marksV many) ∧ many ≤ (marksV many).length ∧ (marksV many).length ≤ 200 := ⟨marksV_ok (by omega), by rw [marksV_len]; omega, by rw [marksV_len]; omega⟩
  have m2 : okWords (wordsV ns c many) ∧ many ≤ (wordsV ns c many).length ∧ (wordsV ns c many).length ≤ 200 := ⟨wordsV_ok, by rw [wordsV_len]; omega, by rw [wordsV_len]; omega⟩
  have m3 : okWords (marksV (many + 5)) ∧ many ≤ (marksV (many + 5)).length ∧ (marksV (many + 5)).length ≤ 200 := ⟨marksV_ok (by omega), by rw [marksV_len]; omega, by rw [marksV_len]; omega⟩
  refine j_for (O1 := [dO dr ns (c + (many.toNat : Nat))]) (R := sLst sStr) (as := [marksV many, wordsV ns c many, marksV (many + 5)]) (fun n (g : Unit) => True) (fun _ => [some (sLstK sInt xs), some (sRef dr), some (sInt many), some (sLst (sEd C) one), some (sLst (sEd C) oth), none, some (sPa CP first), some (sPa CP second), none, none, none, none, none, none, none, none, none, none, none, none, none, none, none, none, none]) (fun _ => [dO dr ns (c + (many.toNat : Nat))]) (fun y => [(8, sLst sStr y)])
    (it_lst (e_lst (ew_lst (el_cons (O1 := [dO dr ns c]) (e_callR (S := fsMarks) (O2 := [dO dr ns c]) many L.FM hr1 L.gM (ea_cons (e_name 2) ea_nil) (by show 0 ≤ many ∧ many ≤ 23; omega)) (el_cons (O1 := [dO dr ns (c + (many.toNat : Nat))]) (e_callR (S := fsWordsD) (O2 := []) ⟨dr, ns, c, many⟩ L.FW hr5 L.gW (ea_cons (e_name 1) (ea_cons (e_name 2) ea_nil)) (by show 0 ≤ c ∧ 0 ≤ many ∧ many ≤ 100000; omega))
      (el_cons (O1 := [dO dr ns (c + (many.toNat : Nat))]) (e_callR (S := fsMarks) (O2 := [dO dr ns (c + (many.toNat : Nat))]) (many + 5) L.FM hr1 L.gM (ea_cons (e_bin o_add (e_name 2) e_int) ea_nil) (by show 0 ≤ many + 5 ∧ many + 5 ≤ 23; omega)) el_nil))) (szl (by simp))))) (tg_name 8 scLaw.nd) ⟨(), trivial, fun _ _ _ _ h => h⟩ ?_ ?_
  · rintro B1 n ws ⟨⟩ hB hy -
    have hw : okWords ws ∧ many ≤ ws.length ∧ ws.length ≤ 200 := by
      have := List.mem_of_getElem? hy
      simp only [List.mem_cons, List.not_mem_nil, or_false] at this
      rcases this with h | h | h
      · rw [h]; exact m1
      · rw [h]; exact m2
      · rw [h]; exact m3
    refine j_if (O1 := [dO dr ns (c + (many.toNat : Nat))]) (u := false) (t_eq (t_w (tw_or2 (t_cmp (o_neL (ts := first.run ws) (us := doneV one ws) hr (by rw [f1.run ws hw.1 hw.2.1]; exact (doneV_ok d1.edok hw.1).str) (doneV_ok d1.edok hw.1).str)
        (e_callO (S := fsPCall CP) (first, false, ws) L.mC L.FC hr4 (e_name 6) (ea_cons (e_name 8) ea_nil) (f1.fits ws hw.1 hw.2.2 hw.2.1)) (e_callR (S := fsDone C) (O2 := [dO dr ns (c + (many.toNat : Nat))]) (one, ws) L.FD hr1 L.gD (ea_cons (e_name 3) (ea_cons (e_name 8) ea_nil)) (d1.done hw.2.2)))
      (tw_or1 (t_cmp (o_neL (ts := second.run ws) (us := doneV oth ws) hr (by rw [f2.run ws hw.1 hw.2.1]; exact (doneV_ok d2.edok hw.1).str) (doneV_ok d2.edok hw.1).str)
        (e_callO (S := fsPCall CP) (second, true, ws) L.mC L.FC hr4 (e_name 7) (ea_cons (e_callTy c_tuple L.Cc.tuple (by decide +kernel) (ea_cons (e_name 8) ea_nil)) ea_nil) (f2.fits ws hw.1 hw.2.2 hw.2.1)) (e_callR (S := fsDone C) (O2 := [dO dr ns (c + (many.toNat : Nat))]) (oth, ws) L.FD hr1 L.gD (ea_cons (e_name 4) (ea_cons (e_name 8) ea_nil)) (d2.done hw.2.2)))))) (by
        rw [f1.run ws hw.1 hw.2.1, f2.run ws hw.1 hw.2.1]
        simp)) (fun h => nomatch h) (fun _ => j_on (j_nil fun σ G H st => ⟨(), G, trivial, st.wk (.same (.same (.same (.same (.same (.same (.same (.same (.skip (.same (.same (.same (.same (.same (.same (.same (.same (.same (.same (.same (.same (.same (.same (.same (.same .nil)))))))))))))))))))))))))⟩))
  rintro ⟨⟩ -
  clear m1 m2 m3
  have c5 : 0 ≤ c + (many.toNat : Nat) := by omega
  generalize c + (many.toNat : Nat) = c' at c5
  refine j_if (O1 := [dO dr ns c']) (u := false) (t_eq (t_w (tw_or2 (t_cmp o_ne (e_fld 1 L.PC.cl L.PC.nL (e_name 6)) (e_callR (S := fsLeast C) (O2 := [dO dr ns c']) one L.FL hr2 L.gL (ea_cons (e_name 3) ea_nil) (by show lst one 0 0 < 60; have := d1.ls; omega)))
    (tw_or1 (t_cmp o_ne (e_meth0 (S := fsPGrowth CP) (O2 := [dO dr ns c']) first L.FPG hr2 L.PC.cl L.mPG (e_name 6) (by show first.changes.length ≤ 1000; have := f1.few; omega))
      (e_callB c_sum L.zs (by decide +kernel) (ea_cons (e_lst (ew_map (R := sEd C) (S := sInt) (as := one) 5 Ed.growth scLaw.nd (it_lst (e_name 3)) (blkOk_by (own := [("_law_edit_here", 5)]) (N := lawN) (sc := defScope sLaw) (by decide +kernel)) (fun y hy s H _ cl fp => e_meth0 (S := fsGrowth C) (O2 := [dO dr ns c']) y L.FG hr1 L.EC.cl L.mG (e_name 5) trivial) (szl (by omega)))) ea_nil)))))) (by
      rw [f1.least.1, f1.grow]
      show (!decide (lst one 0 0 = lst one 0 0) || !decide (grow one = grow one)) = false
      simp)) (fun h => nomatch h) (fun _ => j_on ?_)
  refine j_set 9 (s := sLst sStr (marksV (many + 3))) (O1 := [dO dr ns c']) (e_callR (S := fsMarks) (O2 := [dO dr ns c']) (many + 3) L.FM hr1 L.gM (ea_cons (e_bin o_add (e_name 2) e_int) ea_nil) (by show 0 ≤ many + 3 ∧ many + 3 ≤ 23; omega)) ?_ scLaw.nd
  have mo : okWords (marksV (many + 3)) := marksV_ok (by omega)
  have ml : (marksV (many + 3)).length = (many + 3).toNat := marksV_len _
  obtain ⟨ms, hms⟩ : ∃ ms, ms = marksV (many + 3) := ⟨_, rfl⟩
  rw [← hms] at mo ml ⊢
  have al := alike (N := many + 3) d1 d2 (by omega) (by omega) (by omega)
  rw [← hms, ← f1.eq, ← f2.eq] at al
  have ms2 : ms.length ≤ 200 := by omega
  have ms3 : many ≤ ms.length := by omega
  refine j_set 10 (s := sBl (decide (first = second))) (O1 := [dO dr ns c']) (e_eqS (e_and2 (e_cmp (o_eqL (ts := doneV one ms) (us := doneV oth ms) hr (doneV_ok d1.edok mo).str (doneV_ok d2.edok mo).str)
      (e_callR (S := fsDone C) (O2 := [dO dr ns c']) (one, ms) L.FD hr1 L.gD (ea_cons (e_name 3) (ea_cons (s := sLst sStr ms) (e_name 9) ea_nil)) (d1.done ms2)) (e_callR (S := fsDone C) (O2 := [dO dr ns c']) (oth, ms) L.FD hr1 L.gD (ea_cons (e_name 4) (ea_cons (s := sLst sStr ms) (e_name 9) ea_nil)) (d2.done ms2)))
    (e_one (e_cmp o_eq (e_callR (S := fsLeast C) (O2 := [dO dr ns c']) one L.FL hr2 L.gL (ea_cons (e_name 3) ea_nil) (by show lst one 0 0 < 60; have := d1.ls; omega)) (e_callR (S := fsLeast C) (O2 := [dO dr ns c']) oth L.FL hr2 L.gL (ea_cons (e_name 4) ea_nil) (by show lst oth 0 0 < 60; have := d2.ls; omega))))) (by rw [al])) ?_ scLaw.nd
  have cs1 : ∀ c ∈ first.changes, okStrs c.words := f1.ok.str
  have cl1 : first.changes.length ≤ 40 := by have := f1.few; omega
  refine j_if (O1 := [dO dr ns c']) (u := false) (t_eq (t_w (tw_or2 (t_cmp o_neB (e_cmp (o_eqO (S := fsPEq CP) (u := decide (first = second)) (first, second) L.sQ L.nQ L.FQ hr1 ⟨f1.ok, f2.ok⟩) (e_name 6) (e_name 7)) (e_name 10))
    (tw_or2 (t_cmp (o_neChL hr cs1 cs1) (e_lst (ew_callTy (c_listOwn (S := fsPLen CP) (tab := paTab first) (as := first.changes) (R := sCh) 0 first L.it L.FIt L.FLn hr3 hr4 trivial (Nat.lt_of_le_of_lt (show first.changes.length ≤ 100000 by omega) (by decide))) L.Cc.list (by decide +kernel) (ea_cons (e_name 6) ea_nil))) (e_lst (ew_callTy c_listT L.Cc.list (by decide +kernel) (ea_cons (e_fld 0 L.PC.cl L.PC.nC (e_name 6)) ea_nil))))
    (tw_or1 (t_cmp o_neB (e_callTy (c_boolO (S := fsPBool CP) (u := !decide ((first.changes.length : Int) = 0)) first L.sBo L.nBo L.FBo hr3 trivial) L.Cc.bool (by decide +kernel) (ea_cons (e_name 6) ea_nil))
      (e_cmp o_gt (e_callB (c_lenO (S := fsPLen CP) (n := (first.changes.length : Int)) first L.sLn L.nLn L.FLn hr2 trivial (by omega)) L.T.len PySem.boot_len (ea_cons (e_name 6) ea_nil)) e_int)))))) (by
      have e : (!decide ((first.changes.length : Int) = 0)) = decide ((0 : Int) < first.changes.length) := by
        rcases Nat.eq_zero_or_pos first.changes.length with z | z
        · rw [z]
          rfl
        · rw [decide_eq_false (by omega), decide_eq_true (by omega)]
          rfl
      rw [e]
      simp)) (fun h => nomatch h) (fun _ => j_on ?_)
  have hrun := f1.run ms mo ms3
  have hfit := f1.fits ms mo ms2 ms3
  have hlate : (first.run ms).length ≤ 220 := by
    rw [hrun]
    have := doneAt_len (es := one) (ws := ms) (fun e he => ⟨(d1.ok e he).1, (d1.ok e he).2.1⟩) ms2 one.length (Nat.le_refl _)
    rw [List.take_length] at this
    omega
  refine j_par3 (s1 := sLst sStr (first.run ms)) (s2 := sInt 0) (s3 := sLst sStr []) (O1 := [dO dr ns c']) (O2 := [dO dr ns c']) (O3 := [dO dr ns c']) 11 12 13 (e_callO (S := fsPCall CP) (first, false, ms) L.mC L.FC hr4 (e_name 6) (ea_cons (s := sLst sStr ms) (e_name 9) ea_nil) hfit) e_int (e_lst (ew_lst el_nil (szl (by simp)))) ?_ scLaw.nd
  have runAt_end : ∀ n, 0 < n → n ≤ first.changes.length → (runAt first.changes ms n).2 = endAt first.changes n := by
    intro n h1 h2
    (obtain ⟨m, rfl⟩ : ∃ m, n = m + 1 := ⟨n - 1, by omega⟩)
    have hc := List.getElem?_eq_getElem (show m < first.changes.length from h2)
    rw [runAt_succ hc, endAt_succ hc]
    rfl
  have hcw : ∀ c ∈ first.changes, c.words.length ≤ 1000 := fun c hc => (f1.ok.1.all c hc).2.1
  refine j_for (O1 := [dO dr ns c']) (R := sCh) (as := first.changes) (fun n (g : Nat) => g = n) (fun g => [some (sLstK sInt xs), some (sRef dr), some (sInt many), some (sLst (sEd C) one), some (sLst (sEd C) oth), none, some (sPa CP first), some (sPa CP second), none, some (sLst sStr ms), some (sBl (decide (first = second))), some (sLst sStr (first.run ms)), some (sInt (runAt first.changes ms g).2), some (sLst sStr (runAt first.changes ms g).1), none, none, none, none, none, none, none, none, none, none, none]) (fun _ => [dO dr ns c']) (fun c => [(14, sInt c.first), (15, sInt c.last), (16, sTupl sStr c.words)])
    (it_tupl (e_fld 0 L.PC.cl L.PC.nC (e_name 6))) (tg_tup3 (r1 := fun c : Ch => sInt c.first) (r2 := fun c : Ch => sInt c.last) (r3 := fun c : Ch => sTupl sStr c.words) 14 15 16 scLaw.nd) ⟨0, rfl, fun _ _ _ _ h => h⟩ ?_ ?_
  · rintro B1 n ch g hB hy rfl
    have hg : g < first.changes.length := (List.getElem?_eq_some_iff.mp hy).1
    have l1 := runAt_len hcw ms2 g (by omega)
    have l2 := cutA_len ms (some (runAt first.changes ms g).2) (some ch.first)
    have l3 := hcw ch (List.mem_of_getElem? hy)
    obtain ⟨a1, a2, a3, a4, a5, a6⟩ := good_at f1.ok.1 hy
    have hst : ¬ ch.first < (runAt first.changes ms g).2 ∧ ¬ (ch.first = (runAt first.changes ms g).2 ∧ 0 < (runAt first.changes ms g).2) := by
      rcases Nat.eq_zero_or_pos g with z | z
      · subst z
        have e0 : (runAt first.changes ms 0).2 = 0 := rfl
        have := a1 rfl
        rw [e0]
        omega
      · rw [runAt_end g z (by omega)]
        have := a2 z
        omega
    refine j_set 13 (s := sLst sStr ((runAt first.changes ms g).1 ++ cutA ms (some (runAt first.changes ms g).2) (some ch.first) ++ ch.words)) (O1 := [dO dr ns c']) (e_lst (ew_bin (o_cat (szl (by rw [List.length_append]; omega))) (e_lst (ew_bin (o_cat (szl (by omega))) (e_name 13) (e_lst (ew_slice (e_name 9) (po_s (e_name 12)) (po_s (e_name 14)))))) (e_lst (ew_callTy c_listT L.Cc.list (by decide +kernel) (ea_cons (e_name 16) ea_nil))))) ?_ scLaw.nd
    refine j_if (O1 := [dO dr ns c']) (u := false) (t_eq (t_w (tw_or2 (t_cmp o_lt (e_name 14) (e_name 12)) (tw_or2 (t_w (tw_and2 (t_cmp o_eq (e_name 14) (e_name 12)) (tw_and1 (t_cmp o_gt (e_name 12) e_int)))) (tw_or1 (t_w (tw_and2 (t_cmp o_eq (e_name 14) (e_name 15)) (tw_and1 (t_cmp (o_eqT (us := []) hr a4.str (fun t ht => by cases ht)) (e_name 16) (e_tupl (R := sStr) (as := []) el_nil (szl (by simp))))))))))) (by
        rw [decide_eq_false hst.1]
        have e2 : (decide (ch.first = (runAt first.changes ms g).2) && decide (0 < (runAt first.changes ms g).2)) = false := by
          rw [Bool.eq_false_iff]
          intro z
          simp at z
          exact hst.2 z
        rw [e2]
        rw [Bool.eq_false_iff]
        intro z
        simp at z
        exact a6 z)) (fun h => nomatch h) (fun _ => j_on ?_)
    refine j_set 12 (O1 := [dO dr ns c']) (e_name 15) (j_nil fun σ G H st => ⟨g + 1, G, rfl, ?_⟩) scLaw.nd
    show Sta K B1 [_, _, _, _, _, _, _, _, _, _, _, _, some (sInt (runAt first.changes ms (g + 1)).2), some (sLst sStr (runAt first.changes ms (g + 1)).1), _, _, _, _, _, _, _, _, _, _, _] _ σ G H
    rw [runAt_succ hy]
    unfold runStep
    rw [← List.append_assoc]
    exact st.wk (.same (.same (.same (.same (.same (.same (.same (.same (.same (.same (.same (.same (.same (.same (.skip (.skip (.skip (.same (.same (.same (.same (.same (.same (.same (.same .nil)))))))))))))))))))))))))
  rintro g rfl
  obtain ⟨bk1, bk2⟩ := PF.back1 d1 f1 (by omega)
  obtain ⟨back, hback⟩ : ∃ p, p = patchV first.changes.reverse := ⟨_, rfl⟩
  rw [← hback] at bk2
  have l1 := runAt_len hcw ms2 first.changes.length (Nat.le_refl _)
  have l2 := cutA_len ms (some (runAt first.changes ms first.changes.length).2) none
  have hrs : okStrs (first.run ms) := by rw [hrun]; exact (doneV_ok d1.edok mo).str
  refine j_if (O1 := [dO dr ns c']) (u := false) (t_eq (t_w (tw_or2 (t_cmp (o_neL (ts := first.run ms) (us := first.run ms) hr hrs hrs) (e_lst (ew_bin (o_cat (as := (runAt first.changes ms first.changes.length).1) (bs := cutA ms (some (runAt first.changes ms first.changes.length).2) none) (Nat.le_trans (show _ ≤ 1000000 by omega) (by decide))) (e_name 13) (e_lst (ew_slice (e_name 9) (po_s (e_name 12)) po_n)))) (e_name 11))
    (tw_or2 (t_cmp (o_neCh (as := back.changes) (bs := first.changes) hr (by rw [bk2]; exact cs1) cs1) (e_fld 0 L.PC.cl L.PC.nC (e_callR (s := sPa CP back) (S := fsPatch C CP) (O2 := [dO dr ns c']) (false, first.changes.reverse) L.FP hr6 L.gP (ea_cons (s := sLst (sEd C) first.changes.reverse) (e_meth0 (S := fsPEdits C CP) (O2 := [dO dr ns c']) first L.FPE hr5 L.PC.cl L.mPE (e_name 6) (by exact f1.ok)) ea_nil) (by exact bk1) (by rw [hback]; rfl))) (e_fld 0 L.PC.cl L.PC.nC (e_name 6)))
    (tw_or1 (t_cmp o_ne (e_callB c_len L.T.len PySem.boot_len (ea_cons (e_meth0 (S := fsPEdits C CP) (O2 := [dO dr ns c']) first L.FPE hr5 L.PC.cl L.mPE (e_name 6) (by exact f1.ok)) ea_nil)) (e_callB (c_lenO (S := fsPLen CP) (n := (first.changes.length : Int)) first L.sLn L.nLn L.FLn hr2 trivial (by omega)) L.T.len PySem.boot_len (ea_cons (e_name 6) ea_nil))))))) (by
      rw [bk2, List.length_reverse]
      simp)) (fun h => nomatch h) (fun _ => j_on ?_)
  obtain ⟨late, hlt⟩ : ∃ l, l = first.run ms := ⟨_, rfl⟩
  rw [← hlt] at hrun hlate hrs ⊢
  have hgap := gaps_pv (N := many + 3) d1 (by omega) (by omega)
  rw [← hms, ← hrun, ← f1.eq] at hgap
  refine j_setComp (S := sInt) (R := sStr) (as := late) 18 17 (fun _ => [dO dr ns c']) (fun _ => [dO dr ns c']) (fun _ => true) (fun n => (late.take n).map (placeV ms)) scLaw.nd (it_lst (e_name 11)) (blkOk_by (own := [("_law_word", 17)]) (N := lawN) (sc := defScope sLaw) (by decide +kernel)) (fun k y hy s H _ cl fp => ts_nil)
    (fun k y hy _ => ⟨placeV ms y, by rw [take_succ hy, List.map_append]; rfl, fun s H _ cl fp => e_ife (u := decide (y ∈ ms)) (φ := fun _ => sNon) (t_cmp o_inL (e_name 17) (e_name 9)) (fun h => ?_) (fun h => ?_)⟩) (fun k _ h => by cases h) rfl (szl (by omega)) (fun lr hlr => ?_)
  · have h : y ∈ ms := of_decide_eq_true h
    exact e_eqS (e_index (e_name 9) (e_name 17) h) (by unfold placeV; rw [if_pos h])
  · have h : y ∉ ms := of_decide_eq_false h
    exact e_eqS (e_neg e_int) (by unfold placeV; rw [if_neg h])
  rw [List.take_length]
  generalize hpl : late.map (placeV ms) = pl at hgap
  have hpe : late = [] ↔ pl = [] := by rw [← hpl]; simp
  have hpn : pl.length ≤ 220 := by rw [← hpl, List.length_map]; exact hlate
  refine j_freeze 18 (s := sLst sInt pl) rfl hlr (fun K G o => frz_lst K G lr o) ?_
  have hhd : late ≠ [] → atI pl 0 = some (pl.headD 0) := fun h => by
    cases pl with
    | nil => exact absurd (hpe.mpr rfl) h
    | cons x r => exact atI_nat (j := 0) rfl
  have hg0 : gap0 pl = if ((!decide (late = [])) && decide (0 < pl.headD 0)) = true then 1 else 0 := by
    cases pl with
    | nil =>
      have := hpe.mpr rfl
      simp [this, gap0]
    | cons x r =>
      have : ¬ late = [] := fun h => nomatch hpe.mp h
      simp [this, gap0]
  refine j_set 19 (s := sInt (gap0 pl)) (O1 := [dO dr ns c']) (e_ife (u := (!decide (late = [])) && decide (0 < pl.headD 0)) (φ := fun _ => sNon) (t_w (tw_and (t_cmp (o_neL (ts := late) (us := []) hr hrs (fun t ht => by cases ht)) (e_name 11) (e_lst (ew_lst el_nil (szl (by simp))))) (fun hu => tw_and1 (t_cmp o_gt (e_ix (i_lst (hhd (by simpa using hu))) (e_name 18) e_int) e_int)))) (fun h => e_eqS e_int (by rw [hg0, if_pos h])) (fun h => e_eqS e_int (by rw [hg0, if_neg (by rw [h]; exact Bool.false_ne_true)]))) ?_ scLaw.nd
  refine j_for (O1 := [dO dr ns c']) (R := fun y : Int × Nat => sTup [sInt (y.2 : Nat), sInt y.1]) (as := pl.zipIdx) (fun n (g : Nat) => g = n) (fun g => [some (sLstK sInt xs), some (sRef dr), some (sInt many), some (sLst (sEd C) one), some (sLst (sEd C) oth), none, some (sPa CP first), some (sPa CP second), none, some (sLst sStr ms), some (sBl (decide (first = second))), some (sLst sStr late), none, none, none, none, none, none, some (sLst sInt pl), some (sInt (gap0 pl + cntP none (pl.take g))), none, none, none, none, none]) (fun _ => [dO dr ns c']) (fun y => [(20, sInt (y.2 : Nat)), (21, sInt y.1)])
    (it_enum L.ze (e_name 18)) (tg_tup2 (r1 := fun y : Int × Nat => sInt (y.2 : Nat)) (r2 := fun y : Int × Nat => sInt y.1) 20 21 scLaw.nd) ⟨0, rfl, fun _ _ _ _ h => ?_⟩ ?_ ?_
  · rw [List.take_zero]
    show Sta _ _ [_, _, _, _, _, _, _, _, _, _, _, _, _, _, _, _, _, _, _, some (sInt (gap0 pl + 0)), _, _, _, _, _] _ _ _ _
    rw [Int.add_zero]
    exact h.wk (.same (.same (.same (.same (.same (.same (.same (.same (.same (.same (.same (.same (.skip (.skip (.same (.same (.same (.same (.same (.same (.same (.same (.same (.same (.same .nil)))))))))))))))))))))))))
  · rintro B1 n ⟨x, k⟩ g hB hy rfl
    have hyr : pl[g]? = some x ∧ k = g := by
      rw [List.getElem?_zipIdx] at hy
      cases z : pl[g]? with
      | none => rw [z] at hy; cases hy
      | some w => rw [z] at hy; cases hy; exact ⟨rfl, by simp⟩
    obtain ⟨hx, rfl⟩ := hyr
    have hk : k < pl.length := (List.getElem?_eq_some_iff.mp hx).1
    obtain ⟨bf, hbf⟩ : ∃ bf : Int, bf = if k = 0 then 0 else pl.getD (k - 1) 0 := ⟨_, rfl⟩
    have hlast : lastOr none (pl.take k) = if k = 0 then none else some bf := by
      rcases Nat.eq_zero_or_pos k with z | z
      · subst z
        rfl
      · rw [if_neg (by omega)]
        have hg := List.getElem?_eq_getElem (show k - 1 < pl.length by omega)
        have ht := take_succ hg
        rw [show k - 1 + 1 = k by omega] at ht
        unfold lastOr
        rw [ht, List.getLast?_concat, hbf, if_neg (by omega), List.getD_eq_getElem?_getD, hg]
        rfl
    refine j_set 22 (s := sInt bf) (O1 := [dO dr ns c']) (e_ife (u := decide (0 < ((k : Nat) : Int))) (φ := fun _ => sNon) (t_cmp o_gt (e_name 20) e_int) (fun h => ?_) (fun h => ?_)) ?_ scLaw.nd
    · have h : 0 < ((k : Nat) : Int) := of_decide_eq_true h
      have hg := List.getElem?_eq_getElem (show k - 1 < pl.length by omega)
      refine e_ix (i_lst (i := ((k : Nat) : Int) - 1) (y := bf) ?_) (e_name 18) (e_bin o_sub (e_name 20) e_int)
      rw [show ((k : Nat) : Int) - 1 = ((k - 1 : Nat) : Int) by omega]
      refine atI_nat ?_
      rw [hg, hbf, if_neg (by omega), List.getD_eq_getElem?_getD, hg]
      rfl
    · have h : ¬ 0 < ((k : Nat) : Int) := of_decide_eq_false h
      refine e_eqS e_int ?_
      rw [hbf, if_pos (by omega)]
    have next : cntP none (pl.take (k + 1)) = cntP none (pl.take k) + (if condB (lastOr none (pl.take k)) x then 1 else 0) := by
      rw [take_succ hx, cntP_snoc]
    refine j_if (O1 := [dO dr ns c']) (u := condB (lastOr none (pl.take k)) x) (t_eq (t_w (tw_or2 (t_w (tw_and2 (t_cmp o_lt (e_name 21) e_int) (tw_and1 (t_w (tw_or2 (t_cmp o_eq (e_name 20) e_int) (tw_or1 (t_cmp o_ge (e_name 22) e_int)))))))
      (tw_or1 (t_w (tw_and2 (t_cmp o_gt (e_name 20) e_int) (tw_and2 (t_cmp o_ge (e_name 21) e_int) (tw_and2 (t_cmp o_ge (e_name 22) e_int) (tw_and1 (t_cmp o_ne (e_name 21) (e_bin o_add (e_name 22) e_int)))))))))) ?_) (fun h => ?_) (fun h => ?_)
    · rw [hlast]
      rcases Nat.eq_zero_or_pos k with z | z
      · subst z
        simp [condB]
      · rw [if_neg (by omega)]
        have e1 : decide (((k : Nat) : Int) = 0) = false := decide_eq_false (by omega)
        have e2 : decide (0 < ((k : Nat) : Int)) = true := decide_eq_true (by omega)
        rw [e1, e2]
        unfold condB
        simp
    · refine j_set 19 (s := sInt (gap0 pl + cntP none (pl.take k) + 1)) (O1 := [dO dr ns c']) (e_bin o_add (e_name 19) e_int) (j_on (j_nil fun σ G H st => ⟨k + 1, G, rfl, ?_⟩)) scLaw.nd
      show Sta K B1 [_, _, _, _, _, _, _, _, _, _, _, _, _, _, _, _, _, _, _, some (sInt (gap0 pl + cntP none (pl.take (k + 1)))), _, _, _, _, _] _ σ G H
      rw [next, if_pos h, ← Int.add_assoc]
      exact st.wk (.same (.same (.same (.same (.same (.same (.same (.same (.same (.same (.same (.same (.same (.same (.same (.same (.same (.same (.same (.same (.skip (.skip (.skip (.same (.same .nil)))))))))))))))))))))))))
    · refine j_on (j_nil fun σ G H st => ⟨k + 1, G, rfl, ?_⟩)
      show Sta K B1 [_, _, _, _, _, _, _, _, _, _, _, _, _, _, _, _, _, _, _, some (sInt (gap0 pl + cntP none (pl.take (k + 1)))), _, _, _, _, _] _ σ G H
      rw [next, if_neg (by rw [h]; exact Bool.false_ne_true), Int.add_zero]
      exact st.wk (.same (.same (.same (.same (.same (.same (.same (.same (.same (.same (.same (.same (.same (.same (.same (.same (.same (.same (.same (.same (.skip (.skip (.skip (.same (.same .nil)))))))))))))))))))))))))
  rintro g rfl
  rw [List.length_zipIdx, List.take_length, hgap]
  refine j_if (O1 := [dO dr ns c']) (u := false) (t_eq (t_cmp o_ne (e_callB (c_lenO (S := fsPLen CP) (n := (first.changes.length : Int)) first L.sLn L.nLn L.FLn hr2 trivial (by omega)) L.T.len PySem.boot_len (ea_cons (e_name 6) ea_nil)) (e_name 19)) (by simp)) (fun h => nomatch h) (fun _ => j_on ?_)
  clear hpe hhd hg0 hpn hpl runAt_end hback bk1 bk2 l1 l2
  have d3 : DrOk (many + grow one) (esAt ns c' (many + grow one) (2 : Int).toNat).es := es_dr c5 hg1 (by decide)
  have k3 := esAt_ok (ns := ns) (c := c') (many := many + grow one) c5 hg1 (2 : Int).toNat
  obtain ⟨S3, hS3⟩ : ∃ S, S = esAt ns c' (many + grow one) (2 : Int).toNat := ⟨_, rfl⟩
  rw [← hS3] at d3 k3
  have l3 : S3.es.length = 2 := k3.len
  have dw : DrOk many (one ++ S3.es) := d1.app d3 (by omega)
  obtain ⟨two, f3⟩ := d3.pf
  obtain ⟨whole, f4⟩ := dw.pf
  obtain ⟨pb1, pb2⟩ := PF.back d1 d3 f1 f3 (by omega)
  have hbeh : behindV first two = whole := by
    have := behind_spec d1.pv.1 d3.pv.1 dw.pv.1 (by rw [← f1.eq, ← f3.eq]; exact pb1) d1.edok
    rw [← f1.eq, ← f3.eq, ← f4.eq] at this
    exact this
  refine j_set 23 (s := sLst (sEd C) (one ++ S3.es)) (O1 := [dO dr ns S3.c]) (e_lst (ew_bin (o_cat (szl (by omega))) (e_name 3) (e_callR (s := sLst (sEd C) S3.es) (S := fsEditsD C) (O2 := []) ⟨dr, ns, c', many + grow one, 2⟩ L.FE hr7 L.gE (ea_cons (O1 := [dO dr ns c']) (e_name 1) (ea_cons (s := sInt (many + grow one)) (O1 := [dO dr ns c']) (e_bin o_add (e_name 2) (e_eqS (e_meth0 (S := fsPGrowth CP) (O2 := [dO dr ns c']) first L.FPG hr2 L.PC.cl L.mPG (e_name 6) (by show first.changes.length ≤ 1000; omega)) (by show sInt first.growth = _; rw [f1.grow]))) (ea_cons (O1 := [dO dr ns c']) e_int ea_nil))) (by show 0 ≤ c' ∧ 0 ≤ many + grow one ∧ (0 : Int) ≤ 2 ∧ (2 : Int) ≤ 100; omega) (by rw [hS3]; rfl) (by rw [hS3]; rfl)))) ?_ scLaw.nd
  generalize S3.es = e2 at d3 l3 dw f3 f4 pb1 pb2 hbeh
  generalize S3.c = c''
  clear k3 hS3
  have hbo : BehOk (first, two) := ⟨f1.ok, f3.ok, pb2, by show (behindV first two).ok; rw [hbeh]; exact f4.ok⟩
  refine j_set 24 (s := sPa CP whole) (O1 := [dO dr ns c'']) (e_callR (S := fsBehind CP) (O2 := [dO dr ns c'']) (first, two) L.FB hr7 L.gB (ea_cons (e_name 6) (ea_cons (s := sPa CP two) (e_callR (S := fsPatch C CP) (O2 := [dO dr ns c'']) (false, e2) L.FP hr6 L.gP (ea_cons (s := sLst (sEd C) e2) (e_eqS (e_lst (ew_slice (e_name 23) (po_s (e_callB c_len L.T.len PySem.boot_len (ea_cons (e_name 3) ea_nil))) po_n)) (by rw [cutA_drop _ (by omega), Int.toNat_natCast, List.drop_left])) ea_nil) (by exact d3.pv.2) (by rw [f3.eq]; rfl)) ea_nil)) (by exact hbo) (by rw [← hbeh]; rfl)) ?_ scLaw.nd
  refine j_if (O1 := [dO dr ns c'']) (u := false) (t_eq (t_w (tw_or2 (t_cmp (o_neO (S := fsPEq CP) (u := decide (whole = whole)) (whole, whole) L.sQ L.nQ L.hO L.hne L.FQ hr2 ⟨f4.ok, f4.ok⟩) (e_name 24) (e_callR (S := fsPatch C CP) (O2 := [dO dr ns c'']) (false, one ++ e2) L.FP hr6 L.gP (ea_cons (s := sLst (sEd C) (one ++ e2)) (e_name 23) ea_nil) (by exact dw.pv.2) (by rw [f4.eq]; rfl)))
    (tw_or1 (t_cmp (o_neL (ts := whole.run ms) (us := doneV (one ++ e2) ms) hr (by rw [f4.run ms mo ms3]; exact (doneV_ok dw.edok mo).str) (doneV_ok dw.edok mo).str) (e_callO (S := fsPCall CP) (whole, false, ms) L.mC L.FC hr4 (e_name 24) (ea_cons (e_name 9) ea_nil) (f4.fits ms mo ms2 ms3)) (e_callR (S := fsDone C) (O2 := [dO dr ns c'']) (one ++ e2, ms) L.FD hr1 L.gD (ea_cons (e_name 23) (ea_cons (e_name 9) ea_nil)) (dw.done ms2)))))) (by
      rw [f4.run ms mo ms3]
      simp)) (fun h => nomatch h) (fun _ => j_on ?_)
  refine j_if (O1 := [dO dr ns c'']) (t_cmp o_eq (e_fld 1 L.PC.cl L.PC.nL (e_name 6)) e_int) (fun h => j_ret (O1 := [dO dr ns c'']) (s := sBl true) e_bl (fin_ret hf (fun w hw => nomatch hw) fun G v hv => hv)) (fun h => j_on ?_)
  have hne : ¬ first.least = 0 := of_decide_eq_false h
  have hl := f1.least
  have mw : (marksV (first.least - 1)).length = (first.least - 1).toNat := marksV_len _
  refine j_tryR (S := frPCall CP) (ss := [sLst sStr (marksV (first.least - 1))]) (tab := paTab first) (first, false, marksV (first.least - 1)) L.BE L.mC L.FCR hr4 (fun pn xe => e_name 6)
    (fun pn xe => ea_cons (e_callR (s := sLst sStr (marksV (first.least - 1))) (S := fsMarks) (O2 := [dO dr ns c'']) (first.least - 1) L.FM hr1 L.gM (ea_cons (e_bin o_sub (e_fld 1 L.PC.cl L.PC.nL (e_name 6)) e_int) ea_nil) (by show 0 ≤ first.least - 1 ∧ first.least - 1 ≤ 23; omega)) ea_nil) (by
      show okWords (marksV (first.least - 1)) ∧ (marksV (first.least - 1)).length ≤ 200 ∧ ((marksV (first.least - 1)).length : Int) < first.least
      exact ⟨marksV_ok (by omega), by omega, by omega⟩) rfl (fun a oe pn hot => ?_)
  have W : Warm (Cx.suite (cxD P w K mg base lawN "law" sLaw f cdv A outer s H EE) a ((a, oe) :: pn)) (a, oe) := Warm.of_pn hot List.mem_cons_self
  have hh4 : RoomH 5 (Cx.suite (cxD P w K mg base lawN "law" sLaw f cdv A outer s H EE) a ((a, oe) :: pn)).A := ⟨hr5.dp, hr5.un⟩
  have hh1 : RoomH 1 (Cx.suite (cxD P w K mg base lawN "law" sLaw f cdv A outer s H EE) a ((a, oe) :: pn)).A := hh4.mono (by decide)
  refine j_ret (O1 := [dO dr ns c'']) (e_cmp (o_eqOW (S := fsPEq CP) (u := decide (first = first)) W (first, first) L.sQ L.nQ L.FQH hh1 ⟨f1.ok, f1.ok⟩) (e_ins (ew_makeW (S := fsPInit CP) W (fun q => (q, first)) L.MP L.FPIH hh4 L.PC.gP (ea_cons (e_fld 0 L.PC.cl L.PC.nC (e_name 6)) (ea_cons (e_fld 1 L.PC.cl L.PC.nL (e_name 6)) ea_nil)) (fun q => f1.ok) (fun _ => rfl) (fun _ => rfl) (fun _ => rfl) (fun _ => rfl) (fun _ => rfl) rfl (by decide))) (e_name 6)) (fin_ret hf (fun w hw => nomatch hw) fun G v hv => ?_)
  have hv : v = V.bl (decide (first = first)) := hv
  show v = V.bl true
  rw [hv]
  simp
end
end K50

namespace K50
open PySem L2 Gd
/-- except X takes an exception of the class X -/
theorem exc_own {K : PySem.W.Frag} {CB : Addr} (bF : PySem.W.subIn K (.ref CB) (.type "BaseException") = some true) (iF : PySem.W.isClsIn K CB = true) (tF : PySem.W.typeIn K (.ref CB) = some (.type "type")) (sF : PySem.W.subIn K (.ref CB) (.ref CB) = some true) : PySem.W.exmOne K (.ref CB) (.ref CB) = some true := by
  have a1 : (PySem.W.subIn K (.ref CB) (.type "BaseException") == some true) = true := by rw [bF]; rfl
  have a2 : ((PySem.W.clsIn K CB).isSome && PySem.W.typeIn K (.ref CB) == some (.type "type")) = true := by
    rw [show (PySem.W.clsIn K CB).isSome = true from iF, tF]
    rfl
  unfold PySem.W.exmOne
  rw [if_pos a1]
  exact (if_pos a2).trans sF
theorem all_mk {l : PySem.W.OpenLaw} {w : World} {K : PySem.W.Frag} {h : Heap} {mg : Str → Option Value} {fa : Addr} (X : K.In h) (G : h.Ns mainGlobals mg) (hfa : mg "law" = some (.ref fa))
    {fw : Addr} {odw anw : Option Addr} {slw : Array (Option Value)} {ocw kVw dcw pmw cdw ctw : Value}
    {ftk : Addr} {odtk antk : Option Addr} {sltk : Array (Option Value)} {octk kVtk dctk pmtk cdtk cttk : Value}
    {fk : Addr} {odk ank : Option Addr} {slk : Array (Option Value)} {ock dck pmk cdk ctk : Value}
    {fck : Addr} {odck anck : Option Addr} {slck : Array (Option Value)} {occk kVck dcck pmck cdck ctck : Value}
    {far : Addr} {odar anar : Option Addr} {slar : Array (Option Value)} {ocar kVar dcar pmar cdar ctar : Value}
    {fjo : Addr} {odjo anjo : Option Addr} {sljo : Array (Option Value)} {ocjo kVjo dcjo pmjo cdjo ctjo : Value}
    {fpt : Addr} {odpt anpt : Option Addr} {slpt : Array (Option Value)} {ocpt kVpt dcpt pmpt cdpt ctpt : Value}
    {fcp : Addr} {odcp ancp : Option Addr} {slcp : Array (Option Value)} {occp kVcp dccp pmcp cdcp ctcp : Value}
    {fbe : Addr} {odbe anbe : Option Addr} {slbe : Array (Option Value)} {ocbe kVbe dcbe pmbe cdbe ctbe : Value}
    {fgo : Addr} {odgo ango : Option Addr} {slgo : Array (Option Value)} {ocgo kVgo dcgo pmgo cdgo ctgo : Value}
    {fce : Addr} {odce ance : Option Addr} {slce : Array (Option Value)} {occe kVce dcce pmce cdce ctce : Value}
    {fdr : Addr} {oddr andr : Option Addr} {sldr : Array (Option Value)} {ocdr kVdr dcdr pmdr cddr ctdr : Value}
    {fnu : Addr} {odnu annu : Option Addr} {slnu : Array (Option Value)} {ocnu kVnu dcnu pmnu cdnu ctnu : Value}
    {fne : Addr} {odne anne : Option Addr} {slne : Array (Option Value)} {ocne kVne dcne pmne cdne ctne : Value}
    {fpi : Addr} {odpi anpi : Option Addr} {slpi : Array (Option Value)} {ocpi kVpi dcpi pmpi cdpi ctpi : Value}
    {fwo : Addr} {odwo anwo : Option Addr} {slwo : Array (Option Value)} {ocwo kVwo dcwo pmwo cdwo ctwo : Value}
    {fed : Addr} {oded aned : Option Addr} {sled : Array (Option Value)} {oced kVed dced pmed cded cted : Value}
    {fes : Addr} {odes anes : Option Addr} {sles : Array (Option Value)} {oces kVes dces pmes cdes ctes : Value}
    {fdn : Addr} {oddn andn : Option Addr} {sldn : Array (Option Value)} {ocdn kVdn dcdn pmdn cddn ctdn : Value}
    {fma : Addr} {odma anma : Option Addr} {slma : Array (Option Value)} {ocma kVma dcma pmma cdma ctma : Value}
    {fle : Addr} {odle anle : Option Addr} {slle : Array (Option Value)} {ocle kVle dcle pmle cdle ctle : Value}
    {fla : Addr} {odla anla : Option Addr} {slla : Array (Option Value)} {ocla kVla dcla pmla cdla ctla : Value}
    {fEI : Addr} {odEI anEI : Option Addr} {slEI : Array (Option Value)} {ocEI kVEI dcEI pmEI cdEI ctEI : Value}
    {fEG : Addr} {odEG anEG : Option Addr} {slEG : Array (Option Value)} {ocEG kVEG dcEG pmEG cdEG ctEG : Value}
    {fPI : Addr} {odPI anPI : Option Addr} {slPI : Array (Option Value)} {ocPI kVPI dcPI pmPI cdPI ctPI : Value}
    {fPQ : Addr} {odPQ anPQ : Option Addr} {slPQ : Array (Option Value)} {ocPQ kVPQ dcPQ pmPQ cdPQ ctPQ : Value}
    {fPL : Addr} {odPL anPL : Option Addr} {slPL : Array (Option Value)} {ocPL kVPL dcPL pmPL cdPL ctPL : Value}
    {fPT : Addr} {odPT anPT : Option Addr} {slPT : Array (Option Value)} {ocPT kVPT dcPT pmPT cdPT ctPT : Value}
    {fPB : Addr} {odPB anPB : Option Addr} {slPB : Array (Option Value)} {ocPB kVPB dcPB pmPB cdPB ctPB : Value}
    {fPC : Addr} {odPC anPC : Option Addr} {slPC : Array (Option Value)} {ocPC kVPC dcPC pmPC cdPC ctPC : Value}
    {fPG : Addr} {odPG anPG : Option Addr} {slPG : Array (Option Value)} {ocPG kVPG dcPG pmPG cdPG ctPG : Value}
    {fPE : Addr} {odPE anPE : Option Addr} {slPE : Array (Option Value)} {ocPE kVPE dcPE pmPE cdPE ctPE : Value}
    {fQI : Addr} {odQI anQI : Option Addr} {slQI : Array (Option Value)} {ocQI kVQI dcQI pmQI cdQI ctQI : Value}
    {fQC : Addr} {odQC anQC : Option Addr} {slQC : Array (Option Value)} {ocQC kVQC dcQC pmQC cdQC ctQC : Value}
    {fQS : Addr} {odQS anQS : Option Addr} {slQS : Array (Option Value)} {ocQS kVQS dcQS pmQS cdQS ctQS : Value}
    {fQP : Addr} {odQP anQP : Option Addr} {slQP : Array (Option Value)} {ocQP kVQP dcQP pmQP cdQP ctQP : Value}
    {fQE : Addr} {odQE anQE : Option Addr} {slQE : Array (Option Value)} {ocQE kVQE dcQE pmQE cdQE ctQE : Value}
    {fQT : Addr} {odQT anQT : Option Addr} {slQT : Array (Option Value)} {ocQT kVQT dcQT pmQT cdQT ctQT : Value}
    {C CP CQ CB Dk aK aS : Addr} {odK odS : Option Addr} {slK slS : Array (Option Value)} {itK itS : Array Value} {nK nS : Nat} {tL tN tM tE : _}
    {nm : Str} {q : Str} {NN : Addr} {bs bm : List Value} {hd0 sn sub ab col dd k0 k1 k2 k3 k5 id0 : _}
    (na_w : PySem.W.nsIn K mainGlobals "is_word" = some (some (.ref fw)))
    (nl_w : K.lookup fw = some ⟨ocw, odw, .func (PySem.W.fnOf "is_word" "is_word" (defArgs sIsWord) (defBody sIsWord) (defScope sIsWord) .none kVw dcw pmw anw cdw ctw), slw⟩)
    (nc_w : PySem.W.codeIn K cdw "is_word" = true)
    (nk_w : PySem.W.keepIn K (.ref fw) = true)
    (na_tk : PySem.W.nsIn K mainGlobals "is_token" = some (some (.ref ftk)))
    (nl_tk : K.lookup ftk = some ⟨octk, odtk, .func (PySem.W.fnOf "is_token" "is_token" (defArgs sIsToken) (defBody sIsToken) (defScope sIsToken) .none kVtk dctk pmtk antk cdtk cttk), sltk⟩)
    (nc_tk : PySem.W.codeIn K cdtk "is_token" = true)
    (nk_tk : PySem.W.keepIn K (.ref ftk) = true)
    (na_k : PySem.W.nsIn K mainGlobals "check_words" = some (some (.ref fk)))
    (nl_k : K.lookup fk = some ⟨ock, odk, .func (PySem.W.fnOf "check_words" "check_words" (defArgs sCheck) (defBody sCheck) (defScope sCheck) .none (.ref Dk) dck pmk ank cdk ctk), slk⟩)
    (nc_k : PySem.W.codeIn K cdk "check_words" = true)
    (nk_k : PySem.W.keepIn K (.ref fk) = true)
    (na_ck : PySem.W.nsIn K mainGlobals "check_edits" = some (some (.ref fck)))
    (nl_ck : K.lookup fck = some ⟨occk, odck, .func (PySem.W.fnOf "check_edits" "check_edits" (defArgs sCheckEdits) (defBody sCheckEdits) (defScope sCheckEdits) .none kVck dcck pmck anck cdck ctck), slck⟩)
    (nc_ck : PySem.W.codeIn K cdck "check_edits" = true)
    (nk_ck : PySem.W.keepIn K (.ref fck) = true)
    (na_ar : PySem.W.nsIn K mainGlobals "are_changes" = some (some (.ref far)))
    (nl_ar : K.lookup far = some ⟨ocar, odar, .func (PySem.W.fnOf "are_changes" "are_changes" (defArgs sAre) (defBody sAre) (defScope sAre) .none kVar dcar pmar anar cdar ctar), slar⟩)
    (nc_ar : PySem.W.codeIn K cdar "are_changes" = true)
    (nk_ar : PySem.W.keepIn K (.ref far) = true)
    (na_jo : PySem.W.nsIn K mainGlobals "joined" = some (some (.ref fjo)))
    (nl_jo : K.lookup fjo = some ⟨ocjo, odjo, .func (PySem.W.fnOf "joined" "joined" (defArgs sJoined) (defBody sJoined) (defScope sJoined) .none kVjo dcjo pmjo anjo cdjo ctjo), sljo⟩)
    (nc_jo : PySem.W.codeIn K cdjo "joined" = true)
    (nk_jo : PySem.W.keepIn K (.ref fjo) = true)
    (na_pt : PySem.W.nsIn K mainGlobals "patch" = some (some (.ref fpt)))
    (nl_pt : K.lookup fpt = some ⟨ocpt, odpt, .func (PySem.W.fnOf "patch" "patch" (defArgs sPatch) (defBody sPatch) (defScope sPatch) .none kVpt dcpt pmpt anpt cdpt ctpt), slpt⟩)
    (nc_pt : PySem.W.codeIn K cdpt "patch" = true)
    (nk_pt : PySem.W.keepIn K (.ref fpt) = true)
    (na_cp : PySem.W.nsIn K mainGlobals "check_patch" = some (some (.ref fcp)))
    (nl_cp : K.lookup fcp = some ⟨occp, odcp, .func (PySem.W.fnOf "check_patch" "check_patch" (defArgs sCheckPatch) (defBody sCheckPatch) (defScope sCheckPatch) .none kVcp dccp pmcp ancp cdcp ctcp), slcp⟩)
    (nc_cp : PySem.W.codeIn K cdcp "check_patch" = true)
    (nk_cp : PySem.W.keepIn K (.ref fcp) = true)
    (na_be : PySem.W.nsIn K mainGlobals "behind" = some (some (.ref fbe)))
    (nl_be : K.lookup fbe = some ⟨ocbe, odbe, .func (PySem.W.fnOf "behind" "behind" (defArgs sBehind) (defBody sBehind) (defScope sBehind) .none kVbe dcbe pmbe anbe cdbe ctbe), slbe⟩)
    (nc_be : PySem.W.codeIn K cdbe "behind" = true)
    (nk_be : PySem.W.keepIn K (.ref fbe) = true)
    (na_go : PySem.W.nsIn K mainGlobals "growth_of" = some (some (.ref fgo)))
    (nl_go : K.lookup fgo = some ⟨ocgo, odgo, .func (PySem.W.fnOf "growth_of" "growth_of" (defArgs sGrowthOf) (defBody sGrowthOf) (defScope sGrowthOf) .none kVgo dcgo pmgo ango cdgo ctgo), slgo⟩)
    (nc_go : PySem.W.codeIn K cdgo "growth_of" = true)
    (nk_go : PySem.W.keepIn K (.ref fgo) = true)
    (na_ce : PySem.W.nsIn K mainGlobals "_law_cell_at" = some (some (.ref fce)))
    (nl_ce : K.lookup fce = some ⟨occe, odce, .func (PySem.W.fnOf "_law_cell_at" "_law_cell_at" (defArgs sCell) (defBody sCell) (defScope sCell) .none kVce dcce pmce ance cdce ctce), slce⟩)
    (nc_ce : PySem.W.codeIn K cdce "_law_cell_at" = true)
    (nk_ce : PySem.W.keepIn K (.ref fce) = true)
    (na_dr : PySem.W.nsIn K mainGlobals "_law_draw" = some (some (.ref fdr)))
    (nl_dr : K.lookup fdr = some ⟨ocdr, oddr, .func (PySem.W.fnOf "_law_draw" "_law_draw" (defArgs sDraw) (defBody sDraw) (defScope sDraw) .none kVdr dcdr pmdr andr cddr ctdr), sldr⟩)
    (nc_dr : PySem.W.codeIn K cddr "_law_draw" = true)
    (nk_dr : PySem.W.keepIn K (.ref fdr) = true)
    (na_nu : PySem.W.nsIn K mainGlobals "_law_number" = some (some (.ref fnu)))
    (nl_nu : K.lookup fnu = some ⟨ocnu, odnu, .func (PySem.W.fnOf "_law_number" "_law_number" (defArgs sNumber) (defBody sNumber) (defScope sNumber) .none kVnu dcnu pmnu annu cdnu ctnu), slnu⟩)
    (nc_nu : PySem.W.codeIn K cdnu "_law_number" = true)
    (nk_nu : PySem.W.keepIn K (.ref fnu) = true)
    (na_ne : PySem.W.nsIn K mainGlobals "_law_next" = some (some (.ref fne)))
    (nl_ne : K.lookup fne = some ⟨ocne, odne, .func (PySem.W.fnOf "_law_next" "_law_next" (defArgs sNext) (defBody sNext) (defScope sNext) .none kVne dcne pmne anne cdne ctne), slne⟩)
    (nc_ne : PySem.W.codeIn K cdne "_law_next" = true)
    (nk_ne : PySem.W.keepIn K (.ref fne) = true)
    (na_pi : PySem.W.nsIn K mainGlobals "_law_pick" = some (some (.ref fpi)))
    (nl_pi : K.lookup fpi = some ⟨ocpi, odpi, .func (PySem.W.fnOf "_law_pick" "_law_pick" (defArgs sPick) (defBody sPick) (defScope sPick) .none kVpi dcpi pmpi anpi cdpi ctpi), slpi⟩)
    (nc_pi : PySem.W.codeIn K cdpi "_law_pick" = true)
    (nk_pi : PySem.W.keepIn K (.ref fpi) = true)
    (na_wo : PySem.W.nsIn K mainGlobals "_law_words" = some (some (.ref fwo)))
    (nl_wo : K.lookup fwo = some ⟨ocwo, odwo, .func (PySem.W.fnOf "_law_words" "_law_words" (defArgs sWordsD) (defBody sWordsD) (defScope sWordsD) .none kVwo dcwo pmwo anwo cdwo ctwo), slwo⟩)
    (nc_wo : PySem.W.codeIn K cdwo "_law_words" = true)
    (nk_wo : PySem.W.keepIn K (.ref fwo) = true)
    (na_ed : PySem.W.nsIn K mainGlobals "_law_edit" = some (some (.ref fed)))
    (nl_ed : K.lookup fed = some ⟨oced, oded, .func (PySem.W.fnOf "_law_edit" "_law_edit" (defArgs sEditD) (defBody sEditD) (defScope sEditD) .none kVed dced pmed aned cded cted), sled⟩)
    (nc_ed : PySem.W.codeIn K cded "_law_edit" = true)
    (nk_ed : PySem.W.keepIn K (.ref fed) = true)
    (na_es : PySem.W.nsIn K mainGlobals "_law_edits" = some (some (.ref fes)))
    (nl_es : K.lookup fes = some ⟨oces, odes, .func (PySem.W.fnOf "_law_edits" "_law_edits" (defArgs sEditsD) (defBody sEditsD) (defScope sEditsD) .none kVes dces pmes anes cdes ctes), sles⟩)
    (nc_es : PySem.W.codeIn K cdes "_law_edits" = true)
    (nk_es : PySem.W.keepIn K (.ref fes) = true)
    (na_dn : PySem.W.nsIn K mainGlobals "_law_done" = some (some (.ref fdn)))
    (nl_dn : K.lookup fdn = some ⟨ocdn, oddn, .func (PySem.W.fnOf "_law_done" "_law_done" (defArgs sDone) (defBody sDone) (defScope sDone) .none kVdn dcdn pmdn andn cddn ctdn), sldn⟩)
    (nc_dn : PySem.W.codeIn K cddn "_law_done" = true)
    (nk_dn : PySem.W.keepIn K (.ref fdn) = true)
    (na_ma : PySem.W.nsIn K mainGlobals "_law_marks" = some (some (.ref fma)))
    (nl_ma : K.lookup fma = some ⟨ocma, odma, .func (PySem.W.fnOf "_law_marks" "_law_marks" (defArgs sMarks) (defBody sMarks) (defScope sMarks) .none kVma dcma pmma anma cdma ctma), slma⟩)
    (nc_ma : PySem.W.codeIn K cdma "_law_marks" = true)
    (nk_ma : PySem.W.keepIn K (.ref fma) = true)
    (na_le : PySem.W.nsIn K mainGlobals "_law_least" = some (some (.ref fle)))
    (nl_le : K.lookup fle = some ⟨ocle, odle, .func (PySem.W.fnOf "_law_least" "_law_least" (defArgs sLeast) (defBody sLeast) (defScope sLeast) .none kVle dcle pmle anle cdle ctle), slle⟩)
    (nc_le : PySem.W.codeIn K cdle "_law_least" = true)
    (nk_le : PySem.W.keepIn K (.ref fle) = true)
    (na_la : PySem.W.nsIn K mainGlobals "law" = some (some (.ref fla)))
    (nl_la : K.lookup fla = some ⟨ocla, odla, .func (PySem.W.fnOf "law" "law" (defArgs sLaw) (defBody sLaw) (defScope sLaw) .none kVla dcla pmla anla cdla ctla), slla⟩)
    (nc_la : PySem.W.codeIn K cdla "law" = true)
    (nk_la : PySem.W.keepIn K (.ref fla) = true)
    (aC : PySem.W.nsIn K mainGlobals "Edit" = some (some (.ref C)))
    (aCP : PySem.W.nsIn K mainGlobals "Patch" = some (some (.ref CP)))
    (aCQ : PySem.W.nsIn K mainGlobals "Pieces" = some (some (.ref CQ)))
    (na_EI : PySem.W.findIn K (.ref C) "__init__" = some (some (.ref fEI)))
    (ni_EI : PySem.W.isFn K (.ref fEI) = true)
    (nl_EI : K.lookup fEI = some ⟨ocEI, odEI, .func (PySem.W.fnOf "__init__" "Edit.__init__" (defArgs sInit) (defBody sInit) (defScope sInit) .none kVEI dcEI pmEI anEI cdEI ctEI), slEI⟩)
    (nc_EI : PySem.W.codeIn K cdEI "Edit.__init__" = true)
    (nk_EI : PySem.W.keepIn K (.ref fEI) = true)
    (na_EG : PySem.W.findIn K (.ref C) "growth" = some (some (.ref fEG)))
    (ni_EG : PySem.W.isFn K (.ref fEG) = true)
    (nl_EG : K.lookup fEG = some ⟨ocEG, odEG, .func (PySem.W.fnOf "growth" "Edit.growth" (defArgs sGrowth) (defBody sGrowth) (defScope sGrowth) .none kVEG dcEG pmEG anEG cdEG ctEG), slEG⟩)
    (nc_EG : PySem.W.codeIn K cdEG "Edit.growth" = true)
    (nk_EG : PySem.W.keepIn K (.ref fEG) = true)
    (na_PI : PySem.W.findIn K (.ref CP) "__init__" = some (some (.ref fPI)))
    (ni_PI : PySem.W.isFn K (.ref fPI) = true)
    (nl_PI : K.lookup fPI = some ⟨ocPI, odPI, .func (PySem.W.fnOf "__init__" "Patch.__init__" (defArgs sPInit) (defBody sPInit) (defScope sPInit) .none kVPI dcPI pmPI anPI cdPI ctPI), slPI⟩)
    (nc_PI : PySem.W.codeIn K cdPI "Patch.__init__" = true)
    (nk_PI : PySem.W.keepIn K (.ref fPI) = true)
    (na_PQ : PySem.W.findIn K (.ref CP) "__eq__" = some (some (.ref fPQ)))
    (ni_PQ : PySem.W.isFn K (.ref fPQ) = true)
    (nl_PQ : K.lookup fPQ = some ⟨ocPQ, odPQ, .func (PySem.W.fnOf "__eq__" "Patch.__eq__" (defArgs sPEq) (defBody sPEq) (defScope sPEq) .none kVPQ dcPQ pmPQ anPQ cdPQ ctPQ), slPQ⟩)
    (nc_PQ : PySem.W.codeIn K cdPQ "Patch.__eq__" = true)
    (nk_PQ : PySem.W.keepIn K (.ref fPQ) = true)
    (na_PL : PySem.W.findIn K (.ref CP) "__len__" = some (some (.ref fPL)))
    (ni_PL : PySem.W.isFn K (.ref fPL) = true)
    (nl_PL : K.lookup fPL = some ⟨ocPL, odPL, .func (PySem.W.fnOf "__len__" "Patch.__len__" (defArgs sPLen) (defBody sPLen) (defScope sPLen) .none kVPL dcPL pmPL anPL cdPL ctPL), slPL⟩)
    (nc_PL : PySem.W.codeIn K cdPL "Patch.__len__" = true)
    (nk_PL : PySem.W.keepIn K (.ref fPL) = true)
    (na_PT : PySem.W.findIn K (.ref CP) "__iter__" = some (some (.ref fPT)))
    (ni_PT : PySem.W.isFn K (.ref fPT) = true)
    (nl_PT : K.lookup fPT = some ⟨ocPT, odPT, .func (PySem.W.fnOf "__iter__" "Patch.__iter__" (defArgs sPIter) (defBody sPIter) (defScope sPIter) .none kVPT dcPT pmPT anPT cdPT ctPT), slPT⟩)
    (nc_PT : PySem.W.codeIn K cdPT "Patch.__iter__" = true)
    (nk_PT : PySem.W.keepIn K (.ref fPT) = true)
    (na_PB : PySem.W.findIn K (.ref CP) "__bool__" = some (some (.ref fPB)))
    (ni_PB : PySem.W.isFn K (.ref fPB) = true)
    (nl_PB : K.lookup fPB = some ⟨ocPB, odPB, .func (PySem.W.fnOf "__bool__" "Patch.__bool__" (defArgs sPBool) (defBody sPBool) (defScope sPBool) .none kVPB dcPB pmPB anPB cdPB ctPB), slPB⟩)
    (nc_PB : PySem.W.codeIn K cdPB "Patch.__bool__" = true)
    (nk_PB : PySem.W.keepIn K (.ref fPB) = true)
    (na_PC : PySem.W.findIn K (.ref CP) "__call__" = some (some (.ref fPC)))
    (ni_PC : PySem.W.isFn K (.ref fPC) = true)
    (nl_PC : K.lookup fPC = some ⟨ocPC, odPC, .func (PySem.W.fnOf "__call__" "Patch.__call__" (defArgs sPCall) (defBody sPCall) (defScope sPCall) .none kVPC dcPC pmPC anPC cdPC ctPC), slPC⟩)
    (nc_PC : PySem.W.codeIn K cdPC "Patch.__call__" = true)
    (nk_PC : PySem.W.keepIn K (.ref fPC) = true)
    (na_PG : PySem.W.findIn K (.ref CP) "growth" = some (some (.ref fPG)))
    (ni_PG : PySem.W.isFn K (.ref fPG) = true)
    (nl_PG : K.lookup fPG = some ⟨ocPG, odPG, .func (PySem.W.fnOf "growth" "Patch.growth" (defArgs sPGrowth) (defBody sPGrowth) (defScope sPGrowth) .none kVPG dcPG pmPG anPG cdPG ctPG), slPG⟩)
    (nc_PG : PySem.W.codeIn K cdPG "Patch.growth" = true)
    (nk_PG : PySem.W.keepIn K (.ref fPG) = true)
    (na_PE : PySem.W.findIn K (.ref CP) "edits" = some (some (.ref fPE)))
    (ni_PE : PySem.W.isFn K (.ref fPE) = true)
    (nl_PE : K.lookup fPE = some ⟨ocPE, odPE, .func (PySem.W.fnOf "edits" "Patch.edits" (defArgs sPEdits) (defBody sPEdits) (defScope sPEdits) .none kVPE dcPE pmPE anPE cdPE ctPE), slPE⟩)
    (nc_PE : PySem.W.codeIn K cdPE "Patch.edits" = true)
    (nk_PE : PySem.W.keepIn K (.ref fPE) = true)
    (na_QI : PySem.W.findIn K (.ref CQ) "__init__" = some (some (.ref fQI)))
    (ni_QI : PySem.W.isFn K (.ref fQI) = true)
    (nl_QI : K.lookup fQI = some ⟨ocQI, odQI, .func (PySem.W.fnOf "__init__" "Pieces.__init__" (defArgs sQInit) (defBody sQInit) (defScope sQInit) .none kVQI dcQI pmQI anQI cdQI ctQI), slQI⟩)
    (nc_QI : PySem.W.codeIn K cdQI "Pieces.__init__" = true)
    (nk_QI : PySem.W.keepIn K (.ref fQI) = true)
    (na_QC : PySem.W.findIn K (.ref CQ) "cut" = some (some (.ref fQC)))
    (ni_QC : PySem.W.isFn K (.ref fQC) = true)
    (nl_QC : K.lookup fQC = some ⟨ocQC, odQC, .func (PySem.W.fnOf "cut" "Pieces.cut" (defArgs sQCut) (defBody sQCut) (defScope sQCut) .none kVQC dcQC pmQC anQC cdQC ctQC), slQC⟩)
    (nc_QC : PySem.W.codeIn K cdQC "Pieces.cut" = true)
    (nk_QC : PySem.W.keepIn K (.ref fQC) = true)
    (na_QS : PySem.W.findIn K (.ref CQ) "size" = some (some (.ref fQS)))
    (ni_QS : PySem.W.isFn K (.ref fQS) = true)
    (nl_QS : K.lookup fQS = some ⟨ocQS, odQS, .func (PySem.W.fnOf "size" "Pieces.size" (defArgs sQSize) (defBody sQSize) (defScope sQSize) .none kVQS dcQS pmQS anQS cdQS ctQS), slQS⟩)
    (nc_QS : PySem.W.codeIn K cdQS "Pieces.size" = true)
    (nk_QS : PySem.W.keepIn K (.ref fQS) = true)
    (na_QP : PySem.W.findIn K (.ref CQ) "parted" = some (some (.ref fQP)))
    (ni_QP : PySem.W.isFn K (.ref fQP) = true)
    (nl_QP : K.lookup fQP = some ⟨ocQP, odQP, .func (PySem.W.fnOf "parted" "Pieces.parted" (defArgs sQParted) (defBody sQParted) (defScope sQParted) .none kVQP dcQP pmQP anQP cdQP ctQP), slQP⟩)
    (nc_QP : PySem.W.codeIn K cdQP "Pieces.parted" = true)
    (nk_QP : PySem.W.keepIn K (.ref fQP) = true)
    (na_QE : PySem.W.findIn K (.ref CQ) "edit" = some (some (.ref fQE)))
    (ni_QE : PySem.W.isFn K (.ref fQE) = true)
    (nl_QE : K.lookup fQE = some ⟨ocQE, odQE, .func (PySem.W.fnOf "edit" "Pieces.edit" (defArgs sQEdit) (defBody sQEdit) (defScope sQEdit) .none kVQE dcQE pmQE anQE cdQE ctQE), slQE⟩)
    (nc_QE : PySem.W.codeIn K cdQE "Pieces.edit" = true)
    (nk_QE : PySem.W.keepIn K (.ref fQE) = true)
    (na_QT : PySem.W.findIn K (.ref CQ) "told" = some (some (.ref fQT)))
    (ni_QT : PySem.W.isFn K (.ref fQT) = true)
    (nl_QT : K.lookup fQT = some ⟨ocQT, odQT, .func (PySem.W.fnOf "told" "Pieces.told" (defArgs sQTold) (defBody sQTold) (defScope sQTold) .none kVQT dcQT pmQT anQT cdQT ctQT), slQT⟩)
    (nc_QT : PySem.W.codeIn K cdQT "Pieces.told" = true)
    (nk_QT : PySem.W.keepIn K (.ref fQT) = true)
    (pgC : PySem.W.plainGet K C Str.empty = true)
    (hdC : PySem.W.hasDictIn K C = true)
    (poC : PySem.W.plainOver K C = true)
    (saC : PySem.W.findIn K (.ref C) "__setattr__" = some (some (.builtin "object.__setattr__")))
    (mkC : PySem.W.makesIn K C = true)
    (kcC : PySem.W.keepIn K (.ref C) = true)
    (pgCP : PySem.W.plainGet K CP Str.empty = true)
    (hdCP : PySem.W.hasDictIn K CP = true)
    (poCP : PySem.W.plainOver K CP = true)
    (saCP : PySem.W.findIn K (.ref CP) "__setattr__" = some (some (.builtin "object.__setattr__")))
    (mkCP : PySem.W.makesIn K CP = true)
    (kcCP : PySem.W.keepIn K (.ref CP) = true)
    (pgCQ : PySem.W.plainGet K CQ Str.empty = true)
    (hdCQ : PySem.W.hasDictIn K CQ = true)
    (poCQ : PySem.W.plainOver K CQ = true)
    (saCQ : PySem.W.findIn K (.ref CQ) "__setattr__" = some (some (.builtin "object.__setattr__")))
    (mkCQ : PySem.W.makesIn K CQ = true)
    (kcCQ : PySem.W.keepIn K (.ref CQ) = true)
    (nC_first : PySem.W.findIn K (.ref C) "first" = some none)
    (nC_last : PySem.W.findIn K (.ref C) "last" = some none)
    (nC_words : PySem.W.findIn K (.ref C) "words" = some none)
    (nCP_changes : PySem.W.findIn K (.ref CP) "changes" = some none)
    (nCP_least : PySem.W.findIn K (.ref CP) "least" = some none)
    (nCQ_rows : PySem.W.findIn K (.ref CQ) "rows" = some none)
    (nCQ_least : PySem.W.findIn K (.ref CQ) "least" = some none)
    (xaC : PySem.W.findIn K (.ref C) "__class__" = some (some (.builtin "object.__class__")))
    (xmC : PySem.W.mroIn K C (.type "object") = some true)
    (xaCP : PySem.W.findIn K (.ref CP) "__class__" = some (some (.builtin "object.__class__")))
    (xmCP : PySem.W.mroIn K CP (.type "object") = some true)
    (xn : PySem.W.specialIn K (.builtin "object.__class__") "__get__" = some (some (.builtin "getset_descriptor.__get__")))
    (xt : PySem.W.takesIn K (.builtin "object.__class__") = some true)
    (xf : PySem.W.fnIn K fPC = true)
    (lO : K.lookup CP = some (excClassObj nm q CP NN bs bm hd0 sn sub ab col dd k0 k1 k2 k3 k5 id0))
    (bO : bm.contains (.type "object") = true)
    (ne0 : PySem.W.findIn K (.ref CP) "__ne__" = some (some (.builtin "object.__ne__")))
    (aB : PySem.W.nsIn K mainGlobals "BadEdit" = some (some (.ref CB)))
    (xF : PySem.W.excIn K CB [.type "ValueError", .type "Exception", .type "BaseException", .type "object"] "ValueError.__new__" = true)
    (kF : PySem.W.keepIn K (.ref CB) = true)
    (bF : PySem.W.subIn K (.ref CB) (.type "BaseException") = some true)
    (tF : PySem.W.typeIn K (.ref CB) = some (.type "type"))
    (iF : PySem.W.isClsIn K CB = true)
    (sF : PySem.W.subIn K (.ref CB) (.ref CB) = some true)
    (gL : PySem.W.nsIn K mainGlobals "LETTERS" = some (some (.str letters tL)))
    (gN : PySem.W.nsIn K mainGlobals "LONGEST" = some (some (.int 10 tN)))
    (gE : PySem.W.nsIn K mainGlobals "MOST_EDITS" = some (some (.int 60 tE)))
    (gK : PySem.W.nsIn K mainGlobals "KEPT" = some (some (.ref aK)))
    (lK : K.lookup aK = some ⟨.type "tuple", odK, .seq itK nK, slK⟩)
    (sK : itK.size ≤ sizeLine)
    (vK : Vals (keptL.map V.str) itK.toList)
    (gS : PySem.W.nsIn K mainGlobals "SIGNS" = some (some (.ref aS)))
    (lS : K.lookup aS = some ⟨.type "tuple", odS, .seq itS nS, slS⟩)
    (sS : itS.size ≤ sizeLine)
    (vS : Vals (signsL.map V.str) itS.toList)
    (dh : PySem.W.nsIn K Dk "hole" = some (some (.bool false)))
    (dm : PySem.W.nsIn K Dk "most" = some (some (.int 200 tM)))
    (zlen : PySem.W.nsIn K mainGlobals "len" = some none)
    (zint : PySem.W.nsIn K mainGlobals "int" = some none)
    (zrange : PySem.W.nsIn K mainGlobals "range" = some none)
    (zall : PySem.W.nsIn K mainGlobals "all" = some none)
    (zisinstance : PySem.W.nsIn K mainGlobals "isinstance" = some none)
    (zstr : PySem.W.nsIn K mainGlobals "str" = some none)
    (zlist : PySem.W.nsIn K mainGlobals "list" = some none)
    (ztuple : PySem.W.nsIn K mainGlobals "tuple" = some none)
    (zbool : PySem.W.nsIn K mainGlobals "bool" = some none)
    (zmin : PySem.W.nsIn K mainGlobals "min" = some none)
    (zmax : PySem.W.nsIn K mainGlobals "max" = some none)
    (zsum : PySem.W.nsIn K mainGlobals "sum" = some none)
    (zenumerate : PySem.W.nsIn K mainGlobals "enumerate" = some none)
    (ziter : PySem.W.nsIn K mainGlobals "iter" = some none)
    : ∃ fd : FuncData, (∀ (s : Shared) (v : Value), BindsTo s fd ⟨[v], []⟩ [("_law_script", v)]) ∧ ∀ base : Heap, K.In base → base.Ns mainGlobals mg → FnOk l.prog w K mg base CX0 8 fa fd ["_law_script"] (fsLaw.sp K) := by
  have e := hfa.symm.trans (PySem.W.mg_of X G na_la)
  cases e
  have T : Bt mg := ⟨PySem.W.mg_none_of X G zlen, PySem.W.mg_none_of X G zint, PySem.W.mg_none_of X G zrange⟩
  have Cc : Cs K mg := ⟨⟨_, PySem.W.mg_of X G gL⟩, ⟨_, PySem.W.mg_of X G gN⟩, ⟨_, PySem.W.mg_of X G gK, .ref aK, rfl, fun G => ⟨aK, _, rfl, .inr ⟨_, _, _, lK, rfl, rfl, sK, vK⟩, All2.ofVals _⟩⟩, ⟨_, PySem.W.mg_of X G gS, .ref aS, rfl, fun G => ⟨aS, _, rfl, .inr ⟨_, _, _, lS, rfl, rfl, sS, vS⟩, All2.ofVals _⟩⟩, PySem.W.mg_none_of X G zall, PySem.W.mg_none_of X G zint, PySem.W.mg_none_of X G zisinstance, PySem.W.mg_none_of X G zstr, PySem.W.mg_none_of X G zlist, PySem.W.mg_none_of X G ztuple, PySem.W.mg_none_of X G zbool, PySem.W.mg_none_of X G zmin⟩
  have EC : EdC K mg C := ⟨⟨pgC, hdC, poC, saC⟩, nC_first, nC_last, nC_words, PySem.W.mg_of X G aC⟩
  have PC : PaC K mg CP := ⟨⟨pgCP, hdCP, poCP, saCP⟩, nCP_changes, nCP_least, PySem.W.mg_of X G aCP⟩
  have Q : QC K mg CQ := ⟨⟨pgCQ, hdCQ, poCQ, saCQ⟩, nCQ_rows, nCQ_least, PySem.W.mg_of X G aCQ⟩
  have CI : ClsI K C := ⟨EC.cl, xaC, xn, xt, xmC⟩
  have PI : ClsI K CP := ⟨PC.cl, xaCP, xn, xt, xmCP⟩
  have CO : ClsO K CP := ⟨_, _, _, _, _, _, _, _, _, _, _, _, _, _, _, _, _, lO, bO⟩
  have BE : ExcC K mg "BadEdit" CB := ⟨PySem.W.mg_of X G aB, xF, kF, bF, tF, exc_own bF iF tF sF⟩
  have M : Mk K C fEI := ⟨mkC, na_EI, ni_EI, kcC⟩
  have MP : Mk K CP fPI := ⟨mkCP, na_PI, ni_PI, kcCP⟩
  have MQ : Mk K CQ fQI := ⟨mkCQ, na_QI, ni_QI, kcCQ⟩
  have Fw := fun_mk (st := sIsWord) nl_w nc_w nk_w
  have bw := Fw.binds (ps := ["thing"]) fun _ _ _ _ _ _ us hl => match us, hl with | [_], _ => rfl
  have Ftk := fun_mk (st := sIsToken) nl_tk nc_tk nk_tk
  have btk := Ftk.binds (ps := ["thing"]) fun _ _ _ _ _ _ us hl => match us, hl with | [_], _ => rfl
  have kw : ∀ q ∈ kwsCheck, ∃ u, PySem.W.nsIn K Dk q.1 = some (some u) ∧ RelV q.2 u := by
    intro q hq
    (rcases List.mem_cons.mp hq with rfl | hq)
    · exact ⟨_, dh, rfl⟩
    · (rcases List.mem_cons.mp hq with rfl | hq)
      · exact ⟨_, dm, _, rfl⟩
      · cases hq
  have Fk : FunD K "check_words" "check_words" (defArgs sCheck) (defBody sCheck) (defScope sCheck) [] kwsCheck fk _ := ⟨⟨_, _, _, _, _, _, _, _, _, _, rfl, nl_k, nc_k, .inl ⟨rfl, rfl⟩, .inr ⟨Dk, rfl, kw⟩⟩, nk_k⟩
  have bk : ∃ ds, Vals [.bl false, .int 200] ds ∧ Binds K _ ["words", "hole", "most"] ds := Fk.binds0 1 (fun z => nomatch z) rfl fun D doc pm an cdv ct us ks h1 h2 => match us, ks, h1, h2 with | [_], [_, _], _, _ => ⟨_, _, _, _, _, _, rfl, rfl, _, _, _, _, _, _, rfl, rfl, rfl⟩
  have Fck := fun_mk (st := sCheckEdits) nl_ck nc_ck nk_ck
  have bck := Fck.binds (ps := ["edits"]) fun _ _ _ _ _ _ us hl => match us, hl with | [_], _ => rfl
  have Far := fun_mk (st := sAre) nl_ar nc_ar nk_ar
  have bar := Far.binds (ps := ["thing"]) fun _ _ _ _ _ _ us hl => match us, hl with | [_], _ => rfl
  have Fjo := fun_mk (st := sJoined) nl_jo nc_jo nk_jo
  have bjo := Fjo.binds (ps := ["changes"]) fun _ _ _ _ _ _ us hl => match us, hl with | [_], _ => rfl
  have Fpt := fun_mk (st := sPatch) nl_pt nc_pt nk_pt
  have bpt := Fpt.binds (ps := ["edits"]) fun _ _ _ _ _ _ us hl => match us, hl with | [_], _ => rfl
  have Fcp := fun_mk (st := sCheckPatch) nl_cp nc_cp nk_cp
  have bcp := Fcp.binds (ps := ["thing"]) fun _ _ _ _ _ _ us hl => match us, hl with | [_], _ => rfl
  have Fbe := fun_mk (st := sBehind) nl_be nc_be nk_be
  have bbe := Fbe.binds (ps := ["one", "other"]) fun _ _ _ _ _ _ us hl => match us, hl with | [_, _], _ => rfl
  have Fgo := fun_mk (st := sGrowthOf) nl_go nc_go nk_go
  have bgo := Fgo.binds (ps := ["change"]) fun _ _ _ _ _ _ us hl => match us, hl with | [_], _ => rfl
  have Fce := fun_mk (st := sCell) nl_ce nc_ce nk_ce
  have bce := Fce.binds (ps := ["_law_script", "_law_k"]) fun _ _ _ _ _ _ us hl => match us, hl with | [_, _], _ => rfl
  have Fdr := fun_mk (st := sDraw) nl_dr nc_dr nk_dr
  have bdr := Fdr.binds (ps := ["_law_cell", "_law_k", "_law_bound"]) fun _ _ _ _ _ _ us hl => match us, hl with | [_, _, _], _ => rfl
  have Fnu := fun_mk (st := sNumber) nl_nu nc_nu nk_nu
  have bnu := Fnu.binds (ps := ["_law_cell", "_law_k", "_law_bound"]) fun _ _ _ _ _ _ us hl => match us, hl with | [_, _, _], _ => rfl
  have Fne := fun_mk (st := sNext) nl_ne nc_ne nk_ne
  have bne := Fne.binds (ps := ["_law_draw_here", "_law_bound"]) fun _ _ _ _ _ _ us hl => match us, hl with | [_, _], _ => rfl
  have Fpi := fun_mk (st := sPick) nl_pi nc_pi nk_pi
  have bpi := Fpi.binds (ps := ["_law_draw_here", "_law_things"]) fun _ _ _ _ _ _ us hl => match us, hl with | [_, _], _ => rfl
  have Fwo := fun_mk (st := sWordsD) nl_wo nc_wo nk_wo
  have bwo := Fwo.binds (ps := ["_law_draw_here", "_law_many"]) fun _ _ _ _ _ _ us hl => match us, hl with | [_, _], _ => rfl
  have Fed := fun_mk (st := sEditD) nl_ed nc_ed nk_ed
  have bed := Fed.binds (ps := ["_law_draw_here", "_law_many"]) fun _ _ _ _ _ _ us hl => match us, hl with | [_, _], _ => rfl
  have Fes := fun_mk (st := sEditsD) nl_es nc_es nk_es
  have bes := Fes.binds (ps := ["_law_draw_here", "_law_many", "_law_turns"]) fun _ _ _ _ _ _ us hl => match us, hl with | [_, _, _], _ => rfl
  have Fdn := fun_mk (st := sDone) nl_dn nc_dn nk_dn
  have bdn := Fdn.binds (ps := ["_law_edits_here", "_law_words_here"]) fun _ _ _ _ _ _ us hl => match us, hl with | [_, _], _ => rfl
  have Fma := fun_mk (st := sMarks) nl_ma nc_ma nk_ma
  have bma := Fma.binds (ps := ["_law_many"]) fun _ _ _ _ _ _ us hl => match us, hl with | [_], _ => rfl
  have Fle := fun_mk (st := sLeast) nl_le nc_le nk_le
  have ble := Fle.binds (ps := ["_law_edits_here"]) fun _ _ _ _ _ _ us hl => match us, hl with | [_], _ => rfl
  have Fla := fun_mk (st := sLaw) nl_la nc_la nk_la
  have FEI := fun_mk (st := sInit) nl_EI nc_EI nk_EI
  have bEI := FEI.binds (ps := ["self", "first", "last", "words"]) fun _ _ _ _ _ _ us hl => match us, hl with | [_, _, _, _], _ => rfl
  have FEG := fun_mk (st := sGrowth) nl_EG nc_EG nk_EG
  have bEG := FEG.binds (ps := ["self"]) fun _ _ _ _ _ _ us hl => match us, hl with | [_], _ => rfl
  have FPI := fun_mk (st := sPInit) nl_PI nc_PI nk_PI
  have bPI := FPI.binds (ps := ["self", "changes", "least"]) fun _ _ _ _ _ _ us hl => match us, hl with | [_, _, _], _ => rfl
  have FPQ := fun_mk (st := sPEq) nl_PQ nc_PQ nk_PQ
  have bPQ := FPQ.binds (ps := ["self", "other"]) fun _ _ _ _ _ _ us hl => match us, hl with | [_, _], _ => rfl
  have FPL := fun_mk (st := sPLen) nl_PL nc_PL nk_PL
  have bPL := FPL.binds (ps := ["self"]) fun _ _ _ _ _ _ us hl => match us, hl with | [_], _ => rfl
  have FPT := fun_mk (st := sPIter) nl_PT nc_PT nk_PT
  have bPT := FPT.binds (ps := ["self"]) fun _ _ _ _ _ _ us hl => match us, hl with | [_], _ => rfl
  have FPB := fun_mk (st := sPBool) nl_PB nc_PB nk_PB
  have bPB := FPB.binds (ps := ["self"]) fun _ _ _ _ _ _ us hl => match us, hl with | [_], _ => rfl
  have FPC := fun_mk (st := sPCall) nl_PC nc_PC nk_PC
  have bPC := FPC.binds (ps := ["self", "words"]) fun _ _ _ _ _ _ us hl => match us, hl with | [_, _], _ => rfl
  have FPG := fun_mk (st := sPGrowth) nl_PG nc_PG nk_PG
  have bPG := FPG.binds (ps := ["self"]) fun _ _ _ _ _ _ us hl => match us, hl with | [_], _ => rfl
  have FPE := fun_mk (st := sPEdits) nl_PE nc_PE nk_PE
  have bPE := FPE.binds (ps := ["self"]) fun _ _ _ _ _ _ us hl => match us, hl with | [_], _ => rfl
  have FQI := fun_mk (st := sQInit) nl_QI nc_QI nk_QI
  have bQI := FQI.binds (ps := ["self"]) fun _ _ _ _ _ _ us hl => match us, hl with | [_], _ => rfl
  have FQC := fun_mk (st := sQCut) nl_QC nc_QC nk_QC
  have bQC := FQC.binds (ps := ["self", "place"]) fun _ _ _ _ _ _ us hl => match us, hl with | [_, _], _ => rfl
  have FQS := fun_mk (st := sQSize) nl_QS nc_QS nk_QS
  have bQS := FQS.binds (ps := ["self", "row"]) fun _ _ _ _ _ _ us hl => match us, hl with | [_, _], _ => rfl
  have FQP := fun_mk (st := sQParted) nl_QP nc_QP nk_QP
  have bQP := FQP.binds (ps := ["self", "row", "many"]) fun _ _ _ _ _ _ us hl => match us, hl with | [_, _, _], _ => rfl
  have FQE := fun_mk (st := sQEdit) nl_QE nc_QE nk_QE
  have bQE := FQE.binds (ps := ["self", "edit"]) fun _ _ _ _ _ _ us hl => match us, hl with | [_, _], _ => rfl
  have FQT := fun_mk (st := sQTold) nl_QT nc_QT nk_QT
  have bQT := FQT.binds (ps := ["self"]) fun _ _ _ _ _ _ us hl => match us, hl with | [_], _ => rfl
  refine ⟨PySem.W.fnOf "law" "law" (defArgs sLaw) (defBody sLaw) (defScope sLaw) .none kVla dcla pmla anla cdla ctla, fun s v => .of_eq rfl, fun base _ _ => ?_⟩
  have Oce := ok_cell (P := l.prog) (w := w) (base := base) Fce bce T
  have Odr := ok_draw (P := l.prog) (w := w) (base := base) Fdr bdr T
  have Onu := ok_number (P := l.prog) (w := w) (base := base) Fnu bnu T (PySem.W.mg_of X G na_dr) Odr
  have One := ok_next (P := l.prog) (w := w) (base := base) Fne bne T (PySem.W.mg_of X G na_ce) Oce (PySem.W.mg_of X G na_nu) Onu
  have Opi := ok_pick (P := l.prog) (w := w) (base := base) (R := sStr) Fpi bpi T (PySem.W.mg_of X G na_ne) One
  have Ow := ok_isWord (P := l.prog) (w := w) (base := base) Fw bw T Cc
  have Ot := ok_isToken (P := l.prog) (w := w) (base := base) Ftk btk Cc (PySem.W.mg_of X G na_w) Ow
  have Ok := ok_check (P := l.prog) (w := w) (base := base) Fk bk T Cc (PySem.W.mg_of X G na_tk) Ot
  have OEI := ok_init (P := l.prog) (w := w) (base := base) FEI bEI Cc EC (PySem.W.mg_of X G na_tk) Ot
  have OEG := ok_growth (P := l.prog) (w := w) (base := base) FEG bEG T EC
  have Ogo := ok_growthOf (P := l.prog) (w := w) (base := base) Fgo bgo T
  have Ojo := ok_joined (P := l.prog) (w := w) (base := base) Fjo bjo T Cc
  have Oar := ok_are (P := l.prog) (w := w) (base := base) Far bar T Cc (PySem.W.mg_of X G na_tk) Ot
  have OPI := ok_pinit (P := l.prog) (w := w) (base := base) FPI bPI Cc PC (PySem.W.mg_of X G na_ar) Oar
  have OPQ := ok_peq (P := l.prog) (w := w) (base := base) FPQ bPQ Cc PC PI
  have OPL := ok_plen (P := l.prog) (w := w) (base := base) FPL bPL T PC
  have OPB := ok_pbool (P := l.prog) (w := w) (base := base) FPB bPB T PC
  have OPG := ok_pgrowth (P := l.prog) (w := w) (base := base) FPG bPG (PySem.W.mg_none_of X G zsum) PC (PySem.W.mg_of X G na_go) Ogo
  have OPE := ok_pedits (P := l.prog) (w := w) (base := base) FPE bPE PC EC M OEI
  have OPC := ok_pcall (P := l.prog) (w := w) (base := base) FPC bPC T PC (PySem.W.mg_of X G na_k) Ok
  have OQI := ok_qinit (P := l.prog) (w := w) (base := base) FQI bQI Q
  have OQS := ok_qsize (P := l.prog) (w := w) (base := base) FQS bQS Cc
  have OQP := ok_qparted (P := l.prog) (w := w) (base := base) FQP bQP (PySem.W.mg_none_of X G zmax) Q
  have OQC := ok_qcut (P := l.prog) (w := w) (base := base) FQC bQC T (PySem.W.mg_none_of X G zlist) (PySem.W.mg_none_of X G zenumerate) Q ⟨na_QS, ni_QS, nk_QS⟩ OQS ⟨na_QP, ni_QP, nk_QP⟩ OQP
  have OQE := ok_qedit (P := l.prog) (w := w) (base := base) FQE bQE EC Q ⟨na_QC, ni_QC, nk_QC⟩ OQC
  have OQT := ok_qtold (P := l.prog) (w := w) (base := base) FQT bQT Cc Q (PySem.W.mg_of X G na_jo) Ojo
  have Ock := ok_checkEdits (P := l.prog) (w := w) (base := base) Fck bck T Cc EC CI (PySem.W.mg_of X G gE)
  have Opt := ok_patch (P := l.prog) (w := w) (base := base) Fpt bpt PC Q (PySem.W.mg_of X G na_ck) Ock MQ OQI ⟨na_QE, ni_QE, nk_QE⟩ OQE ⟨na_QT, ni_QT, nk_QT⟩ OQT MP OPI
  have Owo := ok_wordsD (P := l.prog) (w := w) (base := base) Fwo bwo T (PySem.W.mg_of X G na_pi) Opi
  have Oed := ok_editD (P := l.prog) (w := w) (base := base) Fed bed T Cc EC (PySem.W.mg_of X G na_ne) One (PySem.W.mg_of X G na_wo) Owo M OEI
  have Ocp := ok_checkPatch (P := l.prog) (w := w) (base := base) Fcp bcp Cc PC PI
  have Obe := ok_behind (P := l.prog) (w := w) (base := base) Fbe bbe (PySem.W.mg_none_of X G zmax) PC (PySem.W.mg_of X G na_cp) Ocp (PySem.W.mg_of X G na_pt) Opt ⟨na_PE, ni_PE, nk_PE⟩ OPE ⟨na_PG, ni_PG, nk_PG⟩ OPG MP OPI
  have Oes := ok_editsD (P := l.prog) (w := w) (base := base) Fes bes T EC (PySem.W.mg_of X G na_ed) Oed ⟨na_EG, ni_EG, nk_EG⟩ OEG
  have Odn := ok_done (P := l.prog) (w := w) (base := base) Fdn bdn Cc EC
  have Oma := ok_marks (P := l.prog) (w := w) (base := base) Fma bma T
  have Ole := ok_least (P := l.prog) (w := w) (base := base) Fle ble T EC ⟨na_EG, ni_EG, nk_EG⟩ OEG
  have Hw := ok_isWordH (P := l.prog) (w := w) (base := base) Fw bw T Cc
  have Ht := ok_isTokenH (P := l.prog) (w := w) (base := base) Ftk btk Cc (PySem.W.mg_of X G na_w) Hw
  have Har := ok_areH (P := l.prog) (w := w) (base := base) Far bar T Cc (PySem.W.mg_of X G na_tk) Ht
  have HPI := ok_pinitH (P := l.prog) (w := w) (base := base) FPI bPI Cc PC (PySem.W.mg_of X G na_ar) Har
  have HPQ := ok_peqH (P := l.prog) (w := w) (base := base) FPQ bPQ Cc PC PI
  have OPT := ok_piter (P := l.prog) (w := w) (base := base) FPT bPT PC (PySem.W.mg_none_of X G ziter)
  have RPC := ok_pcallR (P := l.prog) (w := w) (base := base) FPC bPC T PC BE (PySem.W.mg_of X G na_k) Ok
  exact ok_law Fla ⟨T, Cc, EC, PC, BE, PySem.W.mg_none_of X G zsum, PySem.W.mg_none_of X G zenumerate, fne, (PySem.W.mg_of X G na_ne), One, fes, (PySem.W.mg_of X G na_es), Oes, fwo, (PySem.W.mg_of X G na_wo), Owo, fdn, (PySem.W.mg_of X G na_dn), Odn, fma, (PySem.W.mg_of X G na_ma), Oma, fle, (PySem.W.mg_of X G na_le), Ole, fpt, (PySem.W.mg_of X G na_pt), Opt, fbe, (PySem.W.mg_of X G na_be), Obe, fEI, M, OEI, fEG, ⟨na_EG, ni_EG, nk_EG⟩, OEG, fPC, ⟨na_PC, ni_PC, xf⟩, OPC, RPC, fPG, ⟨na_PG, ni_PG, nk_PG⟩, OPG, fPE, ⟨na_PE, ni_PE, nk_PE⟩, OPE, fPQ, na_PQ, ni_PQ, OPQ, HPQ, CO, ne0, fPL, na_PL, ni_PL, OPL, fPB, na_PB, ni_PB, OPB, fPT, ⟨na_PT, ni_PT, na_PL, ni_PL⟩, OPT, fPI, MP, HPI⟩
theorem walk {l : PySem.W.OpenLaw} {q : Program} {loose : List Str} {XP : (Str → Option Value) → Heap → Prop} {YP : World → Heap → Prop} {d : DefRec} {K : Params → PySem.W.Frag} (hn : l.most = some 63) (hdf : d.params.defaults = []) -- -
    (hY : ∀ (w : World) (h : Heap), YP w h → (K w.params).In h) -- -
    (F : ∀ (w : World) (mg : Str → Option Value) (fa : Addr) (h : Heap), (K w.params).In h → h.Ns mainGlobals mg → mg d.name = some (.ref fa) → -- -
      ∃ fd : FuncData, (∀ (s : Shared) (u : Value), BindsTo s fd ⟨[u], []⟩ [("_law_script", u)]) ∧ ∀ base : Heap, (K w.params).In base → base.Ns mainGlobals mg → FnOk l.prog w (K w.params) mg base CX0 8 fa fd ["_law_script"] (fsLaw.sp (K w.params))) :
    PySem.W.WalkO q loose XP YP l.row.toRowW d [] (fun f vs => PySem.call f vs) := -- -
  L2.walk_of (n := 63) (k := 8) (x := "_law_script") (CX := fun _ => CX0) (sp := fun w => fsLaw.sp (K w.params)) hn (by decide) hdf ⟨rfl, by decide, by decide⟩ hY F (fun _ H a ns hl _ hS => ⟨ns, H, trivial, Same.refl H, .cons ⟨a, _, rfl, hS, All2.ofVals ns⟩ .nil, (fun w hw => by cases hw), List.nodup_nil, fun v G' H' t ow hv => hv⟩) fun _ _ _ _ _ z => z
end K50

set_option Elab.async false
set_option linter.all false
open PySem PySem.W PyProof.Rows in
set_option maxRecDepth 100000 in
set_option maxHeartbeats 0 in
theorem PySem.Challenge.cw_typingroom_k50_whole_patches_holds : PySem.Challenge.rw_typingroom_k50_whole_patches.Holds := by
  w_on; o_law; k_head; (case hw => w_witness2) -- -
  k_fill
  refine K50.walk (l := PySem.Challenge.rw_typingroom_k50_whole_patches) rfl rfl (fun w h Y => PySem.W.kIn_of Y) ?F
  case F =>
    intro w mg fa h KX G hmg
    refine' K50.all_mk KX G hmg ?na_w ?nl_w ?nc_w ?nk_w ?na_tk ?nl_tk ?nc_tk ?nk_tk ?na_k ?nl_k ?nc_k ?nk_k ?na_ck ?nl_ck ?nc_ck ?nk_ck ?na_ar ?nl_ar ?nc_ar ?nk_ar ?na_jo ?nl_jo ?nc_jo ?nk_jo ?na_pt ?nl_pt ?nc_pt ?nk_pt ?na_cp ?nl_cp ?nc_cp ?nk_cp ?na_be ?nl_be ?nc_be ?nk_be ?na_go ?nl_go ?nc_go ?nk_go ?na_ce ?nl_ce ?nc_ce ?nk_ce ?na_dr ?nl_dr ?nc_dr ?nk_dr ?na_nu ?nl_nu ?nc_nu ?nk_nu ?na_ne ?nl_ne ?nc_ne ?nk_ne ?na_pi ?nl_pi ?nc_pi ?nk_pi ?na_wo ?nl_wo ?nc_wo ?nk_wo ?na_ed ?nl_ed ?nc_ed ?nk_ed ?na_es ?nl_es ?nc_es ?nk_es ?na_dn ?nl_dn ?nc_dn ?nk_dn ?na_ma ?nl_ma ?nc_ma ?nk_ma ?na_le ?nl_le ?nc_le ?nk_le ?na_la ?nl_la ?nc_la ?nk_la ?aC ?aCP ?aCQ ?na_EI ?ni_EI ?nl_EI ?nc_EI ?nk_EI ?na_EG ?ni_EG ?nl_EG ?nc_EG ?nk_EG ?na_PI ?ni_PI ?nl_PI ?nc_PI ?nk_PI ?na_PQ ?ni_PQ ?nl_PQ ?nc_PQ ?nk_PQ ?na_PL ?ni_PL ?nl_PL ?nc_PL ?nk_PL ?na_PT ?ni_PT ?nl_PT ?nc_PT ?nk_PT ?na_PB ?ni_PB ?nl_PB ?nc_PB ?nk_PB ?na_PC ?ni_PC ?nl_PC ?nc_PC ?nk_PC ?na_PG ?ni_PG ?nl_PG ?nc_PG ?nk_PG ?na_PE ?ni_PE ?nl_PE ?nc_PE ?nk_PE ?na_QI ?ni_QI ?nl_QI ?nc_QI ?nk_QI ?na_QC ?ni_QC ?nl_QC ?nc_QC ?nk_QC ?na_QS ?ni_QS ?nl_QS ?nc_QS ?nk_QS ?na_QP ?ni_QP ?nl_QP ?nc_QP ?nk_QP ?na_QE ?ni_QE ?nl_QE ?nc_QE ?nk_QE ?na_QT ?ni_QT ?nl_QT ?nc_QT ?nk_QT ?pgC ?hdC ?poC ?saC ?mkC ?kcC ?pgCP ?hdCP ?poCP ?saCP ?mkCP ?kcCP ?pgCQ ?hdCQ ?poCQ ?saCQ ?mkCQ ?kcCQ ?nC_first ?nC_last ?nC_words ?nCP_changes ?nCP_least ?nCQ_rows ?nCQ_least ?xaC ?xmC ?xaCP ?xmCP ?xn ?xt ?xf ?lO ?bO ?ne0 ?aB ?xF ?kF ?bF ?tF ?iF ?sF ?gL ?gN ?gE ?gK ?lK ?sK ?vK ?gS ?lS ?sS ?vS ?dh ?dm ?zlen ?zint ?zrange ?zall ?zisinstance ?zstr ?zlist ?ztuple ?zbool ?zmin ?zmax ?zsum ?zenumerate ?ziter
    (case na_w => k_is)
    (case nl_w => k_is)
    (case nc_w => k_is)
    (case nk_w => k_is)
    (case na_tk => k_is)
    (case nl_tk => k_is)
    (case nc_tk => k_is)
    (case nk_tk => k_is)
    (case na_k => k_is)
    (case nl_k => k_is)
    (case nc_k => k_is)
    (case nk_k => k_is)
    (case na_ck => k_is)
    (case nl_ck => k_is)
    (case nc_ck => k_is)
    (case nk_ck => k_is)
    (case na_ar => k_is)
    (case nl_ar => k_is)
    (case nc_ar => k_is)
    (case nk_ar => k_is)
    (case na_jo => k_is)
    (case nl_jo => k_is)
    (case nc_jo => k_is)
    (case nk_jo => k_is)
    (case na_pt => k_is)
    (case nl_pt => k_is)
    (case nc_pt => k_is)
    (case nk_pt => k_is)
    (case na_cp => k_is)
    (case nl_cp => k_is)
    (case nc_cp => k_is)
    (case nk_cp => k_is)
    (case na_be => k_is)
    (case nl_be => k_is)
    (case nc_be => k_is)
    (case nk_be => k_is)
    (case na_go => k_is)
    (case nl_go => k_is)
    (case nc_go => k_is)
    (case nk_go => k_is)
    (case na_ce => k_is)
    (case nl_ce => k_is)
    (case nc_ce => k_is)
    (case nk_ce => k_is)
    (case na_dr => k_is)
    (case nl_dr => k_is)
    (case nc_dr => k_is)
    (case nk_dr => k_is)
    (case na_nu => k_is)
    (case nl_nu => k_is)
    (case nc_nu => k_is)
    (case nk_nu => k_is)
    (case na_ne => k_is)
    (case nl_ne => k_is)
    (case nc_ne => k_is)
    (case nk_ne => k_is)
    (case na_pi => k_is)
    (case nl_pi => k_is)
    (case nc_pi => k_is)
    (case nk_pi => k_is)
    (case na_wo => k_is)
    (case nl_wo => k_is)
    (case nc_wo => k_is)
    (case nk_wo => k_is)
    (case na_ed => k_is)
    (case nl_ed => k_is)
    (case nc_ed => k_is)
    (case nk_ed => k_is)
    (case na_es => k_is)
    (case nl_es => k_is)
    (case nc_es => k_is)
    (case nk_es => k_is)
    (case na_dn => k_is)
    (case nl_dn => k_is)
    (case nc_dn => k_is)
    (case nk_dn => k_is)
    (case na_ma => k_is)
    (case nl_ma => k_is)
    (case nc_ma => k_is)
    (case nk_ma => k_is)
    (case na_le => k_is)
    (case nl_le => k_is)
    (case nc_le => k_is)
    (case nk_le => k_is)
    (case na_la => k_is)
    (case nl_la => k_is)
    (case nc_la => k_is)
    (case nk_la => k_is)
    (case aC => k_is)
    (case aCP => k_is)
    (case aCQ => k_is)
    (case na_EI => k_is)
    (case ni_EI => k_is)
    (case nl_EI => k_is)
    (case nc_EI => k_is)
    (case nk_EI => k_is)
    (case na_EG => k_is)
    (case ni_EG => k_is)
    (case nl_EG => k_is)
    (case nc_EG => k_is)
    (case nk_EG => k_is)
    (case na_PI => k_is)
    (case ni_PI => k_is)
    (case nl_PI => k_is)
    (case nc_PI => k_is)
    (case nk_PI => k_is)
    (case na_PQ => k_is)
    (case ni_PQ => k_is)
    (case nl_PQ => k_is)
    (case nc_PQ => k_is)
    (case nk_PQ => k_is)
    (case na_PL => k_is)
    (case ni_PL => k_is)
    (case nl_PL => k_is)
    (case nc_PL => k_is)
    (case nk_PL => k_is)
    (case na_PT => k_is)
    (case ni_PT => k_is)
    (case nl_PT => k_is)
    (case nc_PT => k_is)
    (case nk_PT => k_is)
    (case na_PB => k_is)
    (case ni_PB => k_is)
    (case nl_PB => k_is)
    (case nc_PB => k_is)
    (case nk_PB => k_is)
    (case na_PC => k_is)
    (case ni_PC => k_is)
    (case nl_PC => k_is)
    (case nc_PC => k_is)
    (case nk_PC => k_is)
    (case na_PG => k_is)
    (case ni_PG => k_is)
    (case nl_PG => k_is)
    (case nc_PG => k_is)
    (case nk_PG => k_is)
    (case na_PE => k_is)
    (case ni_PE => k_is)
    (case nl_PE => k_is)
    (case nc_PE => k_is)
    (case nk_PE => k_is)
    (case na_QI => k_is)
    (case ni_QI => k_is)
    (case nl_QI => k_is)
    (case nc_QI => k_is)
    (case nk_QI => k_is)
    (case na_QC => k_is)
    (case ni_QC => k_is)
    (case nl_QC => k_is)
    (case nc_QC => k_is)
    (case nk_QC => k_is)
    (case na_QS => k_is)
    (case ni_QS => k_is)
    (case nl_QS => k_is)
    (case nc_QS => k_is)
    (case nk_QS => k_is)
    (case na_QP => k_is)
    (case ni_QP => k_is)
    (case nl_QP => k_is)
    (case nc_QP => k_is)
    (case nk_QP => k_is)
    (case na_QE => k_is)
    (case ni_QE => k_is)
    (case nl_QE => k_is)
    (case nc_QE => k_is)
    (case nk_QE => k_is)
    (case na_QT => k_is)
    (case ni_QT => k_is)
    (case nl_QT => k_is)
    (case nc_QT => k_is)
    (case nk_QT => k_is)
    (case pgC => k_is)
    (case hdC => k_is)
    (case poC => k_is)
    (case saC => k_is)
    (case mkC => k_is)
    (case kcC => k_is)
    (case pgCP => k_is)
    (case hdCP => k_is)
    (case poCP => k_is)
    (case saCP => k_is)
    (case mkCP => k_is)
    (case kcCP => k_is)
    (case pgCQ => k_is)
    (case hdCQ => k_is)
    (case poCQ => k_is)
    (case saCQ => k_is)
    (case mkCQ => k_is)
    (case kcCQ => k_is)
    (case nC_first => k_is)
    (case nC_last => k_is)
    (case nC_words => k_is)
    (case nCP_changes => k_is)
    (case nCP_least => k_is)
    (case nCQ_rows => k_is)
    (case nCQ_least => k_is)
    (case xaC => k_is)
    (case xmC => k_is)
    (case xaCP => k_is)
    (case xmCP => k_is)
    (case xn => k_is)
    (case xt => k_is)
    (case xf => k_is)
    (case lO => k_is)
    (case bO => decide)
    (case ne0 => k_is)
    (case aB => k_is)
    (case xF => k_exc)
    (case kF => k_is)
    (case bF => k_is)
    (case tF => k_is)
    (case iF => k_is)
    (case sF => first | rfl | k_is)
    (case gL => k_is)
    (case gN => k_is)
    (case gE => k_is)
    (case gK => k_is)
    (case lK => k_is)
    (case sK => decide)
    (case vK => exact .cons ⟨_, rfl⟩ (.cons ⟨_, rfl⟩ (.cons ⟨_, rfl⟩ .nil)))
    (case gS => k_is)
    (case lS => k_is)
    (case sS => decide)
    (case vS => exact .cons ⟨_, rfl⟩ (.cons ⟨_, rfl⟩ (.cons ⟨_, rfl⟩ (.cons ⟨_, rfl⟩ (.cons ⟨_, rfl⟩ (.cons ⟨_, rfl⟩ (.cons ⟨_, rfl⟩ (.cons ⟨_, rfl⟩ (.cons ⟨_, rfl⟩ (.nil))))))))))
    (case dh => k_is)
    (case dm => k_is)
    (case zlen => k_is)
    (case zint => k_is)
    (case zrange => k_is)
    (case zall => k_is)
    (case zisinstance => k_is)
    (case zstr => k_is)
    (case zlist => k_is)
    (case ztuple => k_is)
    (case zbool => k_is)
    (case zmin => k_is)
    (case zmax => k_is)
    (case zsum => k_is)
    (case zenumerate => k_is)
    (case ziter => k_is)
