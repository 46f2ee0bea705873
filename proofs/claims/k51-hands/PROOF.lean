import PyProof.Rows.All
import Wide.All
import OpenK.AllK
import Wide.FinOn
import HandS.ForMost
import HandS.Wide
import HandS.Star
import HandS.Style
import HandS.OwnEq
import HandS.Defaults
import HandS.IsInst
import HandS.EndBits
import HandS.SlotsOwn
import PyProof.InstNe
import KE.KOpsOwn
import PySem.Challenge.RW_typingroom_k51_whole_hands
import HandS.TupAny
import HandS.ForList
import PyProof.StrOps2
import KE.KDictKeyed
import KE.KDictCopyH
import KE.KDictOf
import KE.SortData
import KE.DataMinMax
import HandS.SortInts
import HandS.SetFor
import HandS.Strs
import HandS.Zip
import HandS.Deep
import KE.GoesMore
import HandS.Records
import PyProof.Rows.CallKwBuiltin
import HandS.TupSets
import KE.KDictSum
import HandS.DictComp
import KE.KeyNested
set_option Elab.async false
set_option linter.all false
set_option maxRecDepth 100000
set_option maxHeartbeats 4000000
/-! What a look at an expression's head tells (proved once for all expressions, so that no text is unfolded where it is used) -/
namespace Gd
open PySem L2
def noStar : Expr → Bool
  | .Starred .. => false
  | _ => true
theorem starEach_plain {e : Expr} {es : List Expr} {env : Env} (h : noStar e = true) : starEach (e :: es) env = (false, eval e env) :: starEach es env := by
  cases e <;> first | rfl | cases h
theorem starEach_star {e : Expr} {p : Pos} {es : List Expr} {env : Env} : starEach (.Starred e p :: es) env = (true, eval e env) :: starEach es env := rfl
def noStars : List Expr → Bool
  | [] => true
  | e :: es => noStar e && noStars es
theorem backTo_plain {pos : Pos} {env : Env} : ∀ {es : List Expr}, noStars es = true → (backTo pos (starEach es env)).any (·.1) = false
  | [], _ => rfl
  | e :: es, h => by
    have h1 : noStar e = true ∧ noStars es = true := by simpa [noStars] using h
    rw [starEach_plain h1.1]
    show (false || (backTo pos (starEach es env)).any (·.1)) = false
    rw [backTo_plain h1.2]
    rfl
def noCall0 : Expr → Bool
  | .Call (.Name _ _) [] [] _ => false
  | _ => true
theorem attributeBase_plain {o : Expr} {f : Str} {env : Env} {whole : Sem Value} (h : noCall0 o = true) : attributeBase o f env whole = whole := by
  cases o with
  | Call g as ks p =>
    cases g with
    | Name id q =>
      cases as with
      | nil =>
        cases ks with
        | nil => cases h
        | cons _ _ => rfl
      | cons _ _ => rfl
    | _ => rfl
  | _ => rfl
def plainTest : Expr → Bool
  | .UnaryOp .Not .. => false
  | .BoolOp .. => false
  | .IfExp .. => false
  | .Compare .. => false
  | _ => true
theorem isTrue_val {e : Expr} {env : Env} (h : plainTest e = true) : ∀ whole, isTrue e env whole = (do let v ← whole; standAt e.pos; holding [v] (truthy v)) := by
  intro whole
  cases e with
  | UnaryOp op x p => cases op <;> first | rfl | cases h
  | _ => first | rfl | cases h
def noCompr : Expr → Bool
  | .ListComp .. => false
  | .SetComp .. => false
  | .DictComp .. => false
  | _ => true
theorem swaps_plain {e : Expr} {t : Option Expr} {l : Nat} {env : Env} (h : noCompr e = true) : swapsWith e t l env = pure false := by
  cases e <;> first | rfl | cases h
theorem sole_plain {e t : Expr} {l : Nat} {env : Env} (h : noCompr e = true) : swapsWithSole [t] e l env = pure false := swaps_plain (t := some t) h
def noSet : Expr → Bool
  | .Set .. => false
  | _ => true
theorem folded_plain {e : Expr} {env : Env} (h : noSet e = true) : ∀ x, foldedSetIterable e env x = pure x := by
  intro x
  cases e <;> first | rfl | cases h
theorem marks_plain {op : CmpOp} {e : Expr} (h : noSet e = true) : behindInMarks op e = false := by
  cases e <;> first | rfl | cases h
def noSlice : Expr → Bool
  | .Slice .. => false
  | _ => true
theorem plainIx_of {b : Expr} (h : noSlice b = true) : PlainIx b := by
  intro o i
  cases b <;> first | rfl | cases h
end Gd

/-! Gd: what a def does, told over plain data. A Slot is what is known of a value; a frozen heap G beneath the heap H; owned objects O, that the body may change. -/
namespace Gd
open PySem L2
abbrev SS := L2.St

abbrev Fg := PySem.W.Frag

/-- what is known of a value, kept when the frozen heap grows -/
structure Slot where
  ok : Fg → Hp → V → Prop
  mono : ∀ {K : Fg} {G G' : Hp} {v : V}, Same G G' → ok K G v → ok K G' v

def sVal (x : V) : Slot := ⟨fun _ _ v => v = x, fun _ h => h⟩
abbrev sInt (i : Int) : Slot := sVal (.int i)
abbrev sBl (b : Bool) : Slot := sVal (.bl b)
abbrev sStr (x : Str) : Slot := sVal (.str x)
abbrev sNon : Slot := sVal .non
abbrev sRef (a : Addr) : Slot := sVal (.ref a)

theorem sqT_mono {K : Fg} {G G' : Hp} {a : Addr} {xs : List V} (e : Same G G') (h : SqT K G a xs) : SqT K G' a xs := by
  (rcases h with (h | ⟨o, h⟩) | h)
  · exact .inl (.inl (e _ _ h))
  · (exact .inl (.inr ⟨o, e _ _ h⟩))
  · exact .inr h

inductive All2 (K : Fg) (G : Hp) {α : Type} (R : α → Slot) : List V → List α → Prop
  | nil : All2 K G R [] []
  | cons {v : V} {a : α} {vs : List V} {as : List α} : (R a).ok K G v → All2 K G R vs as → All2 K G R (v :: vs) (a :: as)

section
variable {K : Fg} {G G' : Hp} {α β : Type} {R : α → Slot}
theorem All2.mono (e : Same G G') : ∀ {vs : List V} {as : List α}, All2 K G R vs as → All2 K G' R vs as
  | _, _, .nil => .nil
  | _, _, .cons h t => .cons ((R _).mono e h) (t.mono e)
theorem All2.length : ∀ {vs : List V} {as : List α}, All2 K G R vs as → vs.length = as.length
  | _, _, .nil => rfl
  | _, _, .cons _ t => by simp [t.length]
theorem All2.append : ∀ {vs ws : List V} {as bs : List α}, All2 K G R vs as → All2 K G R ws bs → All2 K G R (vs ++ ws) (as ++ bs)
  | _, _, _, _, .nil, h => h
  | _, _, _, _, .cons h t, q => .cons h (t.append q)
theorem All2.get : ∀ {vs : List V} {as : List α} {i : Nat} {a : α}, All2 K G R vs as → as[i]? = some a → ∃ v, vs[i]? = some v ∧ (R a).ok K G v
  | _, _, _, _, .nil, h => by simp at h
  | _, _, 0, _, .cons h t, e => by simp at e; subst e; exact ⟨_, rfl, h⟩
  | _, _, i + 1, a, .cons h t, e => by
    obtain ⟨v, h1, h2⟩ := t.get (i := i) (a := a) (by simpa using e)
    exact ⟨v, by simpa using h1, h2⟩
theorem All2.get' : ∀ {vs : List V} {as : List α} {i : Nat} {v : V}, All2 K G R vs as → vs[i]? = some v → ∃ a, as[i]? = some a ∧ (R a).ok K G v
  | _, _, _, _, .nil, h => by simp at h
  | _, _, 0, _, .cons h t, e => by simp at e; subst e; exact ⟨_, rfl, h⟩
  | _, _, i + 1, v, .cons h t, e => by
    obtain ⟨a, h1, h2⟩ := t.get' (i := i) (v := v) (by simpa using e)
    exact ⟨a, by simpa using h1, h2⟩
theorem All2.take : ∀ {vs : List V} {as : List α} (n : Nat), All2 K G R vs as → All2 K G R (vs.take n) (as.take n)
  | _, _, 0, _ => .nil
  | _, _, _ + 1, .nil => .nil
  | _, _, n + 1, .cons h t => .cons h (t.take n)
theorem All2.drop : ∀ {vs : List V} {as : List α} (n : Nat), All2 K G R vs as → All2 K G R (vs.drop n) (as.drop n)
  | _, _, 0, h => h
  | _, _, _ + 1, .nil => .nil
  | _, _, n + 1, .cons _ t => t.drop n
theorem All2.reverse {vs : List V} {as : List α} (h : All2 K G R vs as) : All2 K G R vs.reverse as.reverse := by
  induction h with
  | nil => exact .nil
  | cons h _ ih =>
    (rw [List.reverse_cons, List.reverse_cons])
    exact ih.append (.cons h .nil)
theorem All2.set {x : V} {a : α} (r : (R a).ok K G x) : ∀ {vs : List V} {as : List α} (i : Nat), All2 K G R vs as → All2 K G R (vs.set i x) (as.set i a)
  | _, _, _, .nil => .nil
  | _, _, 0, .cons _ t => .cons r t -- -
  | _, _, i + 1, .cons q t => .cons q (t.set r i)
theorem All2.dropLast : ∀ {vs : List V} {as : List α}, All2 K G R vs as → All2 K G R vs.dropLast as.dropLast
  | _, _, .nil => .nil
  | _, _, .cons _ .nil => .nil
  | _, _, .cons h (.cons h2 t) => .cons h (All2.dropLast (.cons h2 t))
/-- exact values -/
theorem All2.vals {f : α → V} : ∀ {vs : List V} {as : List α}, All2 K G (fun a => sVal (f a)) vs as → vs = as.map f
  | _, _, .nil => rfl
  | _, _, .cons h t => by
    have h : _ = _ := h
    rw [h, t.vals]
    rfl
theorem All2.ofVals {f : α → V} : ∀ as : List α, All2 K G (fun a => sVal (f a)) (as.map f) as
  | [] => .nil
  | a :: as => .cons rfl (All2.ofVals as)
theorem All2.imp {S : β → Slot} {f : α → β} (h : ∀ v a, (R a).ok K G v → (S (f a)).ok K G v) : ∀ {vs : List V} {as : List α}, All2 K G R vs as → All2 K G S vs (as.map f)
  | _, _, .nil => .nil
  | _, _, .cons q t => .cons (h _ _ q) (t.imp h)
end

/-- values by slots, one each -/
inductive AllS (K : Fg) (G : Hp) : List V → List Slot → Prop
  | nil : AllS K G [] []
  | cons {v : V} {s : Slot} {vs : List V} {ss : List Slot} : s.ok K G v → AllS K G vs ss → AllS K G (v :: vs) (s :: ss)
theorem AllS.mono {K : Fg} {G G' : Hp} (e : Same G G') : ∀ {vs : List V} {ss : List Slot}, AllS K G vs ss → AllS K G' vs ss
  | _, _, .nil => .nil
  | _, _, .cons h t => .cons (Slot.mono _ e h) (t.mono e)
theorem AllS.length {K : Fg} {G : Hp} : ∀ {vs : List V} {ss : List Slot}, AllS K G vs ss → vs.length = ss.length
  | _, _, .nil => rfl
  | _, _, .cons _ t => by simp [t.length]

/-- a list that nobody changes any more -/
def sLst {α : Type} (R : α → Slot) (as : List α) : Slot :=
  ⟨fun K G v => ∃ p vs, v = .ref p ∧ G p = some (.lst vs) ∧ All2 K G R vs as, fun e ⟨p, vs, h, q, r⟩ => ⟨p, vs, h, e _ _ q, r.mono e⟩⟩
/-- a list, also one that is known to the model alone (the script) -/
def sLstK {α : Type} (R : α → Slot) (as : List α) : Slot :=
  ⟨fun K G v => ∃ p vs, v = .ref p ∧ SqL K G p vs ∧ All2 K G R vs as, fun e ⟨p, vs, h, q, r⟩ => ⟨p, vs, h, e.seq q, r.mono e⟩⟩
/-- a tuple of things of one kind -/
def sTupl {α : Type} (R : α → Slot) (as : List α) : Slot :=
  ⟨fun K G v => ∃ p vs, v = .ref p ∧ SqT K G p vs ∧ All2 K G R vs as, fun e ⟨p, vs, h, q, r⟩ => ⟨p, vs, h, sqT_mono e q, r.mono e⟩⟩
/-- a tuple, place by place -/
def sTup (ss : List Slot) : Slot :=
  ⟨fun K G v => ∃ p vs, v = .ref p ∧ SqT K G p vs ∧ AllS K G vs ss, fun e ⟨p, vs, h, q, r⟩ => ⟨p, vs, h, sqT_mono e q, r.mono e⟩⟩
def sOpt {α : Type} (R : α → Slot) : Option α → Slot
  | none => sNon
  | some a => R a

/-! ### owned objects -/
structure Own where
  p : Addr
  φ : Fg → Hp → HO → Prop
  mono : ∀ {K : Fg} {G G' : Hp} {o : HO}, Same G G' → φ K G o → φ K G' o
def oLst {α : Type} (p : Addr) (R : α → Slot) (as : List α) : Own :=
  ⟨p, fun K G o => ∃ vs, o = .lst vs ∧ All2 K G R vs as, fun e ⟨vs, h, r⟩ => ⟨vs, h, r.mono e⟩⟩
/-- a list, place by place -/
def oLstS (p : Addr) (ss : List Slot) : Own :=
  ⟨p, fun K G o => ∃ vs, o = .lst vs ∧ AllS K G vs ss, fun e ⟨vs, h, r⟩ => ⟨vs, h, r.mono e⟩⟩

/-- where a body began: the objects it may change, the frozen heap and the heap at its entry -/
structure Bs where
  A : List Addr
  G : Hp
  H : Hp

/-- the heaps behind B -/
structure Stp (B : Bs) (G H : Hp) : Prop where
  gh : Same G H
  ex : Same B.G G
  fr : ∀ p o, B.H p = some o → p ∉ B.A → H p = some o
  th : ∀ p o, B.H p = some o → ∃ o', H p = some o'
  nf : ∀ p o, B.H p = some o → B.G p = none → G p = none

def EnvOk (K : Fg) (G : Hp) (σ : SS) (δ : List (Option Slot)) : Prop := ∀ (i : Nat) (s : Slot), δ[i]? = some (some s) → ∃ v, σ[i]? = some (some v) ∧ s.ok K G v

structure Sta (K : Fg) (B : Bs) (δ : List (Option Slot)) (O : List Own) (σ : SS) (G H : Hp) : Prop where
  stp : Stp B G H
  env : EnvOk K G σ δ
  len : σ.length = δ.length
  own : ∀ w ∈ O, ∃ o, H w.p = some o ∧ G w.p = none ∧ w.φ K G o
  new : ∀ w ∈ O, w.p ∈ B.A ∨ B.H w.p = none
  nd : (O.map (·.p)).Nodup

section
variable {K : Fg} {B : Bs} {δ : List (Option Slot)} {O O' O2 : List Own} {σ : SS} {G H G' H' : Hp}
theorem EnvOk.mono (e : Same G G') (h : EnvOk K G σ δ) : EnvOk K G' σ δ := fun i s q => let ⟨v, a, b⟩ := h i s q; ⟨v, a, s.mono e b⟩
theorem Stp.refl {A : List Addr} (h : Same G H) : Stp ⟨A, G, H⟩ G H := ⟨h, fun _ _ q => q, fun _ _ q _ => q, fun _ o q => ⟨o, q⟩, fun _ _ _ q => q⟩
/-- a step that lays one new object into both heaps -/
theorem Stp.new {p : Addr} {o : HO} (s : Stp B G H) (hp : H p = none) : Stp B (upd G p o) (upd H p o) := by
  have hne : ∀ q u, H q = some u → q ≠ p := fun q u e => ne_of_none e hp
  refine ⟨fun q u e => ?_, fun q u e => ?_, fun q u e ha => ?_, fun q u e => ?_, fun q u e ng => ?_⟩
  · by_cases hq : q = p
    · subst hq; rw [upd_same] at e ⊢; exact e
    · rw [upd_ne hq] at e ⊢; exact s.gh _ _ e
  · have e1 := s.ex _ _ e
    rw [upd_ne (hne _ _ (s.gh _ _ e1))]; exact e1
  · have e1 := s.fr _ _ e ha
    rw [upd_ne (hne _ _ e1)]; exact e1
  · obtain ⟨o', e1⟩ := s.th _ _ e
    exact ⟨o', by rw [upd_ne (hne _ _ e1)]; exact e1⟩
  · obtain ⟨o', e1⟩ := s.th _ _ e
    rw [upd_ne (hne _ _ e1)]; exact s.nf _ _ e ng
theorem gnone (s : Stp B G H) {p : Addr} (hp : H p = none) : G p = none := by
  cases e : G p with
  | none => rfl
  | some o => rw [s.gh _ _ e] at hp; cases hp
theorem same_new {p : Addr} {o : HO} (hp : G p = none) : Same G (upd G p o) := fun q u e => by rw [upd_ne (ne_of_none e hp)]; exact e

/-- a new frozen object -/
theorem Sta.freshG {p : Addr} {o : HO} (s : Sta K B δ O σ G H) (hp : H p = none) : Sta K B δ O σ (upd G p o) (upd H p o) := by
  have sg := same_new (o := o) (gnone s.stp hp)
  refine ⟨s.stp.new hp, s.env.mono sg, s.len, fun w hw => ?_, s.new, s.nd⟩
  obtain ⟨u, h1, h2, h3⟩ := s.own w hw
  have hn : w.p ≠ p := ne_of_none h1 hp
  exact ⟨u, by rw [upd_ne hn]; exact h1, by rw [upd_ne hn]; exact h2, w.mono sg h3⟩
/-- a new owned object -/
theorem Sta.freshO {p : Addr} {o : HO} {w : Own} (s : Sta K B δ O σ G H) (hp : H p = none) (hw : w.p = p) (hφ : w.φ K G o) : Sta K B δ (w :: O) σ G (upd H p o) := by
  have hne : ∀ q u, H q = some u → q ≠ p := fun q u e => ne_of_none e hp
  refine ⟨⟨fun q u e => ?_, s.stp.ex, fun q u e ha => ?_, fun q u e => ?_, s.stp.nf⟩, s.env, s.len, fun v hv => ?_, fun v hv => ?_, ?_⟩
  · have e1 := s.stp.gh _ _ e
    rw [upd_ne (hne _ _ e1)]; exact e1
  · have e1 := s.stp.fr _ _ e ha
    rw [upd_ne (hne _ _ e1)]; exact e1
  · obtain ⟨o', e1⟩ := s.stp.th _ _ e
    exact ⟨o', by rw [upd_ne (hne _ _ e1)]; exact e1⟩
  · rcases List.mem_cons.mp hv with rfl | hv
    · subst hw
      exact ⟨o, upd_same, gnone s.stp hp, hφ⟩
    · obtain ⟨u, h1, h2, h3⟩ := s.own v hv
      exact ⟨u, by rw [upd_ne (hne _ _ h1)]; exact h1, h2, h3⟩
  · rcases List.mem_cons.mp hv with rfl | hv
    · right
      cases e : B.H v.p with
      | none => rfl
      | some u =>
        obtain ⟨o', e1⟩ := s.stp.th _ _ e
        rw [hw, hp] at e1; cases e1
    · exact s.new v hv
  · rw [List.map_cons, List.nodup_cons]
    refine ⟨fun hm => ?_, s.nd⟩
    obtain ⟨v, hv, e⟩ := List.mem_map.mp hm
    obtain ⟨u, h1, _, _⟩ := s.own v hv
    rw [e, hw, hp] at h1; cases h1
/-- an owned object, new since the entry, is frozen -/
theorem Sta.freeze {w : Own} (s : Sta K B δ (w :: O) σ G H) (hb : B.H w.p = none) : ∃ o, H w.p = some o ∧ w.φ K G o ∧ Sta K B δ O σ (upd G w.p o) H := by
  obtain ⟨o, h1, h2, h3⟩ := s.own w List.mem_cons_self
  have sg := same_new (o := o) h2
  have nd := List.nodup_cons.mp (by have := s.nd; rwa [List.map_cons] at this)
  refine ⟨o, h1, h3, ⟨⟨fun q u e => ?_, fun q u e => ?_, s.stp.fr, s.stp.th, fun q u e ng => ?_⟩, s.env.mono sg, s.len, fun v hv => ?_, fun v hv => s.new v (List.mem_cons_of_mem _ hv), nd.2⟩⟩
  · by_cases hq : q = w.p
    · subst hq; rw [upd_same] at e; cases e; exact h1
    · rw [upd_ne hq] at e; exact s.stp.gh _ _ e
  · exact sg _ _ (s.stp.ex _ _ e)
  · have hq : q ≠ w.p := fun z => by rw [z, hb] at e; cases e
    rw [upd_ne hq]; exact s.stp.nf _ _ e ng
  · obtain ⟨u, g1, g2, g3⟩ := s.own v (List.mem_cons_of_mem _ hv)
    have hq : v.p ≠ w.p := fun z => nd.1 (by rw [← z]; exact List.mem_map.mpr ⟨v, hv, rfl⟩)
    exact ⟨u, g1, by rw [upd_ne hq]; exact g2, v.mono sg g3⟩
/-- an owned object is changed -/
theorem Sta.put {w w' : Own} {o : HO} (s : Sta K B δ (w :: O) σ G H) (hw : w'.p = w.p) (hφ : w'.φ K G o) : Sta K B δ (w' :: O) σ G (upd H w.p o) := by
  obtain ⟨o0, h1, h2, h3⟩ := s.own w List.mem_cons_self
  have nd := List.nodup_cons.mp (by have := s.nd; rwa [List.map_cons] at this)
  have gne : ∀ q u, G q = some u → q ≠ w.p := fun q u e z => by rw [z, h2] at e; cases e
  refine ⟨⟨fun q u e => ?_, s.stp.ex, fun q u e ha => ?_, fun q u e => ?_, s.stp.nf⟩, s.env, s.len, fun v hv => ?_, fun v hv => ?_, ?_⟩
  · rw [upd_ne (gne _ _ e)]; exact s.stp.gh _ _ e
  · have hq : q ≠ w.p := fun z => by
      rcases s.new w List.mem_cons_self with k | k
      · exact ha (by rw [z]; exact k)
      · rw [z, k] at e; cases e
    rw [upd_ne hq]; exact s.stp.fr _ _ e ha
  · by_cases hq : q = w.p
    · exact ⟨o, by rw [hq]; exact upd_same⟩
    · rw [upd_ne hq]; exact s.stp.th _ _ e
  · rcases List.mem_cons.mp hv with rfl | hv
    · exact ⟨o, by rw [hw]; exact upd_same, by rw [hw]; exact h2, hφ⟩
    · obtain ⟨u, g1, g2, g3⟩ := s.own v (List.mem_cons_of_mem _ hv)
      have hq : v.p ≠ w.p := fun z => nd.1 (by rw [← z]; exact List.mem_map.mpr ⟨v, hv, rfl⟩)
      exact ⟨u, by rw [upd_ne hq]; exact g1, g2, g3⟩
  · rcases List.mem_cons.mp hv with rfl | hv
    · rw [hw]; exact s.new w List.mem_cons_self
    · exact s.new v (List.mem_cons_of_mem _ hv)
  · rw [List.map_cons, hw]; exact List.nodup_cons.mpr nd
theorem Sta.perm (s : Sta K B δ O σ G H) (h : ∀ w ∈ O', w ∈ O) (nd : (O'.map (·.p)).Nodup) : Sta K B δ O' σ G H :=
  ⟨s.stp, s.env, s.len, fun w hw => s.own w (h w hw), fun w hw => s.new w (h w hw), nd⟩
/-- a slot is set -/
theorem Sta.set {i : Nat} {v : V} {sl : Slot} (s : Sta K B δ O σ G H) (h : sl.ok K G v) : Sta K B (δ.set i (some sl)) O (σ.set i (some v)) G H := by
  refine ⟨s.stp, fun j t e => ?_, by rw [List.length_set, List.length_set]; exact s.len, s.own, s.new, s.nd⟩
  by_cases hj : i = j
  · subst hj
    by_cases hi : i < δ.length
    · rw [List.getElem?_set_self hi] at e
      cases e
      exact ⟨v, by rw [List.getElem?_set_self (by rw [s.len]; exact hi)], h⟩
    · rw [List.getElem?_eq_none (by rw [List.length_set]; omega)] at e; cases e
  · rw [List.getElem?_set_ne hj] at e
    obtain ⟨u, a, b⟩ := s.env j t e
    exact ⟨u, by rw [List.getElem?_set_ne hj]; exact a, b⟩
theorem Sta.weak {δ' : List (Option Slot)} (s : Sta K B δ O σ G H) (hl : δ'.length = δ.length) (h : ∀ (i : Nat) (t : Slot), δ'[i]? = some (some t) → ∃ u : Slot, δ[i]? = some (some u) ∧ ∀ K G v, u.ok K G v → t.ok K G v) : Sta K B δ' O σ G H :=
  ⟨s.stp, fun i t e => let ⟨u, e1, f⟩ := h i t e; let ⟨v, a, b⟩ := s.env i u e1; ⟨v, a, f _ _ _ b⟩, s.len.trans hl.symm, s.own, s.new, s.nd⟩
/-- an inner run ends: what it may change is owned here -/
theorem Stp.trans {A : List Addr} (s : Stp B G H) (t : Stp ⟨A, G, H⟩ G' H') (ha : ∀ p ∈ A, p ∈ B.A ∨ B.H p = none) : Stp B G' H' := by
  refine ⟨t.gh, fun q u e => t.ex _ _ (s.ex _ _ e), fun q u e hn => ?_, fun q u e => ?_, fun q u e ng => ?_⟩
  · refine t.fr _ _ (s.fr _ _ e hn) fun hq => ?_
    rcases ha q hq with k | k
    · exact hn k
    · rw [e] at k; cases k
  · obtain ⟨o, e1⟩ := s.th _ _ e
    exact t.th _ _ e1
  · obtain ⟨o, e1⟩ := s.th _ _ e
    exact t.nf _ _ e1 (s.nf _ _ e ng)
/-- behind an inner run that may change the objects W -/
theorem Sta.ran {W W' : List Own} (s : Sta K B δ (W ++ O) σ G H) (t : Stp ⟨W.map (·.p), G, H⟩ G' H') (hp : W'.map (·.p) = W.map (·.p))
    (ow : ∀ w ∈ W', ∃ o, H' w.p = some o ∧ G' w.p = none ∧ w.φ K G' o) : Sta K B δ (W' ++ O) σ G' H' := by
  have nd := s.nd
  rw [List.map_append] at nd
  refine ⟨s.stp.trans t fun p hp' => ?_, s.env.mono t.ex, s.len, fun w hw => ?_, fun w hw => ?_, ?_⟩
  · obtain ⟨w, hw, e⟩ := List.mem_map.mp hp'
    rw [← e]; exact s.new w (List.mem_append_left _ hw)
  · rcases List.mem_append.mp hw with hw | hw
    · exact ow w hw
    · obtain ⟨o, h1, h2, h3⟩ := s.own w (List.mem_append_right _ hw)
      have hn : w.p ∉ W.map (·.p) := fun z => (List.nodup_append.mp nd).2.2 _ z _ (List.mem_map.mpr ⟨w, hw, rfl⟩) rfl
      exact ⟨o, t.fr _ _ h1 hn, t.nf _ _ h1 h2, w.mono t.ex h3⟩
  · rcases List.mem_append.mp hw with hw | hw
    · have : w.p ∈ W.map (·.p) := by rw [← hp]; exact List.mem_map.mpr ⟨w, hw, rfl⟩
      obtain ⟨v, hv, e⟩ := List.mem_map.mp this
      rw [← e]; exact s.new v (List.mem_append_left _ hv)
    · exact s.new w (List.mem_append_right _ hw)
  · rw [List.map_append, hp]; exact nd
end

/-! ### the weakest readings (structures: a def would be unfolded, and the text run, by whoever looks at a goal's head) -/
structure wE (X : Cx) (e : Expr) (σ : SS) (H : Hp) (Q : VK) : Prop where
  run : ∀ (pins : List (Addr × Obj)) (s : Shared), Inv X pins σ H s → wpAny (model X.prog X.w) X.A (eval e X.env) (EP X pins σ Q) X.xe s
structure wT (X : Cx) (e : Expr) (σ : SS) (H : Hp) (Q : Bool → Hp → Prop) : Prop where
  run : ∀ (pins : List (Addr × Obj)) (s : Shared), Inv X pins σ H s → wpAny (model X.prog X.w) X.A (isTrue e X.env (eval e X.env)) (TP X pins σ Q) X.xe s
structure wA (X : Cx) (es : List Expr) (σ : SS) (H : Hp) (Q : List V → Hp → Prop) : Prop where
  run : ∀ (pos : Pos) (pins : List (Addr × Obj)) (s : Shared), Inv X pins σ H s → wpAny (model X.prog X.w) X.A (spliced (backTo pos (starEach es X.env))) (AP X pins σ Q) X.xe s
structure wS (X : Cx) (st : Stmt) (D : Ends) (σ : SS) (H : Hp) : Prop where
  run : ∀ (pins : List (Addr × Obj)) (s : Shared), Inv X pins σ H s → wpAny (model X.prog X.w) X.A (exec st X.env) (SP X pins D) X.xe s
structure wSs (X : Cx) (st : List Stmt) (D : Ends) (σ : SS) (H : Hp) : Prop where
  run : ∀ (pins : List (Addr × Obj)) (s : Shared), Inv X pins σ H s → wpAny (model X.prog X.w) X.A (execs st X.env) (SP X pins D) X.xe s
section
variable {X : Cx} {e : Expr} {es : List Expr} {st : Stmt} {sts : List Stmt} {σ : SS} {H : Hp}
theorem pe_w : PE X e (wE X e) := ⟨fun pins s _ _ _ I h => h.run pins s I⟩
theorem pt_w : PT X e (wT X e) := ⟨fun pins s _ _ _ I h => h.run pins s I⟩
theorem pa_w : PA X es (wA X es) := ⟨fun pos pins s _ _ _ I h => h.run pos pins s I⟩
theorem ps_w : PS X st (wS X st) := ⟨fun pins s _ _ _ I h => h.run pins s I⟩
theorem pss_w : PSs X sts (wSs X sts) := ⟨fun pins s _ _ _ I h => h.run pins s I⟩
theorem e_of {t : TE} {Q : VK} (h : PE X e t) (q : t σ H Q) : wE X e σ H Q := ⟨fun pins s I => h.run pins s σ H Q I q⟩
theorem t_of {t : TT} {Q : Bool → Hp → Prop} (h : PT X e t) (q : t σ H Q) : wT X e σ H Q := ⟨fun pins s I => h.run pins s σ H Q I q⟩
theorem a_of {t : TA} {Q : List V → Hp → Prop} (h : PA X es t) (q : t σ H Q) : wA X es σ H Q := ⟨fun pos pins s I => h.run pos pins s σ H Q I q⟩
theorem s_of {t : TS} {D : Ends} (h : PS X st t) (q : t D σ H) : wS X st D σ H := ⟨fun pins s I => h.run pins s σ H D I q⟩
theorem ss_of {t : TS} {D : Ends} (h : PSs X sts t) (q : t D σ H) : wSs X sts D σ H := ⟨fun pins s I => h.run pins s σ H D I q⟩
end

/-! ### the judgements over data -/
/-- e gives a value of which s is known; the owned objects are then O' -/
def E (X : Cx) (δ : List (Option Slot)) (O : List Own) (e : Expr) (s : Slot) (O' : List Own) : Prop :=
  ∀ (B : Bs) (σ : SS) (G H : Hp) (Q : VK), Sta X.K B δ O σ G H → (∀ v G' H', Same G G' → Sta X.K B δ O' σ G' H' → s.ok X.K G' v → Q v H') → wE X e σ H Q
/-- e makes an object of which φ is known -/
def EW (X : Cx) (δ : List (Option Slot)) (O : List Own) (e : Expr) (φ : Addr → Own) (O' : List Own) : Prop :=
  ∀ (B : Bs) (σ : SS) (G H : Hp) (Q : VK), Sta X.K B δ O σ G H → (∀ p G' H', B.H p = none → Same G G' → Sta X.K B δ (φ p :: O') σ G' H' → Q (.ref p) H') → wE X e σ H Q
def EA (X : Cx) (δ : List (Option Slot)) (O : List Own) (es : List Expr) (ss : List Slot) (O' : List Own) : Prop :=
  ∀ (B : Bs) (σ : SS) (G H : Hp) (Q : List V → Hp → Prop), Sta X.K B δ O σ G H → (∀ vs G' H', Same G G' → Sta X.K B δ O' σ G' H' → AllS X.K G' vs ss → Q vs H') → wA X es σ H Q
/-- a test -/
def T (X : Cx) (δ : List (Option Slot)) (O : List Own) (e : Expr) (b : Bool) (O' : List Own) : Prop :=
  ∀ (B : Bs) (σ : SS) (G H : Hp) (Q : Bool → Hp → Prop), Sta X.K B δ O σ G H → (∀ G' H', Same G G' → Sta X.K B δ O' σ G' H' → Q b H') → wT X e σ H Q
/-- statements, to the ends D -/
def J (X : Cx) (B : Bs) (δ : List (Option Slot)) (O : List Own) (st : List Stmt) (D : Ends) : Prop :=
  ∀ (σ : SS) (G H : Hp), Sta X.K B δ O σ G H → wSs X st D σ H
/-- an operation, a call, by values -/
def OpD (K : Fg) (r : R2) (s1 s2 s3 : Slot) : Prop :=
  ∀ (B : Bs) (δ : List (Option Slot)) (O : List Own) (σ : SS) (G H : Hp) (Q : VK) (x y : V), Sta K B δ O σ G H → s1.ok K G x → s2.ok K G y →
    (∀ v G' H', Same G G' → Sta K B δ O σ G' H' → s3.ok K G' v → Q v H') → r x y H Q
def OpW (K : Fg) (r : R2) (s1 s2 : Slot) (φ : Addr → Own) : Prop :=
  ∀ (B : Bs) (δ : List (Option Slot)) (O : List Own) (σ : SS) (G H : Hp) (Q : VK) (x y : V), Sta K B δ O σ G H → s1.ok K G x → s2.ok K G y →
    (∀ p G' H', B.H p = none → Same G G' → Sta K B δ (φ p :: O) σ G' H' → Q (.ref p) H') → r x y H Q
def ArD (K : Fg) (r : List V → Hp → VK → Prop) (ss : List Slot) (s3 : Slot) : Prop :=
  ∀ (B : Bs) (δ : List (Option Slot)) (O : List Own) (σ : SS) (G H : Hp) (Q : VK) (xs : List V), Sta K B δ O σ G H → AllS K G xs ss →
    (∀ v G' H', Same G G' → Sta K B δ O σ G' H' → s3.ok K G' v → Q v H') → r xs H Q
def ArW (K : Fg) (r : List V → Hp → VK → Prop) (ss : List Slot) (φ : Addr → Own) : Prop :=
  ∀ (B : Bs) (δ : List (Option Slot)) (O : List Own) (σ : SS) (G H : Hp) (Q : VK) (xs : List V), Sta K B δ O σ G H → AllS K G xs ss →
    (∀ p G' H', B.H p = none → Same G G' → Sta K B δ (φ p :: O) σ G' H' → Q (.ref p) H') → r xs H Q
def OpE (X : Cx) (f : Value → Value → Sem Value) (s1 s2 s3 : Slot) : Prop := ∃ r, OpR X f r ∧ OpD X.K r s1 s2 s3
def OpEW (X : Cx) (f : Value → Value → Sem Value) (s1 s2 : Slot) (φ : Addr → Own) : Prop := ∃ r, OpR X f r ∧ OpW X.K r s1 s2 φ
def IxE (X : Cx) (s1 s2 s3 : Slot) : Prop := ∃ r, IxR X r ∧ OpD X.K r s1 s2 s3
def CallE (X : Cx) (f : Value) (ss : List Slot) (s3 : Slot) : Prop := ∃ r, CallR X f r ∧ ArD X.K r ss s3
def CallW (X : Cx) (f : Value) (ss : List Slot) (φ : Addr → Own) : Prop := ∃ r, CallR X f r ∧ ArW X.K r ss φ

/-- what a def promises, over data: i the ghosts -/
structure FS (ι : Type) where
  args : ι → List Slot
  pre : ι → Prop := fun _ => True
  own : ι → List Own := fun _ => []
  res : ι → Slot
  own' : ι → List Own := fun _ => []
def FS.sp {ι : Type} (S : FS ι) (K : Fg) : Sp := fun vs H Q _ => ∃ (i : ι) (G : Hp), S.pre i ∧ Same G H ∧ AllS K G vs (S.args i) ∧ (∀ w ∈ S.own i, ∃ o, H w.p = some o ∧ G w.p = none ∧ w.φ K G o) ∧ ((S.own i).map (·.p)).Nodup ∧
  ∀ v G' H', Stp ⟨(S.own i).map (·.p), G, H⟩ G' H' → (∀ w ∈ S.own' i, ∃ o, H' w.p = some o ∧ G' w.p = none ∧ w.φ K G' o) → (S.res i).ok K G' v → Q v H'
end Gd

namespace Gd
open PySem L2
section
variable {X : Cx} {B : Bs} {δ : List (Option Slot)} {O O1 O2 O3 : List Own} {a b c e : Expr} {es : List Expr} {x : Str} {p pos : Pos} {i : Nat} {s s1 s2 s3 : Slot} {ss : List Slot} {α : Type} {R : α → Slot}

/-! ### from made objects to values -/
theorem e_freeze {φ : Addr → Own} (h : EW X δ O e φ O1) (hp : ∀ p, (φ p).p = p) (hs : ∀ (K : Fg) (G : Hp) (p : Addr) (o : HO), (φ p).φ K G o → G p = none → s.ok K (upd G p o) (.ref p)) : E X δ O e s O1 := by
  intro B σ G H Q st k
  refine h B σ G H Q st fun p G' H' hb sm st' => ?_
  obtain ⟨o, h1, h2, st2⟩ := st'.freeze (by rw [hp]; exact hb)
  have gp : G' p = none := by
    obtain ⟨_, _, g, _⟩ := st'.own (φ p) List.mem_cons_self
    rw [hp] at g; exact g
  rw [hp] at h1 st2
  exact k _ _ _ (fun q u z => same_new gp _ _ (sm _ _ z)) st2 (hs _ _ _ _ h2 gp)
theorem frz_lst {as : List α} (K : Fg) (G : Hp) (p : Addr) (o : HO) (h : (oLst p R as).φ K G o) (g : G p = none) : (sLst R as).ok K (upd G p o) (.ref p) := by
  obtain ⟨vs, rfl, r⟩ := h
  exact ⟨p, vs, rfl, upd_same, r.mono (same_new g)⟩
theorem e_lst {as : List α} (h : EW X δ O e (fun p => oLst p R as) O1) : E X δ O e (sLst R as) O1 := e_freeze h (fun _ => rfl) frz_lst

/-! ### names, constants -/
theorem e_name (i : Nat) (hN : X.N[i]? = some x := by rfl) (hd : δ[i]? = some (some s) := by rfl)
    (hv : Vis X.env.scope x := by first | exact Or.inl rfl | exact Or.inr (Or.inl rfl) | exact Or.inr (Or.inr rfl)) (h1 : (x == ("__debug__" : Str)) = false := by decide) (h2 : (x == ("__classdict__" : Str)) = false := by decide) : E X δ O (.Name x pos) s O := by
  intro B σ G H Q st k
  obtain ⟨v, e, hs⟩ := st.env i s hd
  exact e_of (pe_var hN hv h1 h2) ⟨v, e, k v G H (Same.refl _) st hs⟩
theorem e_int {n : Int} {j} : E X δ O (.Constant (.int n) j pos) (sInt n) O := fun B σ G H Q st k => e_of pe_int (k _ G H (Same.refl _) st rfl)
theorem e_bl {n : Bool} {j} : E X δ O (.Constant (.bool n) j pos) (sBl n) O := fun B σ G H Q st k => e_of pe_bl (k _ G H (Same.refl _) st rfl)
theorem e_non {j} : E X δ O (.Constant .none j pos) sNon O := fun B σ G H Q st k => e_of pe_non (k _ G H (Same.refl _) st rfl)
theorem e_str {z : Str} {j} : E X δ O (.Constant (.str z) j pos) (sStr z) O := fun B σ G H Q st k => e_of pe_str (k _ G H (Same.refl _) st rfl)
/-- a module's name: what it holds, known as s in the written part -/
theorem e_glob {v : V} {u : Value} (hm : X.mg x = some u) (r : RelV v u) (hs : ∀ G, s.ok X.K G v) (hg : Gl X x := by rfl) (hd : (x == ("__debug__" : Str)) = false := by decide) : E X δ O (.Name x pos) s O :=
  fun B σ G H Q st k => e_of (pe_glob hg hm r hd) (k _ G H (Same.refl _) st (hs G))
theorem e_bltn {v : V} {u : Value} (hm : X.mg x = none) (hv : bootBuiltins x = some u) (r : RelV v u) (hg : Gl X x := by rfl) (hn : x ≠ "__name__" := by decide) (hd : (x == ("__debug__" : Str)) = false := by decide) : E X δ O (.Name x pos) (sVal v) O :=
  fun B σ G H Q st k => e_of (pe_bltn hg hm hv r hn hd) (k _ G H (Same.refl _) st rfl)
theorem e_gint {n : Int} {t : Tok} (hm : X.mg x = some (.int n t)) (hg : Gl X x := by rfl) (hd : (x == ("__debug__" : Str)) = false := by decide) : E X δ O (.Name x pos) (sInt n) O := e_glob (v := .int n) hm ⟨t, rfl⟩ (fun _ => rfl) hg hd
theorem e_gstr {n : Str} {t : Tok} (hm : X.mg x = some (.str n t)) (hg : Gl X x := by rfl) (hd : (x == ("__debug__" : Str)) = false := by decide) : E X δ O (.Name x pos) (sStr n) O := e_glob (v := .str n) hm ⟨t, rfl⟩ (fun _ => rfl) hg hd
theorem e_gref {a : Addr} (hm : X.mg x = some (.ref a)) (hg : Gl X x := by rfl) (hd : (x == ("__debug__" : Str)) = false := by decide) : E X δ O (.Name x pos) (sRef a) O := e_glob (v := .ref a) hm rfl (fun _ => rfl) hg hd
theorem e_ty (n : String) (hm : X.mg x = none) (hv : bootBuiltins x = some (.type n)) (hg : Gl X x := by rfl) (hn : x ≠ "__name__" := by decide) (hd : (x == ("__debug__" : Str)) = false := by decide) : E X δ O (.Name x pos) (sVal (.ty n)) O := e_bltn hm hv rfl hg hn hd
theorem e_imp (h : E X δ O e s O1) (hs : ∀ K G v, s.ok K G v → s1.ok K G v) : E X δ O e s1 O1 := fun B σ G H Q st k => h B σ G H Q st fun v G' H' sm st' hv => k v G' H' sm st' (hs _ _ _ hv)
theorem e_eq (h : E X δ O e s O1) (hs : s = s1) : E X δ O e s1 O1 := hs ▸ h

/-! ### operators -/
theorem e_bin {op : Operator} (ho : OpE X (binaryOp op) s1 s2 s3) (ha : E X δ O a s1 O1) (hb : E X δ O1 b s2 O2) : E X δ O (.BinOp a op b pos) s3 O2 := by
  obtain ⟨r, h1, h2⟩ := ho
  intro B σ G H Q st k
  refine e_of (pe_op h1 pe_w pe_w) ?_
  exact ha B σ G H _ st fun x G1 H1 m1 st1 hx => hb B σ G1 H1 _ st1 fun y G2 H2 m2 st2 hy => h2 B δ O2 σ G2 H2 Q x y st2 (s1.mono m2 hx) hy fun v G' H' m3 st3 hv => k v G' H' (m1.trans (m2.trans m3)) st3 hv
theorem ew_bin {op : Operator} {φ : Addr → Own} (ho : OpEW X (binaryOp op) s1 s2 φ) (ha : E X δ O a s1 O1) (hb : E X δ O1 b s2 O2) : EW X δ O (.BinOp a op b pos) φ O2 := by
  obtain ⟨r, h1, h2⟩ := ho
  intro B σ G H Q st k
  refine e_of (pe_op h1 pe_w pe_w) ?_
  exact ha B σ G H _ st fun x G1 H1 m1 st1 hx => hb B σ G1 H1 _ st1 fun y G2 H2 m2 st2 hy => h2 B δ O2 σ G2 H2 Q x y st2 (s1.mono m2 hx) hy fun v G' H' hb m3 st3 => k v G' H' hb (m1.trans (m2.trans m3)) st3
theorem e_cmp {op : CmpOp} (ho : OpE X (compareOp op) s1 s2 s3) (ha : E X δ O a s1 O1) (hb : E X δ O1 b s2 O2) (hm : noSet b = true := by rfl) : E X δ O (.Compare a [op] [b] pos) s3 O2 := by
  obtain ⟨r, h1, h2⟩ := ho
  intro B σ G H Q st k
  refine e_of (pe_cmpR h1 pe_w pe_w (marks_plain hm)) ?_
  exact ha B σ G H _ st fun x G1 H1 m1 st1 hx => hb B σ G1 H1 _ st1 fun y G2 H2 m2 st2 hy => h2 B δ O2 σ G2 H2 Q x y st2 (s1.mono m2 hx) hy fun v G' H' m3 st3 hv => k v G' H' (m1.trans (m2.trans m3)) st3 hv
theorem t_cmp {op : CmpOp} {k : Bool} (ho : OpE X (compareOp op) s1 s2 (sBl k)) (ha : E X δ O a s1 O1) (hb : E X δ O1 b s2 O2) (hm : noSet b = true := by rfl) : T X δ O (.Compare a [op] [b] pos) k O2 := by
  obtain ⟨r, h1, h2⟩ := ho
  intro B σ G H Q st q
  refine t_of (pt_cmpR h1 pe_w pe_w (marks_plain hm)) ?_
  exact ha B σ G H _ st fun x G1 H1 m1 st1 hx => hb B σ G1 H1 _ st1 fun y G2 H2 m2 st2 hy => h2 B δ O2 σ G2 H2 _ x y st2 (s1.mono m2 hx) hy fun v G' H' m3 st3 hv => ⟨k, hv, q G' H' (m1.trans (m2.trans m3)) st3⟩
theorem e_chain {op op' : CmpOp} {k k' : Bool} (ho : OpE X (compareOp op) s1 s2 (sBl k)) (ho' : k = true → OpE X (compareOp op') s2 s3 (sBl k')) (ha : E X δ O a s1 O) (hb : E X δ O b s2 O) (hc : E X δ O c s3 O)
    (hm : noSet c = true := by rfl) : E X δ O (.Compare a [op, op'] [b, c] pos) (sBl (k && k')) O := by
  obtain ⟨r, h1, h2⟩ := ho
  intro B σ G H Q st q
  cases k with
  | false =>
    refine e_of (pe_chain (r' := fun _ _ _ _ => False) h1 (fun _ _ _ _ _ _ _ _ _ _ _ _ z => z.elim) pe_w pe_w pe_w (marks_plain (op := op') hm)) ?_
    exact ha B σ G H _ st fun x G1 H1 m1 st1 hx => hb B σ G1 H1 _ st1 fun y G2 H2 m2 st2 hy => h2 B δ O σ G2 H2 _ x y st2 (s1.mono m2 hx) hy fun v G' H' m3 st3 hv =>
      ⟨false, hv, iteF (q _ G' H' (m1.trans (m2.trans m3)) st3 rfl)⟩
  | true =>
    obtain ⟨r', h1', h2'⟩ := ho' rfl
    refine e_of (pe_chain h1 h1' pe_w pe_w pe_w (marks_plain (op := op') hm)) ?_
    exact ha B σ G H _ st fun x G1 H1 m1 st1 hx => hb B σ G1 H1 _ st1 fun y G2 H2 m2 st2 hy => h2 B δ O σ G2 H2 _ x y st2 (s1.mono m2 hx) hy fun v G3 H3 m3 st3 hv =>
      ⟨true, hv, iteT (hc B σ G3 H3 _ st3 fun z G4 H4 m4 st4 hz => h2' B δ O σ G4 H4 _ y z st4 (s2.mono (m3.trans m4) hy) hz fun v' G' H' m5 st5 hv' =>
        q _ G' H' (m1.trans (m2.trans (m3.trans (m4.trans m5)))) st5 hv')⟩
theorem t_chain {op op' : CmpOp} {k k' : Bool} (ho : OpE X (compareOp op) s1 s2 (sBl k)) (ho' : k = true → OpE X (compareOp op') s2 s3 (sBl k')) (ha : E X δ O a s1 O) (hb : E X δ O b s2 O) (hc : E X δ O c s3 O)
    (hm : noSet c = true := by rfl) : T X δ O (.Compare a [op, op'] [b, c] pos) (k && k') O := by
  obtain ⟨r, h1, h2⟩ := ho
  intro B σ G H Q st q
  cases k with
  | false =>
    refine t_of (pt_chain (r' := fun _ _ _ _ => False) h1 (fun _ _ _ _ _ _ _ _ _ _ _ _ z => z.elim) pe_w pe_w pe_w (marks_plain (op := op') hm)) ?_
    exact ha B σ G H _ st fun x G1 H1 m1 st1 hx => hb B σ G1 H1 _ st1 fun y G2 H2 m2 st2 hy => h2 B δ O σ G2 H2 _ x y st2 (s1.mono m2 hx) hy fun v G' H' m3 st3 hv =>
      ⟨false, hv, iteF ⟨false, rfl, q G' H' (m1.trans (m2.trans m3)) st3⟩⟩
  | true =>
    obtain ⟨r', h1', h2'⟩ := ho' rfl
    refine t_of (pt_chain h1 h1' pe_w pe_w pe_w (marks_plain (op := op') hm)) ?_
    exact ha B σ G H _ st fun x G1 H1 m1 st1 hx => hb B σ G1 H1 _ st1 fun y G2 H2 m2 st2 hy => h2 B δ O σ G2 H2 _ x y st2 (s1.mono m2 hx) hy fun v G3 H3 m3 st3 hv =>
      ⟨true, hv, iteT (hc B σ G3 H3 _ st3 fun z G4 H4 m4 st4 hz => h2' B δ O σ G4 H4 _ y z st4 (s2.mono (m3.trans m4) hy) hz fun v' G' H' m5 st5 hv' =>
        ⟨k', hv', q G' H' (m1.trans (m2.trans (m3.trans (m4.trans m5)))) st5⟩)⟩

/-! ### and, or, not, if .. else -/
variable {u v w : Bool}
theorem e_one {op} (h : E X δ O a s O1) : E X δ O (.BoolOp op [a] pos) s O1 := fun B σ G H Q st k => e_of (pe_one pe_w) (h B σ G H Q st k)
theorem e_and (ha : E X δ O a (sBl u) O1) (hb : u = true → E X δ O1 (.BoolOp .And (b :: es) pos) (sBl v) O1) : E X δ O (.BoolOp .And (a :: b :: es) pos) (sBl (u && v)) O1 := by
  intro B σ G H Q st k
  refine e_of (pe_and pe_w pe_w) ?_
  refine ha B σ G H _ st fun x G1 H1 m1 st1 hx => ⟨u, hx, ?_⟩
  cases u with
  | false => exact iteF (k _ G1 H1 m1 st1 rfl)
  | true => exact iteT (hb rfl B σ G1 H1 _ st1 fun y G2 H2 m2 st2 hy => k y G2 H2 (m1.trans m2) st2 hy)
theorem e_or (ha : E X δ O a (sBl u) O1) (hb : u = false → E X δ O1 (.BoolOp .Or (b :: es) pos) (sBl v) O1) : E X δ O (.BoolOp .Or (a :: b :: es) pos) (sBl (u || v)) O1 := by
  intro B σ G H Q st k
  refine e_of (pe_or pe_w pe_w) ?_
  refine ha B σ G H _ st fun x G1 H1 m1 st1 hx => ⟨u, hx, ?_⟩
  cases u with
  | true => exact iteT (k _ G1 H1 m1 st1 rfl)
  | false => exact iteF (hb rfl B σ G1 H1 _ st1 fun y G2 H2 m2 st2 hy => k y G2 H2 (m1.trans m2) st2 hy)
theorem e_not (ha : E X δ O a (sBl u) O1) : E X δ O (.UnaryOp .Not a pos) (sBl (!u)) O1 := by
  intro B σ G H Q st k
  refine e_of (pe_not pe_w) ?_
  exact ha B σ G H _ st fun x G1 H1 m1 st1 hx => ⟨u, hx, k _ G1 H1 m1 st1 rfl⟩
theorem e_neg {n : Int} (ha : E X δ O a (sInt n) O1) : E X δ O (.UnaryOp .USub a pos) (sInt (-n)) O1 := by
  intro B σ G H Q st k
  refine e_of (pe_un un_neg pe_w) ?_
  exact ha B σ G H _ st fun x G1 H1 m1 st1 hx => ⟨n, hx, k _ G1 H1 m1 st1 rfl⟩
theorem e_ife {φ : Bool → Slot} (ht : T X δ O c u O1) (ha : u = true → E X δ O1 a s O2) (hb : u = false → E X δ O1 b s O2) : E X δ O (.IfExp c a b pos) s O2 := by
  intro B σ G H Q st k
  refine e_of (pe_ifExp pt_w pe_w pe_w) ?_
  refine ht B σ G H _ st fun G1 H1 m1 st1 => ?_
  cases u with
  | true => exact iteT (ha rfl B σ G1 H1 _ st1 fun y G2 H2 m2 st2 hy => k y G2 H2 (m1.trans m2) st2 hy)
  | false => exact iteF (hb rfl B σ G1 H1 _ st1 fun y G2 H2 m2 st2 hy => k y G2 H2 (m1.trans m2) st2 hy)

/-! ### tests -/
theorem t_val (h : E X δ O e (sBl u) O1) (he : plainTest e = true := by rfl) : T X δ O e u O1 := by
  intro B σ G H Q st k
  refine t_of (pt_val pe_w (isTrue_val he)) ?_
  exact h B σ G H _ st fun x G1 H1 m1 st1 hx => ⟨u, hx, k G1 H1 m1 st1⟩
theorem t_not (h : T X δ O a u O1) : T X δ O (.UnaryOp .Not a pos) (!u) O1 := by
  intro B σ G H Q st k
  refine t_of (pt_not pt_w) ?_
  exact h B σ G H _ st fun G1 H1 m1 st1 => k G1 H1 m1 st1
/-- a chain of and, or as a test -/
def TW (X : Cx) (δ : List (Option Slot)) (O : List Own) (e : Expr) (b : Bool) (O' : List Own) : Prop :=
  ∃ t, PW X e t ∧ ∀ (B : Bs) (σ : SS) (G H : Hp) (Q : Bool → Hp → Prop), Sta X.K B δ O σ G H → (∀ G' H', Same G G' → Sta X.K B δ O' σ G' H' → Q b H') → t σ H Q
theorem t_w (h : TW X δ O e u O1) : T X δ O e u O1 := by
  obtain ⟨t, h1, h2⟩ := h
  exact fun B σ G H Q st k => t_of h1.pt (h2 B σ G H Q st k)
theorem tw_and1 (h : T X δ O a u O1) : TW X δ O (.BoolOp .And [a] pos) u O1 := ⟨_, pw_and1 pt_w, fun B σ G H Q st k => h B σ G H Q st k⟩
theorem tw_or1 (h : T X δ O a u O1) : TW X δ O (.BoolOp .Or [a] pos) u O1 := ⟨_, pw_or1 pt_w, fun B σ G H Q st k => h B σ G H Q st k⟩
theorem pw_never {e : Expr} : PW X e (fun _ _ _ => False) := ⟨fun _ _ _ _ _ _ _ h => h.elim⟩
theorem tw_and (ha : T X δ O a u O1) (hb : u = true → TW X δ O1 (.BoolOp .And (b :: es) pos) v O1) : TW X δ O (.BoolOp .And (a :: b :: es) pos) (u && v) O1 := by
  cases u with
  | false => exact ⟨_, pw_and pt_w pw_never, fun B σ G H Q st k => ha B σ G H _ st fun G1 H1 m1 st1 => iteF (k G1 H1 m1 st1)⟩
  | true =>
    obtain ⟨t, h1, h2⟩ := hb rfl
    exact ⟨_, pw_and pt_w h1, fun B σ G H Q st k => ha B σ G H _ st fun G1 H1 m1 st1 => iteT (h2 B σ G1 H1 Q st1 fun G2 H2 m2 st2 => k G2 H2 (m1.trans m2) st2)⟩
theorem tw_or (ha : T X δ O a u O1) (hb : u = false → TW X δ O1 (.BoolOp .Or (b :: es) pos) v O1) : TW X δ O (.BoolOp .Or (a :: b :: es) pos) (u || v) O1 := by
  cases u with
  | true => exact ⟨_, pw_or pt_w pw_never, fun B σ G H Q st k => ha B σ G H _ st fun G1 H1 m1 st1 => iteT (k G1 H1 m1 st1)⟩
  | false =>
    obtain ⟨t, h1, h2⟩ := hb rfl
    exact ⟨_, pw_or pt_w h1, fun B σ G H Q st k => ha B σ G H _ st fun G1 H1 m1 st1 => iteF (h2 B σ G1 H1 Q st1 fun G2 H2 m2 st2 => k G2 H2 (m1.trans m2) st2)⟩
theorem t_eq (h : T X δ O e u O1) (he : u = v) : T X δ O e v O1 := he ▸ h

/-- the same, the second part asked in any case -/
theorem e_and2 (ha : E X δ O a (sBl u) O1) (hb : E X δ O1 (.BoolOp .And (b :: es) pos) (sBl v) O1) : E X δ O (.BoolOp .And (a :: b :: es) pos) (sBl (u && v)) O1 := e_and ha fun _ => hb
theorem e_or2 (ha : E X δ O a (sBl u) O1) (hb : E X δ O1 (.BoolOp .Or (b :: es) pos) (sBl v) O1) : E X δ O (.BoolOp .Or (a :: b :: es) pos) (sBl (u || v)) O1 := e_or ha fun _ => hb
theorem tw_and2 (ha : T X δ O a u O1) (hb : TW X δ O1 (.BoolOp .And (b :: es) pos) v O1) : TW X δ O (.BoolOp .And (a :: b :: es) pos) (u && v) O1 := tw_and ha fun _ => hb
theorem tw_or2 (ha : T X δ O a u O1) (hb : TW X δ O1 (.BoolOp .Or (b :: es) pos) v O1) : TW X δ O (.BoolOp .Or (a :: b :: es) pos) (u || v) O1 := tw_or ha fun _ => hb
/-- the first part decides -/
theorem tw_andF (ha : T X δ O a false O1) : TW X δ O (.BoolOp .And (a :: b :: es) pos) false O1 := tw_and (v := false) ha fun h => nomatch h
theorem tw_orT (ha : T X δ O a true O1) : TW X δ O (.BoolOp .Or (a :: b :: es) pos) true O1 := tw_or (v := true) ha fun h => nomatch h
theorem e_andF (ha : E X δ O a (sBl false) O1) : E X δ O (.BoolOp .And (a :: b :: es) pos) (sBl false) O1 := e_and (v := false) ha fun h => nomatch h
theorem e_orT (ha : E X δ O a (sBl true) O1) : E X δ O (.BoolOp .Or (a :: b :: es) pos) (sBl true) O1 := e_or (v := true) ha fun h => nomatch h

/-! ### argument lists, displays -/
theorem ea_nil : EA X δ O [] [] O := fun B σ G H Q st k => a_of pa_nil (k _ G H (Same.refl _) st .nil)
theorem ea_cons (ha : E X δ O e s O1) (hr : EA X δ O1 es ss O2) (hs : noStar e = true := by rfl) : EA X δ O (e :: es) (s :: ss) O2 := by
  intro B σ G H Q st k
  refine a_of (pa_cons pe_w pa_w (starEach_plain hs)) ?_
  exact ha B σ G H _ st fun x G1 H1 m1 st1 hx => hr B σ G1 H1 _ st1 fun xs G2 H2 m2 st2 hxs => k _ G2 H2 (m1.trans m2) st2 (.cons (s.mono m2 hx) hxs)
/-- a list's items, one kind -/
def EL (X : Cx) (δ : List (Option Slot)) (O : List Own) {α : Type} (R : α → Slot) (es : List Expr) (as : List α) (O' : List Own) : Prop :=
  ∀ (B : Bs) (σ : SS) (G H : Hp) (Q : List V → Hp → Prop), Sta X.K B δ O σ G H → (∀ vs G' H', Same G G' → Sta X.K B δ O' σ G' H' → All2 X.K G' R vs as → Q vs H') → wA X es σ H Q
theorem el_nil : EL X δ O R [] [] O := fun B σ G H Q st k => a_of pa_nil (k _ G H (Same.refl _) st .nil)
theorem el_cons {y : α} {ys : List α} (ha : E X δ O e (R y) O1) (hr : EL X δ O1 R es ys O2) (hs : noStar e = true := by rfl) : EL X δ O R (e :: es) (y :: ys) O2 := by
  intro B σ G H Q st k
  refine a_of (pa_cons pe_w pa_w (starEach_plain hs)) ?_
  exact ha B σ G H _ st fun x G1 H1 m1 st1 hx => hr B σ G1 H1 _ st1 fun xs G2 H2 m2 st2 hxs => k _ G2 H2 (m1.trans m2) st2 (.cons ((R y).mono m2 hx) hxs)
theorem el_star {xs ys : List α} (ha : E X δ O e (sLst R xs) O1) (hr : EL X δ O1 R es ys O2) : EL X δ O R (.Starred e p :: es) (xs ++ ys) O2 := by
  intro B σ G H Q st k
  refine a_of (StX.pa_star pe_w pa_w starEach_star) ?_
  refine ha B σ G H _ st fun x G1 H1 m1 st1 hx => ?_
  obtain ⟨q, vs, rfl, hq, hr2⟩ := hx
  exact ⟨q, vs, rfl, .inr (SqL.of (st1.stp.gh _ _ hq)), hr B σ G1 H1 _ st1 fun ws G2 H2 m2 st2 hws => k _ G2 H2 (m1.trans m2) st2 ((hr2.mono m2).append hws)⟩
theorem el_starT {xs ys : List α} (ha : E X δ O e (sTupl R xs) O1) (hr : EL X δ O1 R es ys O2) : EL X δ O R (.Starred e p :: es) (xs ++ ys) O2 := by
  intro B σ G H Q st k
  refine a_of (StX.pa_star pe_w pa_w starEach_star) ?_
  refine ha B σ G H _ st fun x G1 H1 m1 st1 hx => ?_
  obtain ⟨q, vs, rfl, hq, hr2⟩ := hx
  exact ⟨q, vs, rfl, .inl (by
    rcases hq with (z | ⟨o, z⟩) | z
    · exact .inl (.inl (st1.stp.gh _ _ z))
    · exact .inl (.inr ⟨o, st1.stp.gh _ _ z⟩)
    · exact .inr z), hr B σ G1 H1 _ st1 fun ws G2 H2 m2 st2 hws => k _ G2 H2 (m1.trans m2) st2 ((hr2.mono m2).append hws)⟩
theorem ew_lst {as : List α} (h : EL X δ O R es as O1) (hz : as.length ≤ sizeLine) : EW X δ O (.List es pos) (fun p => oLst p R as) O1 := by
  intro B σ G H Q st k
  refine e_of (pe_lst pa_w) ?_
  refine h B σ G H _ st fun vs G1 H1 m1 st1 hv => ⟨by rw [hv.length]; exact hz, fun q hq => ?_⟩
  have s2 := st1.freshO (w := oLst q R as) hq rfl ⟨vs, rfl, hv⟩
  exact k q G1 _ ((s2.new _ List.mem_cons_self).elim (fun z => by
    cases e : B.H q with
    | none => rfl
    | some o =>
      obtain ⟨o', e'⟩ := st1.stp.th _ _ e
      rw [hq] at e'; cases e') id) m1 s2
theorem none_of {K : Fg} {G H : Hp} {σ : SS} {q : Addr} (st : Sta K B δ O σ G H) (hq : H q = none) : B.H q = none := by
  cases e : B.H q with
  | none => rfl
  | some o =>
    obtain ⟨o', e'⟩ := st.stp.th _ _ e
    rw [hq] at e'; cases e'
theorem e_tupl {x1} {as : List α} (h : EL X δ O R es as O1) (hz : as.length ≤ sizeLine) : E X δ O (.Tuple es x1 pos) (sTupl R as) O1 := by
  intro B σ G H Q st k
  refine e_of (pe_tup pa_w) ?_
  refine h B σ G H _ st fun vs G1 H1 m1 st1 hv => ⟨by rw [hv.length]; exact hz, fun q hq => ?_⟩
  have sg : Same G1 (upd G1 q (.tup vs)) := same_new (gnone st1.stp hq)
  exact k _ _ _ (m1.trans sg) (st1.freshG hq) ⟨q, vs, rfl, SqT.of upd_same, hv.mono sg⟩
theorem e_tup {x1} (h : EA X δ O es ss O1) (hz : ss.length ≤ sizeLine) : E X δ O (.Tuple es x1 pos) (sTup ss) O1 := by
  intro B σ G H Q st k
  refine e_of (pe_tup pa_w) ?_
  refine h B σ G H _ st fun vs G1 H1 m1 st1 hv => ⟨by rw [hv.length]; exact hz, fun q hq => ?_⟩
  have sg : Same G1 (upd G1 q (.tup vs)) := same_new (gnone st1.stp hq)
  exact k _ _ _ (m1.trans sg) (st1.freshG hq) ⟨q, vs, rfl, SqT.of upd_same, hv.mono sg⟩
theorem ew_lstS (h : EA X δ O es ss O1) (hz : ss.length ≤ sizeLine) : EW X δ O (.List es pos) (fun p => oLstS p ss) O1 := by
  intro B σ G H Q st k
  refine e_of (pe_lst pa_w) ?_
  refine h B σ G H _ st fun vs G1 H1 m1 st1 hv => ⟨by rw [hv.length]; exact hz, fun q hq => ?_⟩
  exact k q G1 _ (none_of st1 hq) m1 (st1.freshO (w := oLstS q ss) hq rfl ⟨vs, rfl, hv⟩)

/-! ### calls -/
theorem e_callB {id : String} (hc : CallE X (.builtin id) ss s) (hm : X.mg x = none) (hv : bootBuiltins x = some (.builtin id)) (ha : EA X δ O (e :: es) ss O1) (hg : Gl X x := by rfl) (hn : x ≠ "__name__" := by decide) (hdb : (x == ("__debug__" : Str)) = false := by decide)
    (he : noStar e = true := by rfl) (hpl : noStars es = true := by rfl) : E X δ O (.Call (.Name x p) (e :: es) [] pos) s O1 := by
  obtain ⟨r, h1, h2⟩ := hc
  intro B σ G H Q st k
  refine e_of (pe_callB h1 hg hm hv pa_w hn hdb (starEach_plain he) (backTo_plain hpl)) ?_
  exact ha B σ G H _ st fun vs G1 H1 m1 st1 hv => h2 B δ O1 σ G1 H1 Q vs st1 hv fun v G' H' m2 st2 hv => k v G' H' (m1.trans m2) st2 hv
theorem e_callTy {id : String} (hc : CallE X (.type id) ss s) (hm : X.mg x = none) (hv : bootBuiltins x = some (.type id)) (ha : EA X δ O (e :: es) ss O1) (hg : Gl X x := by rfl) (hn : x ≠ "__name__" := by decide) (hdb : (x == ("__debug__" : Str)) = false := by decide)
    (he : noStar e = true := by rfl) (hpl : noStars es = true := by rfl) : E X δ O (.Call (.Name x p) (e :: es) [] pos) s O1 := by
  obtain ⟨r, h1, h2⟩ := hc
  intro B σ G H Q st k
  refine e_of (pe_callTy h1 hg hm hv pa_w hn hdb (starEach_plain he) (backTo_plain hpl)) ?_
  exact ha B σ G H _ st fun vs G1 H1 m1 st1 hv => h2 B δ O1 σ G1 H1 Q vs st1 hv fun v G' H' m2 st2 hv => k v G' H' (m1.trans m2) st2 hv
theorem ew_callB {id : String} {φ : Addr → Own} (hc : CallW X (.builtin id) ss φ) (hm : X.mg x = none) (hv : bootBuiltins x = some (.builtin id)) (ha : EA X δ O (e :: es) ss O1) (hg : Gl X x := by rfl) (hn : x ≠ "__name__" := by decide) (hdb : (x == ("__debug__" : Str)) = false := by decide)
    (he : noStar e = true := by rfl) (hpl : noStars es = true := by rfl) : EW X δ O (.Call (.Name x p) (e :: es) [] pos) φ O1 := by
  obtain ⟨r, h1, h2⟩ := hc
  intro B σ G H Q st k
  refine e_of (pe_callB h1 hg hm hv pa_w hn hdb (starEach_plain he) (backTo_plain hpl)) ?_
  exact ha B σ G H _ st fun vs G1 H1 m1 st1 hv => h2 B δ O1 σ G1 H1 Q vs st1 hv fun v G' H' hb m2 st2 => k v G' H' hb (m1.trans m2) st2
theorem ew_callTy {id : String} {φ : Addr → Own} (hc : CallW X (.type id) ss φ) (hm : X.mg x = none) (hv : bootBuiltins x = some (.type id)) (ha : EA X δ O (e :: es) ss O1) (hg : Gl X x := by rfl) (hn : x ≠ "__name__" := by decide) (hdb : (x == ("__debug__" : Str)) = false := by decide)
    (he : noStar e = true := by rfl) (hpl : noStars es = true := by rfl) : EW X δ O (.Call (.Name x p) (e :: es) [] pos) φ O1 := by
  obtain ⟨r, h1, h2⟩ := hc
  intro B σ G H Q st k
  refine e_of (pe_callTy h1 hg hm hv pa_w hn hdb (starEach_plain he) (backTo_plain hpl)) ?_
  exact ha B σ G H _ st fun vs G1 H1 m1 st1 hv => h2 B δ O1 σ G1 H1 Q vs st1 hv fun v G' H' hb m2 st2 => k v G' H' hb (m1.trans m2) st2

section
variable {ι : Type} {S : FS ι} {k : Nat} {f C : Addr} {dvs : List V} {m : Str} {apos : Pos} {o : Expr}
/-- a def keeps its promise over data: dvs its defaults' values -/
structure DefOk (P : Program) (w : World) (K : Fg) (mg : Str → Option Value) (base : Heap) (k : Nat) (f : Addr) (dvs : List V) {ι : Type} (S : FS ι) : Prop where
  ex : ∃ fd ps ds, FnOk P w K mg base CX0 k f fd ps (S.sp K) ∧ Binds K fd ps ds ∧ Vals dvs ds
  kp : PySem.W.keepIn K (.ref f) = true -- -
abbrev DefX (X : Cx) (k : Nat) (f : Addr) (dvs : List V) {ι : Type} (S : FS ι) : Prop := DefOk X.prog X.w X.K X.mg X.base k f dvs S
/-- the promise of a def, taken at a state -/
theorem fs_use {K : Fg} {G H : Hp} {σ : SS} {Q : VK} {vs : List V} {EE : XK} (j : ι) (hp : S.pre j) (st : Sta K B δ (S.own j ++ O2) σ G H) (ha : AllS K G vs (S.args j)) (hw : (S.own' j).map (·.p) = (S.own j).map (·.p))
    (k : ∀ v G' H', Same G G' → Sta K B δ (S.own' j ++ O2) σ G' H' → (S.res j).ok K G' v → Q v H') : S.sp K vs H Q EE := by
  have nd := st.nd
  rw [List.map_append] at nd
  refine ⟨j, G, hp, st.stp.gh, ha, fun w hw => st.own w (List.mem_append_left _ hw), (List.nodup_append.mp nd).1, fun v G' H' t ow hv => ?_⟩
  exact k v G' H' t.ex (st.ran t hw ow) hv
theorem alls_dvs {K : Fg} {G : Hp} : ∀ {vs : List V} {ss ts : List Slot} {ds : List V}, AllS K G vs ss → AllS K G ds ts → AllS K G (vs ++ ds) (ss ++ ts)
  | _, _, _, _, .nil, h => h
  | _, _, _, _, .cons a b, h => .cons a (alls_dvs b h)
theorem alls_vals {K : Fg} {G : Hp} : ∀ ds : List V, AllS K G ds (ds.map sVal)
  | [] => .nil
  | _ :: ds => .cons rfl (alls_vals ds)
/-- f(e, ..): j the ghosts -/
theorem e_call (j : ι) (F : DefX X k f dvs S) (hr : Room k X.A) (hm : X.mg x = some (.ref f)) (ha : EA X δ O (e :: es) ss (S.own j ++ O2)) (hp : S.pre j) (hss : ss ++ dvs.map sVal = S.args j := by rfl)
    (hw : (S.own' j).map (·.p) = (S.own j).map (·.p) := by rfl) (hg : Gl X x := by rfl)
    (hdb : (x == ("__debug__" : Str)) = false := by decide) (he : noStar e = true := by rfl) (hpl : noStars es = true := by rfl) :
    E X δ O (.Call (.Name x p) (e :: es) [] pos) (S.res j) (S.own' j ++ O2) := by
  obtain ⟨⟨fd, ps, ds, F, hb, hd⟩, hk⟩ := F
  intro B σ G H Q st q
  refine e_of (pe_call F hr hg hm hk hb hd (E := E0) pass0 pa_w hdb (starEach_plain he) (backTo_plain hpl)) ?_
  exact ha B σ G H _ st fun vs G1 H1 m1 st1 hv => fs_use j hp st1 (by rw [← hss]; exact alls_dvs hv (alls_vals dvs)) hw fun v G' H' m2 st2 hv => q v G' H' (m1.trans m2) st2 hv
/-- the same, the result told by the goal -/
theorem e_callR (j : ι) (F : DefX X k f dvs S) (hr : Room k X.A) (hm : X.mg x = some (.ref f)) (ha : EA X δ O (e :: es) ss (S.own j ++ O2)) (hp : S.pre j) (hres : S.res j = s := by rfl) (ho : S.own' j ++ O2 = O3 := by rfl) (hss : ss ++ dvs.map sVal = S.args j := by rfl)
    (hw : (S.own' j).map (·.p) = (S.own j).map (·.p) := by rfl) (hg : Gl X x := by rfl)
    (hdb : (x == ("__debug__" : Str)) = false := by decide) (he : noStar e = true := by rfl) (hpl : noStars es = true := by rfl) :
    E X δ O (.Call (.Name x p) (e :: es) [] pos) s O3 := by
  subst hres ho
  exact e_call j F hr hm ha hp hss hw hg hdb he hpl
theorem e_call0 (j : ι) (F : DefX X k f dvs S) (hr : Room k X.A) (hm : X.mg x = some (.ref f)) (hp : S.pre j) (ho : O = S.own j ++ O2 := by rfl) (hss : dvs.map sVal = S.args j := by rfl)
    (hw : (S.own' j).map (·.p) = (S.own j).map (·.p) := by rfl) (hg : Gl X x := by rfl)
    (hdb : (x == ("__debug__" : Str)) = false := by decide) : E X δ O (.Call (.Name x p) [] [] pos) (S.res j) (S.own' j ++ O2) := by
  subst ho
  obtain ⟨⟨fd, ps, ds, F, hb, hd⟩, hk⟩ := F
  intro B σ G H Q st q
  refine e_of (pe_call0 F hr hg hm hk hb hd (E := E0) pass0 hdb) ?_
  show S.sp X.K ([] ++ dvs) H Q E0
  exact fs_use j hp st (by rw [← hss]; exact alls_vals dvs) hw fun v G' H' m2 st2 hv => q v G' H' m2 st2 hv

/-! ### instances -/
/-- an instance of the class at C: what its attributes hold, and it has no others -/
def insOk (C : Addr) (tab : List (Str × Slot)) (K : Fg) (G : Hp) (o : HO) : Prop :=
  ∃ dx fs, o = .ins C dx fs ∧ fs.length ≤ tab.length ∧ (∀ f s, (f, s) ∈ tab → ∃ v, fs.lookup f = some v ∧ s.ok K G v) ∧ ∀ f, f ∉ tab.map (·.1) → fs.lookup f = none
theorem insOk.mono {C : Addr} {tab : List (Str × Slot)} {K : Fg} {G G' : Hp} {o : HO} (e : Same G G') (h : insOk C tab K G o) : insOk C tab K G' o :=
  let ⟨dx, fs, a, n, b, c⟩ := h; ⟨dx, fs, a, n, fun f s m => let ⟨v, p, q⟩ := b f s m; ⟨v, p, s.mono e q⟩, c⟩
theorem insOk_nil {C : Addr} {K : Fg} {G : Hp} (dx : Addr) : insOk C [] K G (.ins C dx []) := ⟨dx, [], rfl, Nat.le_refl _, (fun f s h => by cases h), fun f _ => rfl⟩
def oIns (p C : Addr) (tab : List (Str × Slot)) : Own := ⟨p, insOk C tab, insOk.mono⟩
def sIns (C : Addr) (tab : List (Str × Slot)) : Slot := ⟨fun K G v => ∃ p o, v = .ref p ∧ G p = some o ∧ insOk C tab K G o, fun e ⟨p, o, a, b, c⟩ => ⟨p, o, a, e _ _ b, c.mono e⟩⟩
theorem frz_ins {tab : List (Str × Slot)} (K : Fg) (G : Hp) (p : Addr) (o : HO) (h : (oIns p C tab).φ K G o) (g : G p = none) : (sIns C tab).ok K (upd G p o) (.ref p) := ⟨p, o, rfl, upd_same, insOk.mono (same_new g) h⟩
theorem e_ins {tab : List (Str × Slot)} (h : EW X δ O e (fun p => oIns p C tab) O1) : E X δ O e (sIns C tab) O1 := e_freeze h (fun _ => rfl) frz_ins
/-- e.f of a frozen instance -/
theorem e_fld {tab : List (Str × Slot)} (j : Nat) (c : Cls X.K C) (n : NoAttr X.K C x) (h : E X δ O e (sIns C tab) O1) (hj : tab[j]? = some (x, s) := by rfl) (hb : noCall0 e = true := by rfl) : E X δ O (.Attribute e x pos) s O1 := by
  intro B σ G H Q st k
  refine e_of (pe_fld pe_w (attributeBase_plain hb)) ?_
  refine h B σ G H _ st fun v G1 H1 m1 st1 hv => ?_
  obtain ⟨q, o, rfl, hq, dx, fs, rfl, _, h1, _⟩ := hv
  obtain ⟨v, h2, h3⟩ := h1 x s (List.mem_of_getElem? hj)
  exact ⟨q, C, dx, fs, v, rfl, st1.stp.gh _ _ hq, c, n, h2, k v G1 H1 m1 st1 h3⟩
/-- e.f of an owned instance -/
theorem e_fldO {q : Addr} {tab : List (Str × Slot)} (j : Nat) (jw : Nat) (c : Cls X.K C) (n : NoAttr X.K C x) (h : E X δ O e (sRef q) O1) (hw : O1[jw]? = some (oIns q C tab) := by rfl) (hj : tab[j]? = some (x, s) := by rfl) (hb : noCall0 e = true := by rfl) : E X δ O (.Attribute e x pos) s O1 := by
  intro B σ G H Q st k
  refine e_of (pe_fld pe_w (attributeBase_plain hb)) ?_
  refine h B σ G H _ st fun v G1 H1 m1 st1 hv => ?_
  obtain ⟨o, hq, _, dx, fs, rfl, _, h1, _⟩ := st1.own _ (List.mem_of_getElem? hw)
  obtain ⟨v', h2, h3⟩ := h1 x s (List.mem_of_getElem? hj)
  exact ⟨q, C, dx, fs, v', hv, hq, c, n, h2, k v' G1 H1 m1 st1 h3⟩
/-- o.m(e, ..), o a frozen instance -/
theorem e_meth {tab : List (Str × Slot)} {pl : Sem Bool} (j : ι) (F : DefX X k f dvs S) (hr : Room k X.A) (c : Cls X.K C) (hm : Meth X.K C m f) (h : E X δ O o (sIns C tab) O1) (ha : EA X δ O1 (e :: es) ss (S.own j ++ O2)) (hp : S.pre j)
    (hss : sIns C tab :: (ss ++ dvs.map sVal) = S.args j := by rfl) (hno : (tab.map (·.1)).contains m = false := by (try simp only [List.map_cons, List.map_nil]); decide +kernel) (hw : (S.own' j).map (·.p) = (S.own j).map (·.p) := by rfl)
    (hst : noStar e = true := by rfl) (hpl : noStars es = true := by rfl)
    (ht : eval (.Call (.Attribute o m apos) (e :: es) [] pos) X.env = (do -- -
      let ov ← eval o X.env
      standAt apos.atName
      let (f, first) ← holding [ov] (getMethod ov m pl) -- -
      callWith pos f first (backTo pos (starEach (e :: es) X.env)) (backToKw pos (keywordEach [] X.env))) := by rfl) : -- -
    E X δ O (.Call (.Attribute o m apos) (e :: es) [] pos) (S.res j) (S.own' j ++ O2) := by
  obtain ⟨⟨fd, ps, ds, F, hb, hd⟩, hk⟩ := F
  intro B σ G H Q st q
  refine e_of (pe_meth pe_w c hm F hr hb hd (E := E0) pass0 pa_w (starEach_plain hst) (backTo_plain hpl) ht) ?_
  refine h B σ G H _ st fun v G1 H1 m1 st1 hv => ?_
  have hv0 := hv
  obtain ⟨p, o', rfl, hq, dx, fs, rfl, _, h1, h2⟩ := hv
  refine ⟨p, dx, fs, rfl, st1.stp.gh _ _ hq, h2 m (by simpa using hno), ?_⟩
  exact ha B σ G1 H1 _ st1 fun vs G2 H2 m2 st2 hvs => fs_use j hp st2 (by rw [← hss]; exact .cons ((sIns C tab).mono m2 hv0) (alls_dvs hvs (alls_vals dvs))) hw fun v G' H' m3 st3 hv => q v G' H' (m1.trans (m2.trans m3)) st3 hv
theorem e_meth0 {tab : List (Str × Slot)} {pl : Sem Bool} (j : ι) (F : DefX X k f dvs S) (hr : Room k X.A) (c : Cls X.K C) (hm : Meth X.K C m f) (h : E X δ O o (sIns C tab) (S.own j ++ O2)) (hp : S.pre j)
    (hss : sIns C tab :: (dvs.map sVal) = S.args j := by rfl) (hno : (tab.map (·.1)).contains m = false := by (try simp only [List.map_cons, List.map_nil]); decide +kernel) (hw : (S.own' j).map (·.p) = (S.own j).map (·.p) := by rfl)
    (ht : eval (.Call (.Attribute o m apos) [] [] pos) X.env = (do -- -
      let ov ← eval o X.env
      standAt apos.atName
      let (f, first) ← holding [ov] (getMethod ov m pl) -- -
      callWith pos f first (backTo pos (starEach [] X.env)) (backToKw pos (keywordEach [] X.env))) := by rfl) : -- -
    E X δ O (.Call (.Attribute o m apos) [] [] pos) (S.res j) (S.own' j ++ O2) := by
  obtain ⟨⟨fd, ps, ds, F, hb, hd⟩, hk⟩ := F
  intro B σ G H Q st q
  refine e_of (pe_meth0 pe_w c hm F hr hb hd (E := E0) pass0 ht) ?_
  refine h B σ G H _ st fun v G1 H1 m1 st1 hv => ?_
  have hv0 := hv
  obtain ⟨p, o', rfl, hq, dx, fs, rfl, _, h1, h2⟩ := hv
  refine ⟨p, dx, fs, rfl, st1.stp.gh _ _ hq, h2 m (by simpa using hno), ?_⟩
  show S.sp X.K (V.ref p :: ([] ++ dvs)) H1 Q E0
  exact fs_use j hp st1 (by rw [← hss]; exact .cons hv0 (alls_vals dvs)) hw fun v G' H' m3 st3 hv => q v G' H' (m1.trans m3) st3 hv
/-- C(e, ..): j the ghosts by the new instance's address; its __init__ hands back what owns it as ψ -/
theorem ew_make {ψ : Addr → Own} (j : Addr → ι) (M : Mk X.K C f) (F : DefX X k f dvs S) (hr : Room (k + 1) X.A) (hm : X.mg x = some (.ref C)) (ha : EA X δ O (e :: es) ss O2) (hp : ∀ q, S.pre (j q)) (hss : ∀ q, sRef q :: (ss ++ dvs.map sVal) = S.args (j q) := by intro _; rfl)
    (ho : ∀ q, S.own (j q) = [oIns q C []] := by intro _; rfl) (ho' : ∀ q, S.own' (j q) = [ψ q] := by intro _; rfl) (hψ : ∀ q, (ψ q).p = q := by intro _; rfl) (hres : ∀ q, S.res (j q) = sNon := by intro _; rfl) (hg : Gl X x := by rfl)
    (hdb : (x == ("__debug__" : Str)) = false := by decide) (he : noStar e = true := by rfl) (hpl : noStars es = true := by rfl) :
    EW X δ O (.Call (.Name x p) (e :: es) [] pos) ψ O2 := by
  obtain ⟨⟨fd, ps, ds, F, hb, hd⟩, hk⟩ := F
  intro B σ G H Q st q
  refine e_of (pe_make M F hr hg hm hb hd (E := E0) pass0 pa_w hdb (starEach_plain he) (backTo_plain hpl)) ?_
  refine ha B σ G H _ st fun vs G1 H1 m1 st1 hvs y dx hy hdx hne => ?_
  have st2 := st1.freshG (o := HO.own y) hdx
  have hy2 : (upd H1 dx (HO.own y)) y = none := by rw [upd_ne (fun z => hne z.symm)]; exact hy
  have st3 := st2.freshO (w := oIns y C []) (o := .ins C dx []) hy2 rfl (insOk_nil dx)
  have sg : Same G1 (upd G1 dx (HO.own y)) := same_new (gnone st1.stp hdx)
  have st4 : Sta X.K B δ (S.own (j y) ++ O2) σ (upd G1 dx (HO.own y)) (upd (upd H1 dx (HO.own y)) y (.ins C dx [])) := by rw [ho]; exact st3
  refine fs_use (j y) (hp y) st4 (by rw [← hss]; exact .cons rfl ((alls_dvs hvs (alls_vals dvs)).mono sg)) (by rw [ho, ho']; show [(ψ y).p] = [y]; rw [hψ]) fun v G' H' m3 st5 hv => ?_
  rw [hres] at hv
  rw [ho'] at st5
  exact ⟨hv, q y G' H' (none_of st1 hy) (m1.trans (sg.trans m3)) st5⟩
end
end
end Gd

namespace Gd
open PySem L2
section
variable {X : Cx} {B : Bs} {δ : List (Option Slot)} {O O1 O2 O3 : List Own} {a b c e : Expr} {es : List Expr} {x : Str} {p pos : Pos} {s s1 s2 s3 : Slot} {ss : List Slot} {α β : Type} {R : α → Slot} {i j : Int}
theorem szl {n : Nat} (h : n ≤ 100000) : n ≤ sizeLine := Nat.le_trans h (by decide)
/-! ### operators on scalars -/
theorem o_add : OpE X (binaryOp .Add) (sInt i) (sInt j) (sInt (i + j)) := ⟨_, op_add, fun B δ O σ G H Q x y st hx hy k => ⟨i, j, hx, hy, k _ G H (Same.refl _) st rfl⟩⟩
theorem o_sub : OpE X (binaryOp .Sub) (sInt i) (sInt j) (sInt (i - j)) := ⟨_, op_sub, fun B δ O σ G H Q x y st hx hy k => ⟨i, j, hx, hy, k _ G H (Same.refl _) st rfl⟩⟩
theorem o_mul (h : CMul i j) : OpE X (binaryOp .Mult) (sInt i) (sInt j) (sInt (i * j)) := ⟨_, op_mul, fun B δ O σ G H Q x y st hx hy k => ⟨i, j, hx, hy, h, k _ G H (Same.refl _) st rfl⟩⟩
theorem o_mulW (h : CMulW i j) : OpE X (binaryOp .Mult) (sInt i) (sInt j) (sInt (i * j)) := ⟨_, op_mulW, fun B δ O σ G H Q x y st hx hy k => ⟨i, j, hx, hy, h, k _ G H (Same.refl _) st rfl⟩⟩
theorem o_mod (h : 0 < j) : OpE X (binaryOp .Mod) (sInt i) (sInt j) (sInt (i % j)) := ⟨_, op_mod, fun B δ O σ G H Q x y st hx hy k => ⟨i, j, hx, hy, h, k _ G H (Same.refl _) st rfl⟩⟩
theorem o_fdiv (h : CDiv i j) : OpE X (binaryOp .FloorDiv) (sInt i) (sInt j) (sInt (i / j)) := ⟨_, op_fdiv, fun B δ O σ G H Q x y st hx hy k => ⟨i, j, hx, hy, h, k _ G H (Same.refl _) st rfl⟩⟩
theorem o_fdivW (h : CDivW i j) : OpE X (binaryOp .FloorDiv) (sInt i) (sInt j) (sInt (i / j)) := ⟨_, op_fdivW, fun B δ O σ G H Q x y st hx hy k => ⟨i, j, hx, hy, h, k _ G H (Same.refl _) st rfl⟩⟩
theorem o_pow (h : CPow i j) : OpE X (binaryOp .Pow) (sInt i) (sInt j) (sInt (i ^ j.toNat)) := ⟨_, op_pow, fun B δ O σ G H Q x y st hx hy k => ⟨i, j, hx, hy, h, k _ G H (Same.refl _) st rfl⟩⟩
theorem o_lt : OpE X (compareOp .Lt) (sInt i) (sInt j) (sBl (decide (i < j))) := ⟨_, op_lt, fun B δ O σ G H Q x y st hx hy k => ⟨i, j, hx, hy, k _ G H (Same.refl _) st rfl⟩⟩
theorem o_le : OpE X (compareOp .LtE) (sInt i) (sInt j) (sBl (decide (i ≤ j))) := ⟨_, op_le, fun B δ O σ G H Q x y st hx hy k => ⟨i, j, hx, hy, k _ G H (Same.refl _) st rfl⟩⟩
theorem o_gt : OpE X (compareOp .Gt) (sInt i) (sInt j) (sBl (decide (j < i))) := ⟨_, op_gt, fun B δ O σ G H Q x y st hx hy k => ⟨i, j, hx, hy, k _ G H (Same.refl _) st rfl⟩⟩
theorem o_ge : OpE X (compareOp .GtE) (sInt i) (sInt j) (sBl (decide (j ≤ i))) := ⟨_, op_ge, fun B δ O σ G H Q x y st hx hy k => ⟨i, j, hx, hy, k _ G H (Same.refl _) st rfl⟩⟩
theorem o_eqV {v w : V} {k : Bool} (h : scal v w = true) (hk : decide (v = w) = k) : OpE X (compareOp .Eq) (sVal v) (sVal w) (sBl k) :=
  ⟨_, op_eq, fun B δ O σ G H Q x y st hx hy q => by cases hx; cases hy; exact ⟨h, q _ G H (Same.refl _) st (by rw [hk]; rfl)⟩⟩
theorem o_neV {v w : V} {k : Bool} (h : scal v w = true) (hk : (!decide (v = w)) = k) : OpE X (compareOp .NotEq) (sVal v) (sVal w) (sBl k) :=
  ⟨_, op_ne, fun B δ O σ G H Q x y st hx hy q => by cases hx; cases hy; exact ⟨h, q _ G H (Same.refl _) st (by rw [hk]; rfl)⟩⟩
theorem o_eq : OpE X (compareOp .Eq) (sInt i) (sInt j) (sBl (decide (i = j))) := o_eqV rfl (decide_eq_decide.mpr ⟨fun h => V.int.inj h, fun h => h ▸ rfl⟩)
theorem o_ne : OpE X (compareOp .NotEq) (sInt i) (sInt j) (sBl (!decide (i = j))) := o_neV rfl (congrArg (!·) (decide_eq_decide.mpr ⟨fun h => V.int.inj h, fun h => h ▸ rfl⟩))
theorem o_eqS {u v : Str} : OpE X (compareOp .Eq) (sStr u) (sStr v) (sBl (decide (u = v))) := o_eqV rfl (decide_eq_decide.mpr ⟨fun h => V.str.inj h, fun h => h ▸ rfl⟩)
theorem o_neS {u v : Str} : OpE X (compareOp .NotEq) (sStr u) (sStr v) (sBl (!decide (u = v))) := o_neV rfl (congrArg (!·) (decide_eq_decide.mpr ⟨fun h => V.str.inj h, fun h => h ▸ rfl⟩))
theorem o_eqB {u v : Bool} : OpE X (compareOp .Eq) (sBl u) (sBl v) (sBl (decide (u = v))) := o_eqV rfl (decide_eq_decide.mpr ⟨fun h => V.bl.inj h, fun h => h ▸ rfl⟩)
theorem o_neB {u v : Bool} : OpE X (compareOp .NotEq) (sBl u) (sBl v) (sBl (!decide (u = v))) := o_neV rfl (congrArg (!·) (decide_eq_decide.mpr ⟨fun h => V.bl.inj h, fun h => h ▸ rfl⟩))
theorem o_isN {k : Bool} (h : ∀ (K : Fg) (G : Hp) (v : V), s.ok K G v → decide (v = V.non) = k) : OpE X (compareOp .Is) s sNon (sBl k) :=
  ⟨_, op_isN, fun B δ O σ G H Q x y st hx hy q => ⟨hy, q _ G H (Same.refl _) st (by rw [h _ _ _ hx]; rfl)⟩⟩
theorem o_notN {k : Bool} (h : ∀ (K : Fg) (G : Hp) (v : V), s.ok K G v → decide (v = V.non) = k) : OpE X (compareOp .IsNot) s sNon (sBl (!k)) :=
  ⟨_, op_notN, fun B δ O σ G H Q x y st hx hy q => ⟨hy, q _ G H (Same.refl _) st (by rw [h _ _ _ hx]; rfl)⟩⟩
theorem isn_opt {o : Option α} (h : ∀ a (K : Fg) (G : Hp) (v : V), (R a).ok K G v → v ≠ .non) : ∀ (K : Fg) (G : Hp) (v : V), (sOpt R o).ok K G v → decide (v = V.non) = o.isNone := fun K G v q => by
  cases o with
  | none =>
    have q : v = V.non := q
    rw [q]
    rfl
  | some a => exact decide_eq_false (h a K G v q)
theorem o_isO {o : Option α} (h : ∀ a (K : Fg) (G : Hp) (v : V), (R a).ok K G v → v ≠ .non) : OpE X (compareOp .Is) (sOpt R o) sNon (sBl o.isNone) := o_isN (isn_opt h)
theorem o_notO {o : Option α} (h : ∀ a (K : Fg) (G : Hp) (v : V), (R a).ok K G v → v ≠ .non) : OpE X (compareOp .IsNot) (sOpt R o) sNon (sBl (!o.isNone)) := o_notN (isn_opt h)
theorem o_notI : OpE X (compareOp .IsNot) (sInt i) sNon (sBl true) := o_notN (k := false) fun K G v h => by
  have h : v = V.int i := h
  rw [h]
  rfl
theorem o_isI : OpE X (compareOp .Is) (sInt i) sNon (sBl false) := o_isN fun K G v h => by
  have h : v = V.int i := h
  rw [h]
  rfl
theorem ins_notN {C : Addr} {tab : List (Str × Slot)} {K : Fg} {G : Hp} {v : V} (h : (sIns C tab).ok K G v) : v ≠ .non := by
  obtain ⟨p, o, rfl, _⟩ := h
  intro z; cases z
/-- a sign in a text -/
theorem o_inC {n : Nat} {t : Str} : OpE X (compareOp .In) (sStr ⟨#[n]⟩) (sStr t) (sBl (decide (n ∈ t.cps.toList))) :=
  ⟨_, op_in_sign, fun B δ O σ G H Q x y st hx hy k => ⟨n, t, hx, hy, k _ G H (Same.refl _) st rfl⟩⟩

/-! ### sequences -/
theorem sqT_up {K : Fg} {G H : Hp} {q : Addr} {vs : List V} (e : Same G H) (h : SqT K G q vs) : SqT K H q vs := sqT_mono e h
theorem o_cat {as bs : List α} (hz : as.length + bs.length ≤ sizeLine) : OpEW X (binaryOp .Add) (sLst R as) (sLst R bs) (fun p => oLst p R (as ++ bs)) :=
  ⟨_, op_cat, fun B δ O σ G H Q x y st hx hy k => by
    obtain ⟨p, vs, rfl, hp, r1⟩ := hx
    obtain ⟨q, ws, rfl, hq, r2⟩ := hy
    refine ⟨p, q, vs, ws, rfl, rfl, st.stp.gh _ _ hp, st.stp.gh _ _ hq, by rw [r1.length, r2.length]; exact hz, fun z hz' => ?_⟩
    exact k z G _ (none_of st hz') (Same.refl _) (st.freshO (w := oLst z R (as ++ bs)) hz' rfl ⟨_, rfl, r1.append r2⟩)⟩
/-- x in a tuple, a list of texts -/
theorem inV_str {z : Str} : ∀ {ts : List Str}, inV (.str z) (ts.map V.str) = decide (z ∈ ts)
  | [] => rfl
  | t :: ts => by
    show (eqV (.str t) (.str z) || inV (.str z) (ts.map V.str)) = _
    rw [inV_str (ts := ts)]
    have h : eqV (.str t) (.str z) = decide (z = t) := by
      unfold eqV
      by_cases e : t = z
      · subst e; simp
      · have e' : ¬ z = t := fun q => e q.symm
        simp [e, e']
    rw [h]
    by_cases e : z = t <;> simp [e]
theorem inV_int {z : Int} : ∀ {ts : List Int}, inV (.int z) (ts.map V.int) = decide (z ∈ ts)
  | [] => rfl
  | t :: ts => by
    show (eqV (.int t) (.int z) || inV (.int z) (ts.map V.int)) = _
    rw [inV_int (ts := ts)]
    have h : eqV (.int t) (.int z) = decide (z = t) := by
      unfold eqV
      by_cases e : t = z
      · subst e; simp
      · have e' : ¬ z = t := fun q => e q.symm
        simp [e, e']
    rw [h]
    by_cases e : z = t <;> simp [e]
theorem flat_strs {ts : List Str} : (ts.map V.str).all flatV = true := by
  rw [List.all_eq_true]
  intro v hv
  obtain ⟨t, _, rfl⟩ := List.mem_map.mp hv
  rfl
theorem flat_ints {ts : List Int} : (ts.map V.int).all flatV = true := by
  rw [List.all_eq_true]
  intro v hv
  obtain ⟨t, _, rfl⟩ := List.mem_map.mp hv
  rfl
theorem o_inT {z : Str} {ts : List Str} : OpE X (compareOp .In) (sStr z) (sTupl sStr ts) (sBl (decide (z ∈ ts))) :=
  ⟨_, op_in_seq, fun B δ O σ G H Q x y st hx hy k => by
    obtain ⟨p, vs, rfl, hp, r⟩ := hy
    cases hx
    have e := r.vals (f := V.str)
    subst e
    refine ⟨p, _, rfl, .inr (sqT_up st.stp.gh hp), rfl, flat_strs, ?_⟩
    rw [if_neg Bool.false_ne_true, inV_str]
    exact k _ G H (Same.refl _) st rfl⟩
theorem o_niT {z : Str} {ts : List Str} : OpE X (compareOp .NotIn) (sStr z) (sTupl sStr ts) (sBl (!decide (z ∈ ts))) :=
  ⟨_, op_notIn_seq, fun B δ O σ G H Q x y st hx hy k => by
    obtain ⟨p, vs, rfl, hp, r⟩ := hy
    cases hx
    have e := r.vals (f := V.str)
    subst e
    refine ⟨p, _, rfl, .inr (sqT_up st.stp.gh hp), rfl, flat_strs, ?_⟩
    rw [if_pos rfl, inV_str]
    exact k _ G H (Same.refl _) st rfl⟩

/-! ### data compared -/
/-- what a slot says as plain data -/
def IsD (s : Slot) (d : PyData) : Prop := ∀ (K : Fg) (G : Hp) (v : V), s.ok K G v → Dp K G v d
theorem isD_int {i : Int} : IsD (sInt i) (.int i) := fun K G v h => by cases h; exact .int i
theorem isD_str {z : Str} : IsD (sStr z) (.str z) := fun K G v h => by cases h; exact .str z
theorem dpAll {d : α → PyData} (h : ∀ a, IsD (R a) (d a)) {K : Fg} {G : Hp} : ∀ {vs : List V} {as : List α}, All2 K G R vs as → DpAll K G vs (as.map d)
  | _, _, .nil => .nil
  | _, _, .cons q t => .cons (h _ _ _ _ q) (dpAll h t)
theorem isD_lst {d : α → PyData} (h : ∀ a, IsD (R a) (d a)) {as : List α} : IsD (sLst R as) (.list (as.map d)) := fun K G v q => by
  obtain ⟨p, vs, rfl, hp, r⟩ := q
  exact .lst (SqL.of hp) (dpAll h r)
theorem isD_tupl {d : α → PyData} (h : ∀ a, IsD (R a) (d a)) {as : List α} : IsD (sTupl R as) (.tuple (as.map d)) := fun K G v q => by
  obtain ⟨p, vs, rfl, hp, r⟩ := q
  exact .tup hp (dpAll h r)
theorem dp_up {K : Fg} {G H : Hp} (e : Same G H) : ∀ (d : PyData) (v : V), Dp K G v d → Dp K H v d := by
  intro d v h
  exact Dp.rec (motive_1 := fun v d _ => Dp K H v d) (motive_2 := fun vs ds _ => DpAll K H vs ds) .non (fun b => .bl b) (fun i => .int i) (fun x => .str x) (fun h _ ih => .lst (e.seq h) ih) (fun h _ ih => .tup (sqT_up e h) ih) .nil (fun _ _ ih1 ih2 => .cons ih1 ih2) h
theorem o_eqD {d d' : PyData} {k : Nat} {w : Bool} (hr : Room k X.A) (h1 : IsD s1 d) (h2 : IsD s2 d') (hs1 : SeqAt.shaped d = true) (hs2 : SeqAt.shaped d' = true) (hw : PyData.eqv d d' = w) : OpE X (compareOp .Eq) s1 s2 (sBl w) :=
  ⟨_, op_eqD hr.units, fun B δ O σ G H Q x y st hx hy k => ⟨d, d', dp_up st.stp.gh _ _ (h1 _ _ _ hx), dp_up st.stp.gh _ _ (h2 _ _ _ hy), hs1, hs2, k _ G H (Same.refl _) st (by rw [hw]; rfl)⟩⟩
theorem o_neD {d d' : PyData} {k : Nat} {w : Bool} (hr : Room k X.A) (h1 : IsD s1 d) (h2 : IsD s2 d') (hs1 : SeqAt.shaped d = true) (hs2 : SeqAt.shaped d' = true) (hw : PyData.eqv d d' = w) : OpE X (compareOp .NotEq) s1 s2 (sBl (!w)) :=
  ⟨_, op_neD hr.units, fun B δ O σ G H Q x y st hx hy k => ⟨d, d', dp_up st.stp.gh _ _ (h1 _ _ _ hx), dp_up st.stp.gh _ _ (h2 _ _ _ hy), hs1, hs2, k _ G H (Same.refl _) st (by rw [hw]; rfl)⟩⟩
/-! ### rows of texts, of ints compared -/
def okStrs (ts : List Str) : Prop := ∀ t ∈ ts, PySem.PyData.strOk t = true
theorem canAll_strs {ts : List Str} (h : okStrs ts) : PyData.canLayAll0 (ts.map PyData.str) = true := by
  induction ts with
  | nil => simp [PyData.canLayAll0]
  | cons t ts ih =>
    have h1 := h t List.mem_cons_self
    have h2 := ih fun u hu => h u (List.mem_cons_of_mem _ hu)
    simp only [List.map_cons, PyData.canLayAll0, PyData.canLay0, h2, Bool.and_true]
    exact h1
theorem canAll_ints {ns : List Int} : PyData.canLayAll0 (ns.map PyData.int) = true := by
  induction ns with
  | nil => simp [PyData.canLayAll0]
  | cons t ts ih => simp only [List.map_cons, PyData.canLayAll0, PyData.canLay0, ih, Bool.and_true]
theorem depthAll_strs : ∀ ts : List Str, PyData.depthAll (ts.map PyData.str) = 0
  | [] => by simp [PyData.depthAll] -- -
  | t :: ts => by simp [PyData.depthAll, PyData.depth, depthAll_strs ts]
theorem depthAll_ints : ∀ ts : List Int, PyData.depthAll (ts.map PyData.int) = 0
  | [] => by simp [PyData.depthAll] -- -
  | t :: ts => by simp [PyData.depthAll, PyData.depth, depthAll_ints ts]
theorem shaped_lst {ds : List PyData} (h : PyData.canLayAll0 ds = true) (hd : PyData.depthAll ds ≤ 60) : SeqAt.shaped (.list ds) = true := by
  unfold SeqAt.shaped
  rw [Bool.and_eq_true]
  exact ⟨by simp only [PyData.canLay0, h], decide_eq_true (by simp only [PyData.depth]; omega)⟩
theorem shaped_tup {ds : List PyData} (h : PyData.canLayAll0 ds = true) (hd : PyData.depthAll ds ≤ 60) : SeqAt.shaped (.tuple ds) = true := by
  unfold SeqAt.shaped
  rw [Bool.and_eq_true]
  exact ⟨by simp only [PyData.canLay0, h], decide_eq_true (by simp only [PyData.depth]; omega)⟩
theorem eqvAll_map {f : α → PyData} (hf : ∀ a b, PyData.eqv (f a) (f b) = true ↔ a = b) : ∀ {xs ys : List α}, PyData.eqvAll (xs.map f) (ys.map f) = true ↔ xs = ys
  | [], [] => by simp [PyData.eqvAll] -- -
  | [], y :: ys => by simp [PyData.eqvAll]
  | x :: xs, [] => by simp [PyData.eqvAll]
  | x :: xs, y :: ys => by
    simp only [List.map_cons, PyData.eqvAll, Bool.and_eq_true, hf, eqvAll_map hf (xs := xs) (ys := ys), List.cons.injEq]
theorem eqv_str (a b : Str) : PyData.eqv (.str a) (.str b) = true ↔ a = b := by simp [PyData.eqv]
theorem eqv_int (a b : Int) : PyData.eqv (.int a) (.int b) = true ↔ a = b := by simp [PyData.eqv]
theorem eqv_lst {f : α → PyData} (hf : ∀ a b, PyData.eqv (f a) (f b) = true ↔ a = b) [DecidableEq α] {xs ys : List α} : PyData.eqv (.list (xs.map f)) (.list (ys.map f)) = decide (xs = ys) := by
  (rw [Bool.eq_iff_iff, decide_eq_true_eq])
  simp only [PyData.eqv]
  exact eqvAll_map hf
theorem eqv_tup {f : α → PyData} (hf : ∀ a b, PyData.eqv (f a) (f b) = true ↔ a = b) [DecidableEq α] {xs ys : List α} : PyData.eqv (.tuple (xs.map f)) (.tuple (ys.map f)) = decide (xs = ys) := by
  (rw [Bool.eq_iff_iff, decide_eq_true_eq])
  simp only [PyData.eqv]
  exact eqvAll_map hf
theorem o_eqL {k : Nat} (hr : Room k X.A) {ts us : List Str} (h1 : okStrs ts) (h2 : okStrs us) : OpE X (compareOp .Eq) (sLst sStr ts) (sLst sStr us) (sBl (decide (ts = us))) :=
  o_eqD hr (isD_lst fun _ => isD_str) (isD_lst fun _ => isD_str) (shaped_lst (canAll_strs h1) (by rw [depthAll_strs]; decide)) (shaped_lst (canAll_strs h2) (by rw [depthAll_strs]; decide)) (eqv_lst eqv_str)
theorem o_neL {k : Nat} (hr : Room k X.A) {ts us : List Str} (h1 : okStrs ts) (h2 : okStrs us) : OpE X (compareOp .NotEq) (sLst sStr ts) (sLst sStr us) (sBl (!decide (ts = us))) :=
  o_neD hr (isD_lst fun _ => isD_str) (isD_lst fun _ => isD_str) (shaped_lst (canAll_strs h1) (by rw [depthAll_strs]; decide)) (shaped_lst (canAll_strs h2) (by rw [depthAll_strs]; decide)) (eqv_lst eqv_str)
theorem o_eqT {k : Nat} (hr : Room k X.A) {ts us : List Str} (h1 : okStrs ts) (h2 : okStrs us) : OpE X (compareOp .Eq) (sTupl sStr ts) (sTupl sStr us) (sBl (decide (ts = us))) :=
  o_eqD hr (isD_tupl fun _ => isD_str) (isD_tupl fun _ => isD_str) (shaped_tup (canAll_strs h1) (by rw [depthAll_strs]; decide)) (shaped_tup (canAll_strs h2) (by rw [depthAll_strs]; decide)) (eqv_tup eqv_str)
theorem o_neT {k : Nat} (hr : Room k X.A) {ts us : List Str} (h1 : okStrs ts) (h2 : okStrs us) : OpE X (compareOp .NotEq) (sTupl sStr ts) (sTupl sStr us) (sBl (!decide (ts = us))) :=
  o_neD hr (isD_tupl fun _ => isD_str) (isD_tupl fun _ => isD_str) (shaped_tup (canAll_strs h1) (by rw [depthAll_strs]; decide)) (shaped_tup (canAll_strs h2) (by rw [depthAll_strs]; decide)) (eqv_tup eqv_str)
/-- a class is an instance of itself -/
theorem kit_self {K : Fg} {t : Value} : PySem.W.kitOne K t t = some true := by
  unfold PySem.W.kitOne
  rw [if_pos (by simp)]
end
end Gd

namespace Gd
open PySem L2
section
variable {X : Cx} {B : Bs} {δ : List (Option Slot)} {O O1 O2 O3 : List Own} {a b c e : Expr} {es : List Expr} {x : Str} {p pos : Pos} {s s1 s2 s3 : Slot} {ss : List Slot} {α β : Type} {R : α → Slot} {S : β → Slot}
/-! ### built-in calls -/
theorem alls1 {K : Fg} {G : Hp} {vs : List V} (h : AllS K G vs [s]) : ∃ v, vs = [v] ∧ s.ok K G v := by
  cases h with
  | cons h t => cases t; exact ⟨_, rfl, h⟩
theorem alls2 {K : Fg} {G : Hp} {vs : List V} (h : AllS K G vs [s1, s2]) : ∃ v w, vs = [v, w] ∧ s1.ok K G v ∧ s2.ok K G w := by
  cases h with
  | cons h t => obtain ⟨w, rfl, h2⟩ := alls1 t; exact ⟨_, _, rfl, h, h2⟩
theorem c_len {as : List α} : CallE X (.builtin "len") [sLst R as] (sInt as.length) :=
  ⟨_, call_len_seq, fun B δ O σ G H Q xs st h k => by
    obtain ⟨v, rfl, p, vs, rfl, hp, r⟩ := alls1 h
    exact ⟨p, vs, rfl, .inl (SqL.of (st.stp.gh _ _ hp)), k _ G H (Same.refl _) st (by rw [r.length]; rfl)⟩⟩
theorem c_lenK {as : List α} : CallE X (.builtin "len") [sLstK R as] (sInt as.length) :=
  ⟨_, call_len_seq, fun B δ O σ G H Q xs st h k => by
    obtain ⟨v, rfl, p, vs, rfl, hp, r⟩ := alls1 h
    exact ⟨p, vs, rfl, .inl (Same.seq st.stp.gh hp), k _ G H (Same.refl _) st (by rw [r.length]; rfl)⟩⟩
theorem c_lenT {as : List α} : CallE X (.builtin "len") [sTupl R as] (sInt as.length) :=
  ⟨_, call_len_seq, fun B δ O σ G H Q xs st h k => by
    obtain ⟨v, rfl, p, vs, rfl, hp, r⟩ := alls1 h
    exact ⟨p, vs, rfl, .inr (sqT_up st.stp.gh hp), k _ G H (Same.refl _) st (by rw [r.length]; rfl)⟩⟩
theorem c_lenS {t : Str} (hz : t.length ≤ sizeLine) : CallE X (.builtin "len") [sStr t] (sInt t.length) :=
  ⟨_, call_len_str, fun B δ O σ G H Q xs st h k => by
    obtain ⟨v, rfl, hv⟩ := alls1 h
    cases hv
    exact ⟨t, rfl, hz, k _ G H (Same.refl _) st rfl⟩⟩
theorem c_int {i : Int} : CallE X (.type "int") [sInt i] (sInt i) :=
  ⟨_, call_int1, fun B δ O σ G H Q xs st h k => by
    obtain ⟨v, rfl, hv⟩ := alls1 h
    cases hv
    exact .inl ⟨i, rfl, k _ G H (Same.refl _) st rfl⟩⟩
theorem c_all {bs : List Bool} (hc : X.calm = true := by rfl) : CallE X (.builtin "all") [sLst sBl bs] (sBl (bs.all id)) :=
  ⟨_, cr_all hc, fun B δ O σ G H Q xs st h k => by
    obtain ⟨v, rfl, p, vs, rfl, hp, r⟩ := alls1 h
    have e := r.vals (f := V.bl)
    subst e
    exact ⟨p, bs, rfl, SqL.of (st.stp.gh _ _ hp), k _ G H (Same.refl _) st rfl⟩⟩
theorem c_any {bs : List Bool} (hc : X.calm = true := by rfl) : CallE X (.builtin "any") [sLst sBl bs] (sBl (bs.any id)) :=
  ⟨_, cr_any hc, fun B δ O σ G H Q xs st h k => by
    obtain ⟨v, rfl, p, vs, rfl, hp, r⟩ := alls1 h
    have e := r.vals (f := V.bl)
    subst e
    exact ⟨p, bs, rfl, SqL.of (st.stp.gh _ _ hp), k _ G H (Same.refl _) st rfl⟩⟩
theorem c_min {is : List Int} {m : Int} (hm : m ∈ is) (hl : ∀ y ∈ is, m ≤ y) (hc : X.calm = true := by rfl) : CallE X (.builtin "min") [sLst sInt is] (sInt m) :=
  ⟨_, cr_min hc, fun B δ O σ G H Q xs st h k => by
    obtain ⟨v, rfl, p, vs, rfl, hp, r⟩ := alls1 h
    have e := r.vals (f := V.int)
    subst e
    refine ⟨p, is, rfl, SqL.of (st.stp.gh _ _ hp), List.length_pos_of_mem hm, fun n hn hle => ?_⟩
    have : n = m := Int.le_antisymm (hle m hm) (hl n hn)
    subst this
    exact k _ G H (Same.refl _) st rfl⟩
theorem c_max {is : List Int} {m : Int} (hm : m ∈ is) (hl : ∀ y ∈ is, y ≤ m) (hc : X.calm = true := by rfl) : CallE X (.builtin "max") [sLst sInt is] (sInt m) :=
  ⟨_, cr_max hc, fun B δ O σ G H Q xs st h k => by
    obtain ⟨v, rfl, p, vs, rfl, hp, r⟩ := alls1 h
    have e := r.vals (f := V.int)
    subst e
    refine ⟨p, is, rfl, SqL.of (st.stp.gh _ _ hp), List.length_pos_of_mem hm, fun n hn hle => ?_⟩
    have : n = m := Int.le_antisymm (hl n hn) (hle m hm)
    subst this
    exact k _ G H (Same.refl _) st rfl⟩
theorem c_sum {is : List Int} (hc : X.calm = true := by rfl) : CallE X (.builtin "sum") [sLst sInt is] (sInt is.sum) :=
  ⟨_, cr_sum hc, fun B δ O σ G H Q xs st h k => by
    obtain ⟨v, rfl, p, vs, rfl, hp, r⟩ := alls1 h
    have e := r.vals (f := V.int)
    subst e
    exact ⟨p, is, rfl, SqL.of (st.stp.gh _ _ hp), k _ G H (Same.refl _) st rfl⟩⟩
theorem c_tuple {as : List α} : CallE X (.type "tuple") [sLst R as] (sTupl R as) :=
  ⟨_, call_tuple_of, fun B δ O σ G H Q xs st h k => by
    obtain ⟨v, rfl, p, vs, rfl, hp, r⟩ := alls1 h
    refine ⟨p, vs, rfl, .inl ⟨SqL.of (st.stp.gh _ _ hp), fun l hl => ?_⟩⟩
    have sg : Same G (upd G l (.tup vs)) := same_new (gnone st.stp hl)
    exact k _ _ _ sg (st.freshG hl) ⟨l, vs, rfl, SqT.of upd_same, r.mono sg⟩⟩
theorem c_tupleT {as : List α} : CallE X (.type "tuple") [sTupl R as] (sTupl R as) :=
  ⟨_, call_tuple_of, fun B δ O σ G H Q xs st h k => by
    obtain ⟨v, rfl, p, vs, rfl, hp, r⟩ := alls1 h
    exact ⟨p, vs, rfl, .inr ⟨sqT_up st.stp.gh hp, k _ G H (Same.refl _) st ⟨p, vs, rfl, hp, r⟩⟩⟩⟩
theorem c_list {as : List α} : CallW X (.type "list") [sLst R as] (fun p => oLst p R as) :=
  ⟨_, call_list_of, fun B δ O σ G H Q xs st h k => by
    obtain ⟨v, rfl, p, vs, rfl, hp, r⟩ := alls1 h
    exact ⟨p, vs, rfl, .inl (SqL.of (st.stp.gh _ _ hp)), fun l hl => k l G _ (none_of st hl) (Same.refl _) (st.freshO (w := oLst l R as) hl rfl ⟨vs, rfl, r⟩)⟩⟩
theorem c_listT {as : List α} : CallW X (.type "list") [sTupl R as] (fun p => oLst p R as) :=
  ⟨_, call_list_of, fun B δ O σ G H Q xs st h k => by
    obtain ⟨v, rfl, p, vs, rfl, hp, r⟩ := alls1 h
    exact ⟨p, vs, rfl, .inr (sqT_up st.stp.gh hp), fun l hl => k l G _ (none_of st hl) (Same.refl _) (st.freshO (w := oLst l R as) hl rfl ⟨vs, rfl, r⟩)⟩⟩
/-- the type of a slot's values -/
def TyS (s : Slot) (K : Fg) (t : Value) : Prop := ∀ (G H : Hp) (v : V), Same G H → s.ok K G v → TyX K H v t
section
variable {K : Fg}
theorem ty_int {i : Int} : TyS (sInt i) K (.type "int") := fun G H v e h => by cases h; exact .base (.int i)
theorem ty_bl {i : Bool} : TyS (sBl i) K (.type "bool") := fun G H v e h => by cases h; exact .base (.bl i)
theorem ty_str {i : Str} : TyS (sStr i) K (.type "str") := fun G H v e h => by cases h; exact .base (.str i)
theorem ty_non : TyS sNon K (.type "NoneType") := fun G H v e h => by cases h; exact .base .non
theorem ty_lst {as : List α} : TyS (sLst R as) K (.type "list") := fun G H v e h => by
  obtain ⟨p, vs, rfl, hp, r⟩ := h
  exact .base (.lst (e _ _ hp))
theorem ty_sqT {H : Hp} {p : Addr} {vs : List V} (h : SqT K H p vs) : TyX K H (.ref p) (.type "tuple") := by
  rcases h with (h | ⟨o, h⟩) | ⟨o, its, n, h, c, _⟩
  · exact .base (.tup h)
  · exact .fTuple h
  · exact .kTuple h c
theorem ty_tupl {as : List α} : TyS (sTupl R as) K (.type "tuple") := fun G H v e h => by
  obtain ⟨p, vs, rfl, hp, r⟩ := h
  exact ty_sqT (sqT_up e hp)
theorem ty_tup : TyS (sTup ss) K (.type "tuple") := fun G H v e h => by
  obtain ⟨p, vs, rfl, hp, r⟩ := h
  exact ty_sqT (sqT_up e hp)
/-- what isinstance asks of an own class -/ -- -
structure ClsI (K : Fg) (C : Addr) : Prop where
  cl : Cls K C
  ha : PySem.W.findIn K (.ref C) "__class__" = some (some (.builtin "object.__class__")) -- -
  hn : PySem.W.specialIn K (.builtin "object.__class__") "__get__" = some (some (.builtin "getset_descriptor.__get__")) -- -
  htk : PySem.W.takesIn K (.builtin "object.__class__") = some true -- -
  hm : PySem.W.mroIn K C (.type "object") = some true -- -
theorem ty_ins {C : Addr} {tab : List (Str × Slot)} (c : ClsI K C) : TyS (sIns C tab) K (.ref C) := fun G H v e h => by
  obtain ⟨p, o, rfl, hp, dx, fs, rfl, _⟩ := h
  exact .base (.ins (e _ _ hp) c.cl c.ha c.hn c.htk c.hm)
end
theorem c_isi {t : Value} {n : String} {k : Bool} (ty : TyS s X.K t) (hk : PySem.W.kitOne X.K t (.type n) = some k) : CallE X (.builtin "isinstance") [s, sVal (.ty n)] (sBl k) :=
  ⟨_, call_isi, fun B δ O σ G H Q xs st h q => by
    obtain ⟨v, w, rfl, h1, h2⟩ := alls2 h
    cases h2
    exact ⟨v, .ty n, t, .type n, k, rfl, .ty n, ty G H v st.stp.gh h1, hk, q _ G H (Same.refl _) st rfl⟩⟩
theorem c_isiC {t : Value} {C : Addr} {k : Bool} (ty : TyS s X.K t) (hk : PySem.W.kitOne X.K t (.ref C) = some k) : CallE X (.builtin "isinstance") [s, sRef C] (sBl k) :=
  ⟨_, call_isi, fun B δ O σ G H Q xs st h q => by
    obtain ⟨v, w, rfl, h1, h2⟩ := alls2 h
    cases h2
    exact ⟨v, .ref C, t, .ref C, k, rfl, .own C, ty G H v st.stp.gh h1, hk, q _ G H (Same.refl _) st rfl⟩⟩
/-- a tuple that the body has made, place by place -/
def sTupX (ss : List Slot) : Slot :=
  ⟨fun K G v => ∃ p vs, v = .ref p ∧ G p = some (.tup vs) ∧ AllS K G vs ss, fun e ⟨p, vs, h, q, r⟩ => ⟨p, vs, h, e _ _ q, r.mono e⟩⟩
theorem e_tupX {x1} (h : EA X δ O es ss O1) (hz : ss.length ≤ sizeLine) : E X δ O (.Tuple es x1 pos) (sTupX ss) O1 := by
  intro B σ G H Q st k
  refine e_of (pe_tup pa_w) ?_
  refine h B σ G H _ st fun vs G1 H1 m1 st1 hv => ⟨by rw [hv.length]; exact hz, fun q hq => ?_⟩
  have sg : Same G1 (upd G1 q (.tup vs)) := same_new (gnone st1.stp hq)
  exact k _ _ _ (m1.trans sg) (st1.freshG hq) ⟨q, vs, rfl, upd_same, hv.mono sg⟩
/-- isinstance(x, (list, tuple)) -/
theorem c_isi2 {t : Value} {m n : String} {k : Bool} (ty : TyS s X.K t) (hk : PySem.W.kitAny X.K t [.type m, .type n] = some k) : CallE X (.builtin "isinstance") [s, sTupX [sVal (.ty m), sVal (.ty n)]] (sBl k) :=
  ⟨_, call_isiT, fun B δ O σ G H Q xs st h q => by
    obtain ⟨v, w, rfl, h1, p, vs, rfl, hp, h2⟩ := alls2 h
    obtain ⟨v1, v2, rfl, e1, e2⟩ := alls2 h2
    cases e1
    cases e2
    exact ⟨v, p, _, t, _, k, rfl, st.stp.gh _ _ hp, .cons (.ty m) (.cons (.ty n) .nil), ty G H v st.stp.gh h1, hk, q _ G H (Same.refl _) st rfl⟩⟩

/-! ### subscripts, slices -/
theorem e_ix (hi : IxE X s1 s2 s3) (ha : E X δ O a s1 O1) (hb : E X δ O1 b s2 O2) (hs : noSlice b = true := by rfl) : E X δ O (.Subscript a b pos) s3 O2 := by
  obtain ⟨r, h1, h2⟩ := hi
  intro B σ G H Q st k
  refine e_of (pe_ix h1 pe_w pe_w (plainIx_of hs)) ?_
  exact ha B σ G H _ st fun x G1 H1 m1 st1 hx => hb B σ G1 H1 _ st1 fun y G2 H2 m2 st2 hy => h2 B δ O2 σ G2 H2 Q x y st2 (s1.mono m2 hx) hy fun v G' H' m3 st3 hv => k v G' H' (m1.trans (m2.trans m3)) st3 hv
theorem atI_all2 {K : Fg} {G : Hp} {vs : List V} {as : List α} {i : Int} {y : α} (r : All2 K G R vs as) (h : atI as i = some y) : ∃ v, atI vs i = some v ∧ (R y).ok K G v := by
  unfold atI at h ⊢
  rw [r.length]
  cases e : ixN as.length i with
  | none => rw [e] at h; cases h -- -
  | some j =>
    rw [e] at h
    exact r.get h
theorem i_lst {as : List α} {i : Int} {y : α} (h : atI as i = some y) : IxE X (sLst R as) (sInt i) (R y) :=
  ⟨_, ix_list, fun B δ O σ G H Q v w st hv hw k => by
    obtain ⟨p, vs, rfl, hp, r⟩ := hv
    cases hw
    obtain ⟨u, h1, h2⟩ := atI_all2 r h
    exact ⟨p, vs, i, u, rfl, rfl, SqL.of (st.stp.gh _ _ hp), h1, k _ G H (Same.refl _) st h2⟩⟩
theorem i_lstK {as : List α} {i : Int} {y : α} (h : atI as i = some y) : IxE X (sLstK R as) (sInt i) (R y) :=
  ⟨_, ix_list, fun B δ O σ G H Q v w st hv hw k => by
    obtain ⟨p, vs, rfl, hp, r⟩ := hv
    cases hw
    obtain ⟨u, h1, h2⟩ := atI_all2 r h
    exact ⟨p, vs, i, u, rfl, rfl, Same.seq st.stp.gh hp, h1, k _ G H (Same.refl _) st h2⟩⟩
theorem i_tupl {as : List α} {i : Int} {y : α} (h : atI as i = some y) : IxE X (sTupl R as) (sInt i) (R y) :=
  ⟨_, ix_tup, fun B δ O σ G H Q v w st hv hw k => by
    obtain ⟨p, vs, rfl, hp, r⟩ := hv
    cases hw
    obtain ⟨u, h1, h2⟩ := atI_all2 r h
    exact ⟨p, vs, i, u, rfl, rfl, sqT_up st.stp.gh hp, h1, k _ G H (Same.refl _) st h2⟩⟩
theorem allS_get {K : Fg} {G : Hp} : ∀ {vs : List V} {ss : List Slot} {j : Nat} {s : Slot}, AllS K G vs ss → ss[j]? = some s → ∃ v, vs[j]? = some v ∧ s.ok K G v
  | _, _, _, _, .nil, h => by simp at h
  | _, _, 0, _, .cons h t, e => by simp at e; subst e; exact ⟨_, rfl, h⟩
  | _, _, j + 1, s, .cons h t, e => by
    obtain ⟨v, h1, h2⟩ := allS_get t (j := j) (s := s) (by simpa using e)
    exact ⟨v, by simpa using h1, h2⟩
theorem i_tup {i : Int} (j : Nat) (h : ixN ss.length i = some j) (hj : ss[j]? = some s) : IxE X (sTup ss) (sInt i) s :=
  ⟨_, ix_tup, fun B δ O σ G H Q v w st hv hw k => by
    obtain ⟨p, vs, rfl, hp, r⟩ := hv
    cases hw
    obtain ⟨u, h1, h2⟩ := allS_get r hj
    refine ⟨p, vs, i, u, rfl, rfl, sqT_up st.stp.gh hp, ?_, k _ G H (Same.refl _) st h2⟩
    unfold atI
    rw [r.length, h]
    exact h1⟩
/-- xs[i] of an owned list, place by place -/
theorem e_ixO {q : Addr} {i : Int} (jw j : Nat) (ha : E X δ O a (sRef q) O1) (hb : E X δ O1 b (sInt i) O2) (hw : O2[jw]? = some (oLstS q ss) := by rfl) (h : ixN ss.length i = some j := by rfl) (hj : ss[j]? = some s := by rfl) (hs : noSlice b = true := by rfl) : E X δ O (.Subscript a b pos) s O2 := by
  intro B σ G H Q st k
  refine e_of (pe_ix ix_list pe_w pe_w (plainIx_of hs)) ?_
  refine ha B σ G H _ st fun x G1 H1 m1 st1 hx => hb B σ G1 H1 _ st1 fun y G2 H2 m2 st2 hy => ?_
  cases hx
  cases hy
  obtain ⟨o, hq, _, vs, rfl, r⟩ := st2.own _ (List.mem_of_getElem? hw)
  obtain ⟨u, h1, h2⟩ := allS_get r hj
  refine ⟨q, vs, i, u, rfl, rfl, SqL.of hq, ?_, k _ G2 H2 (m1.trans m2) st2 h2⟩
  unfold atI
  rw [r.length, h]
  exact h1
/-- a part of a slice -/
def PoE (X : Cx) (δ : List (Option Slot)) (O : List Own) (e : Option Expr) (o : Option Int) (O' : List Own) : Prop :=
  ∃ t, PO X e t ∧ ∀ (B : Bs) (σ : SS) (G H : Hp) (Q : Option Int → Hp → Prop), Sta X.K B δ O σ G H → (∀ G' H', Same G G' → Sta X.K B δ O' σ G' H' → Q o H') → t σ H Q
theorem po_n : PoE X δ O none none O := ⟨_, po_none, fun B σ G H Q st k => k G H (Same.refl _) st⟩
theorem po_s {i : Int} (h : E X δ O e (sInt i) O1) : PoE X δ O (some e) (some i) O1 := ⟨_, po_some pe_w, fun B σ G H Q st k => h B σ G H _ st fun v G' H' m st' hv => ⟨i, hv, k G' H' m st'⟩⟩
/-- a list's stretch -/
def cutA (as : List α) (lo hi : Option Int) : List α := (as.drop (HT.sIx as.length 0 lo)).take (HT.sIx as.length as.length hi - HT.sIx as.length 0 lo)
theorem cut_all2 {K : Fg} {G : Hp} {vs : List V} {as : List α} (lo hi : Option Int) (r : All2 K G R vs as) : All2 K G R (cutV vs lo hi) (cutA as lo hi) := by
  unfold cutV cutA
  rw [r.length]
  exact (r.drop _).take _
theorem ew_slice {as : List α} {lo hi : Option Expr} {l u : Option Int} {p2 : Pos} (he : E X δ O e (sLst R as) O1) (hl : PoE X δ O1 lo l O2) (hu : PoE X δ O2 hi u O3) : EW X δ O (.Subscript e (.Slice lo hi none p2) pos) (fun p => oLst p R (cutA as l u)) O3 := by
  obtain ⟨t1, g1, f1⟩ := hl
  obtain ⟨t2, g2, f2⟩ := hu
  intro B σ G H Q st k
  refine e_of (pe_slice sl_list pe_w g1 g2) ?_
  refine he B σ G H _ st fun x G1 H1 m1 st1 hx => f1 B σ G1 H1 _ st1 fun G2 H2 m2 st2 => f2 B σ G2 H2 _ st2 fun G3 H3 m3 st3 => ?_
  obtain ⟨p, vs, rfl, hp, r⟩ := hx
  refine ⟨p, vs, rfl, SqL.of (st3.stp.gh _ _ (m3 _ _ (m2 _ _ hp))), fun q hq => ?_⟩
  exact k q G3 _ (none_of st3 hq) (m1.trans (m2.trans m3)) (st3.freshO (w := oLst q R (cutA as l u)) hq rfl ⟨_, rfl, cut_all2 l u (r.mono (m2.trans m3))⟩)
theorem ew_sliceK {as : List α} {lo hi : Option Expr} {l u : Option Int} {p2 : Pos} (he : E X δ O e (sLstK R as) O1) (hl : PoE X δ O1 lo l O2) (hu : PoE X δ O2 hi u O3) : EW X δ O (.Subscript e (.Slice lo hi none p2) pos) (fun p => oLst p R (cutA as l u)) O3 := by
  obtain ⟨t1, g1, f1⟩ := hl
  obtain ⟨t2, g2, f2⟩ := hu
  intro B σ G H Q st k
  refine e_of (pe_slice sl_list pe_w g1 g2) ?_
  refine he B σ G H _ st fun x G1 H1 m1 st1 hx => f1 B σ G1 H1 _ st1 fun G2 H2 m2 st2 => f2 B σ G2 H2 _ st2 fun G3 H3 m3 st3 => ?_
  obtain ⟨p, vs, rfl, hp, r⟩ := hx
  refine ⟨p, vs, rfl, Same.seq st3.stp.gh (Same.seq m3 (Same.seq m2 hp)), fun q hq => ?_⟩
  exact k q G3 _ (none_of st3 hq) (m1.trans (m2.trans m3)) (st3.freshO (w := oLst q R (cutA as l u)) hq rfl ⟨_, rfl, cut_all2 l u (r.mono (m2.trans m3))⟩)
theorem ew_rev {as : List α} {k : Nat} {p1 p2 p3 : Pos} (he : E X δ O e (sLst R as) O1) : EW X δ O (.Subscript e (.Slice none none (some (.UnaryOp .USub (.Constant (.int 1) k p1) p2)) p3) pos) (fun p => oLst p R as.reverse) O1 := by
  intro B σ G H Q st q
  refine e_of (pe_revL pe_w) ?_
  refine he B σ G H _ st fun x G1 H1 m1 st1 hx => ?_
  obtain ⟨p, vs, rfl, hp, r⟩ := hx
  exact ⟨p, vs, rfl, SqL.of (st1.stp.gh _ _ hp), fun z hz => q z G1 _ (none_of st1 hz) m1 (st1.freshO (w := oLst z R as.reverse) hz rfl ⟨_, rfl, r.reverse⟩)⟩
end
end Gd

namespace Gd
open PySem L2
section
variable {X : Cx} {B B1 : Bs} {δ δ' : List (Option Slot)} {O O1 O2 O3 : List Own} {a b c e o : Expr} {es : List Expr} {x : Str} {p pos : Pos} {s s1 s2 s3 : Slot} {ss : List Slot} {α β : Type} {R : α → Slot} {S : β → Slot} {D : Ends} {rest sts : List Stmt} {u : Bool}

theorem allS_set {K : Fg} {G : Hp} {s : Slot} {v : V} (h : s.ok K G v) : ∀ {vs : List V} {ss : List Slot} {j : Nat}, AllS K G vs ss → AllS K G (vs.set j v) (ss.set j s)
  | _, _, _, .nil => .nil
  | _, _, 0, .cons _ t => .cons h t
  | _, _, j + 1, .cons q t => .cons q (allS_set h t)
/-! ### frames: what an expression does not own stands -/
theorem Sta.at {K : Fg} {σ : SS} {G H : Hp} (st : Sta K B δ (O1 ++ O) σ G H) : Sta K ⟨O1.map (·.p), G, H⟩ δ O1 σ G H := by
  have nd := st.nd
  rw [List.map_append] at nd
  exact ⟨Stp.refl st.stp.gh, st.env, st.len, fun w hw => st.own w (List.mem_append_left _ hw), fun w hw => .inl (List.mem_map.mpr ⟨w, hw, rfl⟩), (List.nodup_append.mp nd).1⟩
theorem Sta.back {K : Fg} {σ : SS} {G H G' H' : Hp} (st : Sta K B δ (O1 ++ O) σ G H) (t : Sta K ⟨O1.map (·.p), G, H⟩ δ O2 σ G' H') : Sta K B δ (O2 ++ O) σ G' H' := by
  have nd := st.nd
  rw [List.map_append] at nd
  refine ⟨st.stp.trans t.stp fun q hq => ?_, t.env, t.len, fun w hw => ?_, fun w hw => ?_, ?_⟩
  · obtain ⟨w, hw, e⟩ := List.mem_map.mp hq
    rw [← e]; exact st.new w (List.mem_append_left _ hw)
  · rcases List.mem_append.mp hw with hw | hw
    · exact t.own w hw
    · obtain ⟨o, h1, h2, h3⟩ := st.own w (List.mem_append_right _ hw)
      have hn : w.p ∉ O1.map (·.p) := fun z => (List.nodup_append.mp nd).2.2 _ z _ (List.mem_map.mpr ⟨w, hw, rfl⟩) rfl
      exact ⟨o, t.stp.fr _ _ h1 hn, t.stp.nf _ _ h1 h2, w.mono t.stp.ex h3⟩
  · rcases List.mem_append.mp hw with hw | hw
    · rcases t.new w hw with k | k
      · obtain ⟨v, hv, e⟩ := List.mem_map.mp k
        rw [← e]; exact st.new v (List.mem_append_left _ hv)
      · right
        cases e : B.H w.p with
        | none => rfl
        | some o =>
          obtain ⟨o', e'⟩ := st.stp.th _ _ e
          have k : H w.p = none := k
          rw [k] at e'; cases e'
    · exact st.new w (List.mem_append_right _ hw)
  · (rw [List.map_append, List.nodup_append])
    refine ⟨t.nd, (List.nodup_append.mp nd).2.1, fun q hq r hr hqr => ?_⟩
    subst hqr
    obtain ⟨w, hw, e⟩ := List.mem_map.mp hq
    obtain ⟨v, hv, e'⟩ := List.mem_map.mp hr
    obtain ⟨o, h1, _, _⟩ := st.own v (List.mem_append_right _ hv)
    rcases t.new w hw with k | k
    · refine (List.nodup_append.mp nd).2.2 _ k _ (List.mem_map.mpr ⟨v, hv, rfl⟩) ?_
      rw [e, e']
    · have k : H w.p = none := k
      rw [e, ← e', h1] at k; cases k
theorem e_frame (h : E X δ O1 e s O2) : E X δ (O1 ++ O) e s (O2 ++ O) := fun B σ G H Q st k =>
  h _ σ G H Q st.at fun v G' H' m st' hv => k v G' H' m (st.back st') hv
theorem ew_frame {φ : Addr → Own} (h : EW X δ O1 e φ O2) (hφ : ∀ p, (φ p).p = p) : EW X δ (O1 ++ O) e φ (O2 ++ O) := fun B σ G H Q st k =>
  h _ σ G H Q st.at fun p G' H' hb m st' => k p G' H' (by
    cases e : B.H p with
    | none => rfl
    | some o =>
      obtain ⟨o', e'⟩ := st.stp.th _ _ e
      have hb : H p = none := hb
      rw [hb] at e'; cases e') m (st.back (O2 := φ p :: O2) st')
theorem t_frame (h : T X δ O1 e u O2) : T X δ (O1 ++ O) e u (O2 ++ O) := fun B σ G H Q st k =>
  h _ σ G H Q st.at fun G' H' m st' => k G' H' m (st.back st')
/-- the owned objects in another order -/
theorem e_perm (h : E X δ O2 e s O3) (h1 : ∀ w ∈ O2, w ∈ O1) (nd : (O1.map (·.p)).Nodup → (O2.map (·.p)).Nodup) : E X δ O1 e s O3 := fun B σ G H Q st k =>
  h B σ G H Q (st.perm h1 (nd st.nd)) k
theorem e_rot {w : Own} (h : E X δ (O1 ++ [w]) e s O2) : E X δ (w :: O1) e s O2 := e_perm h (fun v hv => by simp at hv ⊢; exact hv.symm) fun nd => by
  (rw [List.map_cons, List.nodup_cons] at nd)
  (rw [List.map_append, List.nodup_append])
  refine ⟨nd.2, by simp, fun q hq r hr e => nd.1 ?_⟩
  simp at hr
  rw [← hr, ← e]; exact hq

/-! ### bases -/
structure BLe (B B1 : Bs) : Prop where
  a : B1.A = B.A
  h : B1.H = B.H
  g : Same B.G B1.G
  n : ∀ p o, B.H p = some o → B.G p = none → B1.G p = none
theorem BLe.refl (B : Bs) : BLe B B := ⟨rfl, rfl, Same.refl _, fun _ _ _ h => h⟩
theorem BLe.trans {B2 : Bs} (h : BLe B B1) (k : BLe B1 B2) : BLe B B2 := ⟨k.a.trans h.a, k.h.trans h.h, h.g.trans k.g, fun p o e n => k.n p o (by rw [h.h]; exact e) (h.n p o e n)⟩
theorem Stp.le {G H : Hp} (l : BLe B B1) (t : Stp B1 G H) : Stp B G H :=
  ⟨t.gh, l.g.trans t.ex, fun p o e n => t.fr p o (by rw [l.h]; exact e) (by rw [l.a]; exact n), fun p o e => t.th p o (by rw [l.h]; exact e), fun p o e n => t.nf p o (by rw [l.h]; exact e) (l.n p o e n)⟩
theorem Sta.le {K : Fg} {σ : SS} {G H : Hp} (l : BLe B B1) (t : Sta K B1 δ O σ G H) : Sta K B δ O σ G H :=
  ⟨t.stp.le l, t.env, t.len, t.own, fun w hw => by have := t.new w hw; rwa [l.a, l.h] at this, t.nd⟩
/-- the base moves up to the frozen heap as it stands -/
theorem Sta.up {K : Fg} {σ : SS} {G H : Hp} (t : Sta K B δ O σ G H) : BLe B ⟨B.A, G, B.H⟩ ∧ Sta K ⟨B.A, G, B.H⟩ δ O σ G H :=
  ⟨⟨rfl, rfl, t.stp.ex, fun p o e n => t.stp.nf p o e n⟩, ⟨⟨t.stp.gh, Same.refl _, t.stp.fr, t.stp.th, fun _ _ _ n => n⟩, t.env, t.len, t.own, t.new, t.nd⟩⟩

/-- slots forgotten -/
inductive WkD : List (Option Slot) → List (Option Slot) → Prop
  | nil : WkD [] []
  | same {s : Option Slot} {a b : List (Option Slot)} : WkD a b → WkD (s :: a) (s :: b)
  | skip {s : Option Slot} {a b : List (Option Slot)} : WkD a b → WkD (none :: a) (s :: b)
theorem WkD.length : ∀ {a b : List (Option Slot)}, WkD a b → a.length = b.length
  | _, _, .nil => rfl
  | _, _, .same h => by simp [h.length]
  | _, _, .skip h => by simp [h.length]
theorem WkD.get : ∀ {a b : List (Option Slot)} {i : Nat} {t : Slot}, WkD a b → a[i]? = some (some t) → b[i]? = some (some t)
  | _, _, _, _, .nil, h => by simp at h
  | _, _, 0, _, .same _, h => by simpa using h
  | _, _, 0, _, .skip _, h => by simp at h
  | _, _, i + 1, t, .same q, h => by simpa using q.get (i := i) (t := t) (by simpa using h)
  | _, _, i + 1, t, .skip q, h => by simpa using q.get (i := i) (t := t) (by simpa using h)
theorem Sta.wk {K : Fg} {σ : SS} {G H : Hp} (st : Sta K B δ O σ G H) (h : WkD δ' δ) : Sta K B δ' O σ G H := st.weak h.length fun i t hi => ⟨t, h.get hi, fun _ _ _ q => q⟩

/-! ### statements -/
/-- behind the statements st -/
def Ends.thenS (X : Cx) (rest : List Stmt) (D : Ends) : Ends := { D with nx := fun σ H => wSs X rest D σ H }
theorem j_cons {st : Stmt} (h : ∀ (σ : SS) (G H : Hp), Sta X.K B δ O σ G H → wS X st { D with nx := fun σ H => wSs X rest D σ H } σ H) : J X B δ O (st :: rest) D := fun σ G H q => ss_of (pss_cons ps_w pss_w) (h σ G H q)
theorem j_nil (h : ∀ (σ : SS) (G H : Hp), Sta X.K B δ O σ G H → D.nx σ H) : J X B δ O [] D := fun σ G H q => ss_of pss_nil (h σ G H q)
/-- at the end of a branch: on with what follows -/
theorem j_on {sts : List Stmt} (h : J X B δ O sts D) : J X B δ O [] { D with nx := fun σ H => wSs X sts D σ H } := j_nil fun σ G H q => h σ G H q
theorem j_pass (h : J X B δ O rest D) : J X B δ O (.Pass pos :: rest) D := j_cons fun σ G H q => s_of ps_pass (h σ G H q)
theorem j_set {px : Pos} (i : Nat) (h : E X δ O e s O1) (q : J X B (δ.set i (some s)) O1 rest D) (hN : X.N.Nodup) (hi : X.N[i]? = some x := by rfl)
    (hx : Loc X.env.scope x := by first | exact Or.inl rfl | exact Or.inr rfl) (hs : noCompr e = true := by rfl) (hf : X.fn x = true ∨ X.env.scope.names.lookup x = some .local := by first | exact .inl rfl | exact .inr rfl) : J X B δ O (.Assign [.Name x px] e pos :: rest) D :=
  j_cons fun σ G H st => s_of (ps_set hN hi hx pe_w (swaps_plain hs) hf) (h B σ G H _ st fun v G' H' m st' hv => q _ G' H' (st'.set hv))
/-- x = a new object -/
theorem j_setW {px : Pos} {φ : Addr → Own} (i : Nat) (h : EW X δ O e φ O1) (q : ∀ r, B.H r = none → J X B (δ.set i (some (sRef r))) (φ r :: O1) rest D) (hN : X.N.Nodup) (hi : X.N[i]? = some x := by rfl)
    (hx : Loc X.env.scope x := by first | exact Or.inl rfl | exact Or.inr rfl) (hs : noCompr e = true := by rfl) (hf : X.fn x = true ∨ X.env.scope.names.lookup x = some .local := by first | exact .inl rfl | exact .inr rfl) : J X B δ O (.Assign [.Name x px] e pos :: rest) D :=
  j_cons fun σ G H st => s_of (ps_set hN hi hx pe_w (swaps_plain hs) hf) (h B σ G H _ st fun r G' H' hb m st' => q r hb _ G' H' (st'.set rfl))
theorem j_aug {px : Pos} {n m : Int} (i : Nat) (hd : δ[i]? = some (some (sInt n))) (h : E X δ O e (sInt m) O1) (q : J X B (δ.set i (some (sInt (n + m)))) O1 rest D) (hN : X.N.Nodup) (hi : X.N[i]? = some x := by rfl)
    (hx : Loc X.env.scope x := by first | exact Or.inl rfl | exact Or.inr rfl) (hf : X.fn x = true ∨ X.env.scope.names.lookup x = some .local := by first | exact .inl rfl | exact .inr rfl) : J X B δ O (.AugAssign (.Name x px) .Add e pos :: rest) D :=
  j_cons fun σ G H st => s_of (ps_aug hN hi hx pe_w ip_add hf) (by
    obtain ⟨v, e1, hv⟩ := st.env i _ hd
    cases hv
    exact ⟨_, e1, h B σ G H _ st fun w G' H' mm st' hw => ⟨n, m, rfl, hw, q _ G' H' (st'.set rfl)⟩⟩)
theorem j_if {ys ns : List Stmt} (h : T X δ O c u O1) (hy : u = true → J X B δ O1 ys { D with nx := fun σ H => wSs X rest D σ H }) (hn : u = false → J X B δ O1 ns { D with nx := fun σ H => wSs X rest D σ H }) : J X B δ O (.If c ys ns pos :: rest) D :=
  j_cons fun σ G H st => s_of (ps_if pt_w pss_w pss_w) (h B σ G H _ st fun G' H' m st' => by
    cases u with
    | true => exact iteT (hy rfl _ G' H' st')
    | false => exact iteF (hn rfl _ G' H' st'))
theorem j_ret (h : E X δ O e s O1) (q : ∀ v σ G' H', Sta X.K B δ O1 σ G' H' → s.ok X.K G' v → D.rt v H') : J X B δ O (.Return (some e) pos :: rest) D :=
  j_cons fun σ G H st => s_of (ps_ret pe_w) (h B σ G H _ st fun v G' H' m st' hv => q v σ G' H' st' hv)
theorem j_expr (h : E X δ O e s O1) (q : J X B δ O1 rest D) (hs : noCompr e = true := by rfl) : J X B δ O (.Expr e pos :: rest) D :=
  j_cons fun σ G H st => s_of (ps_expr pe_w (swaps_plain hs)) (h B σ G H _ st fun v G' H' m st' hv => q _ G' H' st')
theorem j_break (q : ∀ (σ : SS) (G H : Hp), Sta X.K B δ O σ G H → D.bk σ H) : J X B δ O (.Break pos :: rest) D := j_cons fun σ G H st => s_of ps_break (q σ G H st)
theorem j_cont (q : ∀ (σ : SS) (G H : Hp), Sta X.K B δ O σ G H → D.ct σ H) : J X B δ O (.Continue pos :: rest) D := j_cons fun σ G H st => s_of ps_continue (q σ G H st)
/-- a fact of the state -/
theorem j_sta (h : (∃ (σ : SS) (G H : Hp), Sta X.K B δ O σ G H) → J X B δ O sts D) : J X B δ O sts D := fun σ G H q => h ⟨σ, G, H, q⟩ σ G H q
theorem j_weak (δ' : List (Option Slot)) (h : J X B δ' O sts D) (hl : δ'.length = δ.length := by rfl) (hw : ∀ (i : Nat) (t : Slot), δ'[i]? = some (some t) → ∃ u : Slot, δ[i]? = some (some u) ∧ ∀ K G v, u.ok K G v → t.ok K G v) : J X B δ O sts D :=
  fun σ G H q => h σ G H (q.weak hl hw)
theorem j_perm (O' : List Own) (h : J X B δ O' sts D) (h1 : ∀ w ∈ O', w ∈ O) (nd : (O.map (·.p)).Nodup → (O'.map (·.p)).Nodup) : J X B δ O sts D := fun σ G H q => h σ G H (q.perm h1 (nd q.nd))
/-- forget the first owned object -/
theorem j_drop {w : Own} (h : J X B δ O sts D) : J X B δ (w :: O) sts D := j_perm O h (fun v hv => List.mem_cons_of_mem _ hv) fun nd => by
  rw [List.map_cons] at nd
  exact (List.nodup_cons.mp nd).2
/-- the owned list in slot i, new since the entry, is frozen -/
theorem j_freeze (i : Nat) {w : Own} (hd : δ[i]? = some (some (sRef w.p))) (hb : B.H w.p = none) (hs : ∀ (K : Fg) (G : Hp) (o : HO), w.φ K G o → G w.p = none → s.ok K (upd G w.p o) (.ref w.p)) (h : J X B (δ.set i (some s)) O sts D) : J X B δ (w :: O) sts D := fun σ G H q => by
  obtain ⟨o, h1, h2, h3⟩ := q.freeze hb
  obtain ⟨v, e, hv⟩ := q.env i _ hd
  cases hv
  have gp : G w.p = none := by
    obtain ⟨_, _, g, _⟩ := q.own w List.mem_cons_self
    exact g
  have hi : i < σ.length := by
    rcases Nat.lt_or_ge i σ.length with z | z
    · exact z
    · rw [List.getElem?_eq_none z] at e; cases e
  have := h3.set (i := i) (hs _ _ _ h2 gp)
  have eq : σ.set i (some (V.ref w.p)) = σ := by
    (refine List.ext_getElem? fun j => ?_)
    by_cases hj : i = j
    · subst hj; rw [List.getElem?_set_self hi, e]
    · rw [List.getElem?_set_ne hj]
  rw [eq] at this
  exact h σ _ H this
theorem Sta.putI {K : Fg} {σ : SS} {G H : Hp} {w w' : Own} {ob : HO} {j : Nat} (s : Sta K B δ O σ G H) (hj : O[j]? = some w) (hw : w'.p = w.p) (hφ : w'.φ K G ob) : Sta K B δ (O.set j w') σ G (upd H w.p ob) := by
  have hjl : j < O.length := by
    rcases Nat.lt_or_ge j O.length with z | z
    · exact z
    · rw [List.getElem?_eq_none z] at hj; cases hj
  have hm : w ∈ O := List.mem_of_getElem? hj
  obtain ⟨o0, h1, h2, h3⟩ := s.own w hm
  have gne : ∀ q u, G q = some u → q ≠ w.p := fun q u e z => by rw [z, h2] at e; cases e
  have emap : (O.set j w').map (·.p) = O.map (·.p) := by
    refine List.ext_getElem? fun i => ?_
    (rw [List.getElem?_map, List.getElem?_map])
    by_cases hi : j = i
    · subst hi; rw [List.getElem?_set_self hjl, hj]; show some w'.p = some w.p; rw [hw]
    · rw [List.getElem?_set_ne hi]
  have mem : ∀ v ∈ O.set j w', v = w' ∨ (v ∈ O ∧ v.p ≠ w.p) := fun v hv => by
    obtain ⟨i, hi, e⟩ := List.getElem_of_mem hv
    have e' : (O.set j w')[i]? = some v := by rw [List.getElem?_eq_getElem hi, e]
    by_cases hij : j = i
    · subst hij; rw [List.getElem?_set_self hjl] at e'; exact .inl (Option.some.inj e').symm
    · rw [List.getElem?_set_ne hij] at e'
      refine .inr ⟨List.mem_of_getElem? e', fun z => hij ?_⟩
      have hil : i < O.length := by rw [List.length_set] at hi; exact hi
      have n1 : (O.map (·.p))[i]? = some v.p := by rw [List.getElem?_map, e']; rfl
      have n2 : (O.map (·.p))[j]? = some w.p := by rw [List.getElem?_map, hj]; rfl
      have := (List.getElem?_inj (l := O.map (·.p)) (i := j) (j := i) (by rw [List.length_map]; exact hjl) s.nd).mp (by rw [n1, n2, z])
      exact this
  refine ⟨⟨fun q u e => ?_, s.stp.ex, fun q u e ha => ?_, fun q u e => ?_, s.stp.nf⟩, s.env, s.len, fun v hv => ?_, fun v hv => ?_, by rw [emap]; exact s.nd⟩
  · rw [upd_ne (gne _ _ e)]; exact s.stp.gh _ _ e
  · have hq : q ≠ w.p := fun z => by
      rcases s.new w hm with k | k
      · exact ha (by rw [z]; exact k)
      · rw [z, k] at e; cases e
    rw [upd_ne hq]; exact s.stp.fr _ _ e ha
  · by_cases hq : q = w.p
    · exact ⟨ob, by rw [hq]; exact upd_same⟩
    · rw [upd_ne hq]; exact s.stp.th _ _ e
  · rcases mem v hv with rfl | ⟨hv, hq⟩
    · exact ⟨ob, by rw [hw]; exact upd_same, by rw [hw]; exact h2, hφ⟩
    · obtain ⟨u, g1, g2, g3⟩ := s.own v hv
      exact ⟨u, by rw [upd_ne hq]; exact g1, g2, g3⟩
  · rcases mem v hv with rfl | ⟨hv, hq⟩
    · rw [hw]; exact s.new w hm
    · exact s.new v hv
/-- xs.append(e), xs an owned list -/
theorem e_append {q : Addr} {as : List α} {y : α} {apos : Pos} (jw : Nat) (ho : E X δ O o (sRef q) O1) (he : E X δ O1 e (R y) O2) (hz : as.length < sizeLine) (hw1 : O1[jw]? = some (oLst q R as) := by rfl) (hw : O2[jw]? = some (oLst q R as) := by rfl)
    (hbase : noCall0 o = true := by rfl)
    (hfew : ((backTo pos (starEach (e :: []) X.env)).all (fun x => !x.1) && (backToKw pos (keywordEach [] X.env)).all (fun x => x.1.isSome)
      && decide ((e :: []).length + ([] : List Keyword).length + (if ([] : List Keyword).isEmpty then 0 else 1) < 30)) = true := by rfl)
    (hline : (apos.endLine == pos.line) = true := by rfl) (hs : noStar e = true := by rfl) (hplain : (backTo pos (starEach [] X.env)).any (·.1) = false := by rfl) :
    E X δ O (.Call (.Attribute o "append" apos) [e] [] pos) sNon (O2.set jw (oLst q R (as ++ [y]))) := by
  intro B σ G H Q st k
  refine e_of (pe_bm PySem.F.plainAttrs_list PySem.F.slot_list_append PySem.F.type_list_append mt_append pe_w (pa_cons pe_w pa_nil (starEach_plain hs)) (attributeBase_plain hbase) hfew hline (starEach_plain hs) hplain) ?_
  refine ho B σ G H _ st fun v G1 H1 m1 st1 hv => ?_
  cases hv
  obtain ⟨o1, hq1, _, vs1, rfl, _⟩ := st1.own _ (List.mem_of_getElem? hw1)
  refine ⟨.inl ⟨rfl, _, SqL.of hq1⟩, ?_⟩
  refine he B σ G1 H1 _ st1 fun w G2 H2 m2 st2 hw2 => ?_
  obtain ⟨o2, hq2, _, vs2, rfl, r2⟩ := st2.own _ (List.mem_of_getElem? hw)
  refine ⟨q, vs2, w, rfl, rfl, hq2, by rw [r2.length]; exact hz, ?_⟩
  exact k _ G2 _ (m1.trans m2) (st2.putI (w' := oLst q R (as ++ [y])) hw rfl ⟨_, rfl, r2.append (.cons hw2 .nil)⟩) rfl
/-- xs[i] = e, xs an owned list, place by place -/
theorem j_setIx {q : Addr} {i : Int} {tp : Pos} (jw j : Nat) (he : E X δ O e s O1) (ho : E X δ O1 o (sRef q) O2) (hb : E X δ O2 b (sInt i) O3) 
    (k : J X B δ (O3.set jw (oLstS q (ss.set j s))) rest D) (hw : O3[jw]? = some (oLstS q ss) := by rfl) (hi : ixN ss.length i = some j := by rfl) (hs : noCompr e = true := by rfl) (hsw : swappedStores [.Subscript o b tp] e X.env = pure none := by rfl)
    (hpl : ∀ v, assign (.Subscript o b tp) X.env v = (do
      let ov ← holding [v] (eval o X.env) -- -
      let iv ← holding [v, ov] (eval b X.env)
      standAt tp
      holding [v, ov, iv] (setItem ov iv v) -- -
      release [v, ov, iv] []) := by intro _; rfl) : J X B δ O (.Assign [.Subscript o b tp] e pos :: rest) D :=
  j_cons fun σ G H st => s_of (ps_asg pe_w (pg_sub pe_w pe_w set_list hpl) (sole_plain hs) hsw) (by
    refine he B σ G H _ st fun v G1 H1 m1 st1 hv => ?_
    refine ho B σ G1 H1 _ st1 fun w G2 H2 m2 st2 hw2 => ?_
    refine hb B σ G2 H2 _ st2 fun z G3 H3 m3 st3 hz => ?_
    cases hw2
    cases hz
    obtain ⟨o3, hq3, _, vs3, rfl, r3⟩ := st3.own _ (List.mem_of_getElem? hw)
    refine ⟨q, vs3, i, j, rfl, rfl, hq3, by rw [r3.length]; exact hi, ?_⟩
    exact k σ G3 _ (st3.putI (w' := oLstS q (ss.set j s)) hw rfl ⟨_, rfl, allS_set (s.mono (m2.trans m3) hv) r3⟩))
/-- what is stored in an instance's attributes -/
def tabPut (f : Str) (s : Slot) : List (Str × Slot) → List (Str × Slot)
  | [] => [(f, s)]
  | (g, t) :: r => if g = f then (g, s) :: r else (g, t) :: tabPut f s r
theorem insOk_put {C : Addr} {tab : List (Str × Slot)} {K : Fg} {G : Hp} {dx : Addr} {fs : List (Str × V)} {f : Str} {y : V} (hn : (tab.map (·.1)).contains f = false) (h : insOk C tab K G (.ins C dx fs)) (hy : s.ok K G y) : insOk C (tab ++ [(f, s)]) K G (.ins C dx (putF f y fs)) := by
  obtain ⟨dx', fs', e, hl, h1, h2⟩ := h
  cases e
  have hn' : f ∉ tab.map (·.1) := by simpa using hn
  refine ⟨dx, _, rfl, Nat.le_trans (length_putF f y fs) (by rw [List.length_append]; exact Nat.succ_le_succ hl), fun g t hg => ?_, fun g hg => ?_⟩
  · rw [lookup_putF]
    rcases List.mem_append.mp hg with hg | hg
    · have : g ≠ f := fun z => hn' (by rw [← z]; exact List.mem_map.mpr ⟨_, hg, rfl⟩)
      rw [if_neg this]
      exact h1 g t hg
    · simp at hg
      obtain ⟨rfl, rfl⟩ := hg
      exact ⟨y, by rw [if_pos rfl], hy⟩
  · rw [List.map_append] at hg
    simp at hg
    rw [lookup_putF, if_neg (fun z => hg.2 z)]
    exact h2 g (by simpa using hg.1)
theorem insOk_over {C : Addr} {tab : List (Str × Slot)} {K : Fg} {G : Hp} {dx : Addr} {fs : List (Str × V)} {f : Str} {y : V} (j : Nat) {t0 : Slot} (hj : tab[j]? = some (f, t0)) (nd : (tab.map (·.1)).Nodup) (h : insOk C tab K G (.ins C dx fs)) (hlen : (putF f y fs).length ≤ tab.length) (hy : s.ok K G y) :
    insOk C (tab.set j (f, s)) K G (.ins C dx (putF f y fs)) := by
  obtain ⟨dx', fs', e, hl, h1, h2⟩ := h
  cases e
  have hjl : j < tab.length := by
    rcases Nat.lt_or_ge j tab.length with z | z
    · exact z
    · rw [List.getElem?_eq_none z] at hj; cases hj
  refine ⟨dx, _, rfl, by rw [List.length_set]; exact hlen, fun g t hg => ?_, fun g hg => ?_⟩
  · rw [lookup_putF]
    obtain ⟨i, hi, e⟩ := List.getElem_of_mem hg
    have e' : (tab.set j (f, s))[i]? = some (g, t) := by rw [List.getElem?_eq_getElem hi, e]
    by_cases hij : j = i
    · subst hij
      rw [List.getElem?_set_self hjl] at e'
      cases e'
      exact ⟨y, by rw [if_pos rfl], hy⟩
    · rw [List.getElem?_set_ne hij] at e'
      have : g ≠ f := fun z => hij ((List.getElem?_inj (l := tab.map (·.1)) (i := j) (j := i) (by rw [List.length_map]; exact hjl) nd).mp (by rw [List.getElem?_map, List.getElem?_map, e', hj, z]; rfl))
      rw [if_neg this]
      exact h1 g t (List.mem_of_getElem? e')
  · have hg' : g ∉ tab.map (·.1) := fun z => hg (by
      have : (tab.set j (f, s)).map (·.1) = tab.map (·.1) := by
        refine List.ext_getElem? fun i => ?_
        (rw [List.getElem?_map, List.getElem?_map])
        by_cases hij : j = i
        · subst hij; rw [List.getElem?_set_self hjl, hj]; rfl
        · rw [List.getElem?_set_ne hij]
      rw [this]; exact z)
    have : g ≠ f := fun z => hg' (by rw [z]; exact List.mem_map.mpr ⟨_, List.mem_of_getElem? hj, rfl⟩)
    rw [lookup_putF, if_neg this]
    exact h2 g hg'
theorem j_fld {q C : Addr} {tab : List (Str × Slot)} {f : Str} {tp : Pos} (jw : Nat) (hv : E X δ O e s O1) (ho : E X δ O1 o (sRef q) O2) (c : Cls X.K C) (n : NoAttr X.K C f) (k : J X B δ (O2.set jw (oIns q C (tab ++ [(f, s)]))) rest D) (hw : O2[jw]? = some (oIns q C tab) := by rfl)
    (hn : (tab.map (·.1)).contains f = false := by (try simp only [List.map_cons, List.map_nil]); decide +kernel) (hl : tab.length < 1000 := by (try simp only [List.length_cons, List.length_nil]); decide) (hs : noCompr e = true := by rfl) : J X B δ O (.Assign [.Attribute o f tp] e pos :: rest) D :=
  j_cons fun σ G H st => s_of (ps_fld pe_w pe_w (swaps_plain hs)) (by
    refine hv B σ G H _ st fun v G1 H1 m1 st1 hv1 => ?_
    refine ho B σ G1 H1 _ st1 fun w G2 H2 m2 st2 hw2 => ?_
    cases hw2
    obtain ⟨o2, hq2, _, dx, fs, rfl, hle, h1, h2⟩ := st2.own _ (List.mem_of_getElem? hw)
    refine ⟨q, C, dx, fs, rfl, hq2, c, n, Nat.lt_of_le_of_lt hle hl, ?_⟩
    exact k σ G2 _ (st2.putI (w' := oIns q C (tab ++ [(f, s)])) hw rfl (insOk_put hn ⟨dx, fs, rfl, hle, h1, h2⟩ (s.mono m2 hv1))))
end
end Gd

namespace Gd
open PySem L2
section
variable {X : Cx} {B B1 : Bs} {δ δ' : List (Option Slot)} {O O1 O2 O3 : List Own} {a b c e o : Expr} {es : List Expr} {x : Str} {p pos : Pos} {s s1 s2 s3 : Slot} {ss : List Slot} {α β : Type} {R : α → Slot} {S : β → Slot} {D : Ends} {rest sts : List Stmt} {u : Bool}

/-! ### what is walked -/
/-- an iterator gives the items as, of which R tells, while the frozen heap is G1 or more -/
def Wk (K : Fg) (G1 : Hp) (J : It) (R : α → Slot) (as : List α) : Prop :=
  ∀ (B : Bs) (δ : List (Option Slot)) (O : List Own) (σ : SS) (G H : Hp) (i : Nat), Same G1 G → Sta K B δ O σ G H →
    (∀ y, as[i]? = some y → J.go i H ∧ ∀ v H', J.yld i H v H' → ∃ G', Same G G' ∧ Sta K B δ O σ G' H' ∧ (R y).ok K G' v) ∧ (as.length ≤ i → J.stop i H)
def IT (X : Cx) (δ : List (Option Slot)) (O : List Own) (tg e : Expr) (R : α → Slot) (as : List α) (O' : List Own) : Prop :=
  ∃ wi, PI X tg e wi ∧ ∀ (B : Bs) (σ : SS) (G H : Hp) (Q : It → Hp → Prop), Sta X.K B δ O σ G H → (∀ J G' H', Same G G' → Sta X.K B δ O' σ G' H' → Wk X.K G' J R as → Q J H') → wi σ H Q
theorem it_lst {tg : Expr} {as : List α} (h : E X δ O e (sLst R as) O1) : IT X δ O tg e R as O1 :=
  ⟨_, pi_list pe_w, fun B σ G H Q st k => h B σ G H _ st fun v G1 H1 m1 st1 hv => by
    obtain ⟨p, vs, rfl, hp, r⟩ := hv
    refine ⟨p, rfl, ⟨vs, SqL.of (st1.stp.gh _ _ hp)⟩, k _ G1 H1 m1 st1 fun B' δ' O' σ' G' H' i e st' => ⟨fun y hy => ?_, fun hi => ?_⟩⟩
    · obtain ⟨w, hw, hr⟩ := r.get hy
      have hq : SqL X.K H' p vs := SqL.of (st'.stp.gh _ _ (e _ _ hp))
      refine ⟨⟨vs, w, hq, hw⟩, fun v H'' hy' => ?_⟩
      obtain ⟨rfl, hy'⟩ := hy'
      have := hy' vs hq
      rw [hw] at this
      cases this
      exact ⟨G', Same.refl _, st', (R y).mono e hr⟩
    · exact ⟨vs, SqL.of (st'.stp.gh _ _ (e _ _ hp)), by rw [r.length]; exact hi⟩⟩
theorem it_lstK {tg : Expr} {as : List α} (h : E X δ O e (sLstK R as) O1) : IT X δ O tg e R as O1 :=
  ⟨_, pi_list pe_w, fun B σ G H Q st k => h B σ G H _ st fun v G1 H1 m1 st1 hv => by
    obtain ⟨p, vs, rfl, hp, r⟩ := hv
    refine ⟨p, rfl, ⟨vs, Same.seq st1.stp.gh hp⟩, k _ G1 H1 m1 st1 fun B' δ' O' σ' G' H' i e st' => ⟨fun y hy => ?_, fun hi => ?_⟩⟩
    · obtain ⟨w, hw, hr⟩ := r.get hy
      have hq : SqL X.K H' p vs := Same.seq st'.stp.gh (Same.seq e hp)
      refine ⟨⟨vs, w, hq, hw⟩, fun v H'' hy' => ?_⟩
      obtain ⟨rfl, hy'⟩ := hy'
      have := hy' vs hq
      rw [hw] at this
      cases this
      exact ⟨G', Same.refl _, st', (R y).mono e hr⟩
    · exact ⟨vs, Same.seq st'.stp.gh (Same.seq e hp), by rw [r.length]; exact hi⟩⟩
theorem it_tupl {tg : Expr} {as : List α} (h : E X δ O e (sTupl R as) O1) : IT X δ O tg e R as O1 :=
  ⟨_, pi_tup pe_w, fun B σ G H Q st k => h B σ G H _ st fun v G1 H1 m1 st1 hv => by
    obtain ⟨p, vs, rfl, hp, r⟩ := hv
    refine ⟨p, rfl, ⟨vs, sqT_up st1.stp.gh hp⟩, k _ G1 H1 m1 st1 fun B' δ' O' σ' G' H' i e st' => ⟨fun y hy => ?_, fun hi => ?_⟩⟩
    · obtain ⟨w, hw, hr⟩ := r.get hy
      have hq : SqT X.K H' p vs := sqT_up st'.stp.gh (sqT_mono e hp)
      refine ⟨⟨vs, w, hq, hw⟩, fun v H'' hy' => ?_⟩
      obtain ⟨rfl, hy'⟩ := hy'
      have := hy' vs hq
      rw [hw] at this
      cases this
      exact ⟨G', Same.refl _, st', (R y).mono e hr⟩
    · exact ⟨vs, sqT_up st'.stp.gh (sqT_mono e hp), by rw [r.length]; exact hi⟩⟩
/-- range(n): the turns 0, 1, .. -/
theorem it_range {tg : Expr} {n : Int} (hm : X.mg "range" = none) (h : E X δ O e (sInt n) O1) (h1 : -(2 ^ 62) ≤ n) (h2 : n < 2 ^ 62) (hg : Gl X "range" := by rfl) (hs : noStar e = true := by rfl) :
    IT X δ O tg (.Call (.Name "range" p) [e] [] pos) (fun k : Nat => sInt k) (List.range n.toNat) O1 :=
  ⟨_, pi_range1 hg hm (pa_cons pe_w pa_nil (starEach_plain hs)) (starEach_plain hs), fun B σ G H Q st k => h B σ G H _ st fun v G1 H1 m1 st1 hv => by
    cases hv
    refine ⟨n, rfl, h1, h2, k _ G1 H1 m1 st1 fun B' δ' O' σ' G' H' i e st' => ⟨fun y hy => ?_, fun hi => ?_⟩⟩
    · have hlt : i < n.toNat := by
        rcases Nat.lt_or_ge i n.toNat with z | z
        · exact z
        · rw [List.getElem?_eq_none (by rw [List.length_range]; exact z)] at hy; cases hy
      have ey : y = i := by rw [List.getElem?_range hlt] at hy; exact (Option.some.inj hy).symm
      refine ⟨hlt, fun v H'' hy' => ?_⟩
      obtain ⟨rfl, rfl⟩ := hy'
      exact ⟨G', Same.refl _, st', by rw [ey]; show V.int (0 + _) = V.int _; rw [Int.zero_add]⟩
    · rw [List.length_range] at hi; exact hi⟩
/-- a text, sign by sign -/
theorem it_str {tg : Expr} {t : Str} (h : E X δ O e (sStr t) O1) : IT X δ O tg e (fun n : Nat => sStr ⟨#[n]⟩) t.cps.toList O1 :=
  ⟨_, pi_str pe_w, fun B σ G H Q st k => h B σ G H _ st fun v G1 H1 m1 st1 hv => by
    cases hv
    refine ⟨t, rfl, k _ G1 H1 m1 st1 fun B' δ' O' σ' G' H' i e st' => ⟨fun y hy => ?_, fun hi => ?_⟩⟩
    · have hy0 : t.cps[i]? = some y := by rw [← hy, Array.getElem?_toList]
      have hlt : i < t.cps.size := by
        rcases Nat.lt_or_ge i t.cps.size with z | z
        · exact z
        · rw [Array.getElem?_eq_none z] at hy0; cases hy0
      refine ⟨hlt, fun v H'' hy' => ?_⟩
      obtain ⟨rfl, cc, hcc, rfl⟩ := hy'
      rw [hy0] at hcc
      cases hcc
      exact ⟨G', Same.refl _, st', rfl⟩
    · rw [Array.length_toList] at hi; exact hi⟩

/-! ### targets -/
/-- several slots set -/
def setV (σ : SS) : List (Nat × V) → SS
  | [] => σ
  | q :: r => setV (σ.set q.1 (some q.2)) r
def setD (δ : List (Option Slot)) : List (Nat × Slot) → List (Option Slot)
  | [] => δ
  | q :: r => setD (δ.set q.1 (some q.2)) r
/-- a target takes values of which R tells: the slots of ts are set -/
def TGu (X : Cx) (tg : Expr) {α : Type} (R : α → Slot) (ts : α → List (Nat × Slot)) : Prop :=
  ∃ g, PG X tg g ∧ ∀ (B : Bs) (δ : List (Option Slot)) (O : List Own) (σ : SS) (G H : Hp) (y : α) (v : V) (Q : SS → Hp → Prop), Sta X.K B δ O σ G H → (R y).ok X.K G v → (∀ σ', Sta X.K B (setD δ (ts y)) O σ' G H → Q σ' H) → g v σ H Q
theorem tg_name (i : Nat) (hN : X.N.Nodup) (hi : X.N[i]? = some x := by rfl) (hx : Loc X.env.scope x := by first | exact Or.inl rfl | exact Or.inr rfl) (hf : X.fn x = true ∨ X.env.scope.names.lookup x = some .local := by first | exact .inl rfl | exact .inr rfl) : TGu X (.Name x p) R (fun y => [(i, R y)]) :=
  ⟨_, pg_name hN hi hx hf, fun B δ O σ G H y v Q st hv k => k _ (st.set hv)⟩
theorem tg_tup2 (i j : Nat) {x1 x2 : Str} {p1 p2 p3 : Pos} {kk : Nat} {r1 r2 : α → Slot} (hN : X.N.Nodup) (hi : X.N[i]? = some x1 := by rfl) (hj : X.N[j]? = some x2 := by rfl) (hx1 : Loc X.env.scope x1 := by first | exact Or.inl rfl | exact Or.inr rfl) (hx2 : Loc X.env.scope x2 := by first | exact Or.inl rfl | exact Or.inr rfl)
    (hf1 : X.fn x1 = true ∨ X.env.scope.names.lookup x1 = some .local := by first | exact .inl rfl | exact .inr rfl) (hf2 : X.fn x2 = true ∨ X.env.scope.names.lookup x2 = some .local := by first | exact .inl rfl | exact .inr rfl) (hc : X.calm = true := by rfl) :
    TGu X (.Tuple [.Name x1 p1, .Name x2 p2] kk p3) (fun y => sTup [r1 y, r2 y]) (fun y => [(i, r1 y), (j, r2 y)]) :=
  ⟨_, pg_tup hc (pgs_cons (pg_name hN hi hx1 hf1) (pgs_cons (pg_name hN hj hx2 hf2) pgs_nil)), fun B δ O σ G H y v Q st hv k => by
    obtain ⟨p, vs, rfl, hp, h⟩ := hv
    obtain ⟨v1, v2, rfl, e1, e2⟩ := alls2 h
    exact ⟨p, _, rfl, sqT_up st.stp.gh hp, rfl, v1, [v2], rfl, v2, [], rfl, rfl, k _ ((st.set e1).set e2)⟩⟩

/-! ### for -/
/-- between the turns -/
def Mid (X : Cx) (B : Bs) {γ : Type} (P : γ → Prop) (Δ : γ → List (Option Slot)) (Ω : γ → List Own) : SS → Hp → Prop := fun σ H => ∃ g G, P g ∧ Sta X.K B (Δ g) (Ω g) σ G H
theorem j_for {γ : Type} {as : List α} {iter tg : Expr} {body : List Stmt} (P : Nat → γ → Prop) (Δ : γ → List (Option Slot)) (Ω : γ → List Own) (ts : α → List (Nat × Slot)) (hi : IT X δ O tg iter R as O1) (ht : TGu X tg R ts)
    (h0 : ∃ g, P 0 g ∧ ∀ (B : Bs) (σ : SS) (G H : Hp), Sta X.K B δ O1 σ G H → Sta X.K B (Δ g) (Ω g) σ G H)
    (hs : ∀ (B1 : Bs) k y g, BLe B B1 → as[k]? = some y → P k g → J X B1 (setD (Δ g) (ts y)) (Ω g) body { D with nx := Mid X B1 (P (k + 1)) Δ Ω, ct := Mid X B1 (P (k + 1)) Δ Ω, bk := fun σ H => wSs X rest D σ H })
    (hd : ∀ g, P as.length g → J X B (Δ g) (Ω g) rest D) (hp : PassesOwn (model X.prog X.w) X.A X.env X.xe := by exact PassesOwn.never) (hc : X.calm = true := by rfl) (hf : noSet iter = true := by rfl) :
    J X B δ O (.For tg iter body [] pos :: rest) D := by
  obtain ⟨wi, h1, h2⟩ := hi
  obtain ⟨gt, g1, g2⟩ := ht
  refine j_cons fun σ G H st => s_of (ps_for hp hc h1 g1 pss_w (folded_plain hf)) (h2 B σ G H _ st fun Jt G1 H1 m1 st1 wk => ?_)
  obtain ⟨g0, p0, w0⟩ := h0
  refine ⟨fun i m σ H => m = as.length - i ∧ i ≤ as.length ∧ ∃ g G, P i g ∧ Same G1 G ∧ Sta X.K B (Δ g) (Ω g) σ G H, ⟨_, rfl, Nat.zero_le _, g0, G1, p0, Same.refl _, w0 _ _ _ _ st1⟩, ?_⟩
  rintro i m σ2 H2 ⟨rfl, hi, g, G2, pg, e2, st2⟩
  obtain ⟨w1, w2⟩ := wk B _ _ σ2 G2 H2 i e2 st2
  by_cases hlt : i < as.length
  · obtain ⟨hgo, hy⟩ := w1 as[i] (List.getElem?_eq_getElem hlt)
    refine .inr ⟨hgo, Mid X ⟨B.A, G2, B.H⟩ (P (i + 1)) Δ Ω, ?_, fun v H3 y3 => ?_⟩
    · rintro σ' H' ⟨g', G', pg', st'⟩
      exact ⟨as.length - (i + 1), by omega, rfl, hlt, g', G', pg', e2.trans st'.stp.ex, st'.le st2.up.1⟩
    · obtain ⟨G3, e3, st3, r3⟩ := hy v H3 y3
      have up := st2.up.1
      have st3' : Sta X.K ⟨B.A, G2, B.H⟩ (Δ g) (Ω g) σ2 G3 H3 := ⟨⟨st3.stp.gh, e3, st3.stp.fr, st3.stp.th, fun q u e n => by
        refine st3.stp.nf q u e ?_
        cases z : B.G q with
        | none => rfl
        | some o =>
          have n' : G2 q = none := n
          have z' := st2.stp.ex _ _ z
          rw [n'] at z'
          cases z'⟩, st3.env, st3.len, st3.own, st3.new, st3.nd⟩
      exact g2 ⟨B.A, G2, B.H⟩ (Δ g) (Ω g) σ2 G3 H3 as[i] v _ st3' r3 fun σ4 st4 => hs _ i as[i] g up (List.getElem?_eq_getElem hlt) pg σ4 G3 H3 st4
  · have e : i = as.length := by omega
    subst e
    exact .inl ⟨w2 (Nat.le_refl _), hd g pg σ2 G2 H2 st2⟩
/-- while: by a word and a measure over the ghosts -/
theorem j_while {γ : Type} {body : List Stmt} (P : γ → Prop) (μ : γ → Nat) (b : γ → Bool) (Δ : γ → List (Option Slot)) (Ω : γ → List Own)
    (h0 : ∃ g, P g ∧ ∀ (B : Bs) (σ : SS) (G H : Hp), Sta X.K B δ O σ G H → Sta X.K B (Δ g) (Ω g) σ G H) (hc : ∀ g, P g → T X (Δ g) (Ω g) c (b g) (Ω g))
    (hs : ∀ g, P g → b g = true → J X B (Δ g) (Ω g) body { D with nx := Mid X B (fun g' => P g' ∧ μ g' < μ g) Δ Ω, ct := Mid X B (fun g' => P g' ∧ μ g' < μ g) Δ Ω, bk := fun σ H => wSs X rest D σ H })
    (hd : ∀ g, P g → b g = false → J X B (Δ g) (Ω g) rest D) (hp : PassesOwn (model X.prog X.w) X.A X.env X.xe := by exact PassesOwn.never) : J X B δ O (.While c body [] pos :: rest) D := by
  refine j_cons fun σ G H st => s_of (ps_while hp pt_w pss_w) ?_
  obtain ⟨g0, p0, w0⟩ := h0
  refine ⟨fun m σ H => ∃ g G, m = μ g ∧ P g ∧ Sta X.K B (Δ g) (Ω g) σ G H, ⟨_, g0, G, rfl, p0, w0 _ _ _ _ st⟩, ?_⟩
  rintro m σ2 H2 ⟨g, G2, rfl, pg, st2⟩
  refine hc g pg B σ2 G2 H2 _ st2 fun G3 H3 m3 st3 => ?_
  cases hb : b g with
  | true => exact ⟨Mid X B (fun g' => P g' ∧ μ g' < μ g) Δ Ω, fun σ' H' ⟨g', G', ⟨p', l'⟩, st'⟩ => ⟨_, l', g', G', rfl, p', st'⟩, hs g pg hb σ2 G3 H3 st3⟩
  | false => exact hd g pg hb σ2 G3 H3 st3

/-! ### comprehensions -/
def wipeD (δ : List (Option Slot)) : List Nat → List (Option Slot)
  | [] => δ
  | v :: vs => (wipeD δ vs).set v none
theorem Sta.unset {K : Fg} {σ : SS} {G H : Hp} {i : Nat} (st : Sta K B δ O σ G H) : Sta K B (δ.set i none) O (σ.set i none) G H := by
  refine ⟨st.stp, fun j t e => ?_, by rw [List.length_set, List.length_set]; exact st.len, st.own, st.new, st.nd⟩
  by_cases hj : i = j
  · subst hj
    by_cases hi : i < δ.length
    · rw [List.getElem?_set_self hi] at e; cases e
    · rw [List.getElem?_eq_none (by rw [List.length_set]; omega)] at e; cases e
  · rw [List.getElem?_set_ne hj] at e
    obtain ⟨u, a, b⟩ := st.env j t e
    exact ⟨u, by rw [List.getElem?_set_ne hj]; exact a, b⟩
theorem Sta.wiped {K : Fg} {σ : SS} {G H : Hp} (st : Sta K B δ O σ G H) : ∀ vs : List Nat, Sta K B (wipeD δ vs) O (wipe σ vs) G H
  | [] => st
  | v :: vs => (st.wiped vs).unset
theorem wipe_set {σ : SS} {i : Nat} {v : Option V} : ∀ {vs : List Nat}, i ∈ vs → wipe (σ.set i v) vs = wipe σ vs
  | [], h => by cases h
  | w :: vs, h => by
    show (wipe (σ.set i v) vs).set w none = (wipe σ vs).set w none
    by_cases hw : i ∈ vs
    · rw [wipe_set hw]
    · have hiw : i = w := by
        (rcases List.mem_cons.mp h with z | z)
        · exact z
        · exact absurd z hw
      subst hiw
      have aux : ∀ (σ : SS) (us : List Nat), i ∉ us → wipe (σ.set i v) us = (wipe σ us).set i v := by
        intro σ us
        induction us with
        | nil => intro _; rfl
        | cons q us ih =>
          intro hq
          show (wipe (σ.set i v) us).set q none = ((wipe σ us).set q none).set i v
          rw [ih (fun z => hq (List.mem_cons_of_mem _ z)), List.set_comm _ _ (fun z => hq (by rw [z]; exact List.mem_cons_self))]
      rw [aux σ vs hw, List.set_set]
theorem wipe_wipe {σ : SS} : ∀ (vs us : List Nat), (∀ v ∈ us, v ∈ vs) → wipe (wipe σ us) vs = wipe σ vs
  | vs, [], _ => rfl
  | vs, u :: us, h => by
    show wipe ((wipe σ us).set u none) vs = _
    rw [wipe_set (h u List.mem_cons_self), wipe_wipe vs us fun v hv => h v (List.mem_cons_of_mem _ hv)]
/-- the context of a comprehension's block -/
abbrev Blk (X : Cx) (scope : Scope) (s : Shared) (H : Hp) (C : Addr) (cl : List (Str × Addr)) (fp : List Addr) : Cx := X.blk s H scope (compEnvC scope cl C X.env) fp
/-- the tests of a clause -/
def TSs (X : Cx) (δ : List (Option Slot)) (O : List Own) (ifs : List Expr) (b : Bool) (O' : List Own) : Prop :=
  (ifs = [] ∧ b = true ∧ O' = O) ∨ ∃ c, ifs = [c] ∧ T X δ O c b O'
theorem ts_nil : TSs X δ O [] true O := .inl ⟨rfl, rfl, rfl⟩
theorem ts_one (h : T X δ O c u O1) : TSs X δ O [c] u O1 := .inr ⟨c, rfl, h⟩
/-- [elt for x in iter if ..], one name: turn k makes vals k where keeps k says so; acc: what is made so far -/
theorem lc_reading {elt iter : Expr} {ifs : List Expr} {scope : Scope} {own : List (Str × Nat)} {as : List α} (i : Nat) {px : Pos} (Ωs Ωm : Nat → List Own) (keeps : Nat → Bool) (acc : Nat → List β) {wi : TI} {σ : SS} {G H : Hp} {Q : VK}
    (hin : i ∈ own.map (·.2)) (st : Sta X.K B δ O σ G H)
    (h2 : ∀ (B : Bs) (σ : SS) (G H : Hp) (Q : It → Hp → Prop), Sta X.K B δ O σ G H → (∀ J G' H', Same G G' → Sta X.K B δ (Ωs 0) σ G' H' → Wk X.K G' J R as → Q J H') → wi σ H Q)
    (hts : ∀ k y, as[k]? = some y → ∀ s H C cl fp, TSs (Blk X scope s H C cl fp) ((wipeD δ (own.map (·.2))).set i (some (R y))) (Ωs k) ifs (keeps k) (Ωm k))
    (helt : ∀ k y, as[k]? = some y → keeps k = true → ∃ z, acc (k + 1) = acc k ++ [z] ∧ ∀ s H C cl fp, E (Blk X scope s H C cl fp) ((wipeD δ (own.map (·.2))).set i (some (R y))) (Ωm k) elt (S z) (Ωs (k + 1)))
    (hskip : ∀ k, k < as.length → keeps k = false → Ωm k = Ωs (k + 1) ∧ acc (k + 1) = acc k) (ha0 : acc 0 = []) (hz : as.length ≤ sizeLine)
    (k : ∀ p G' H', B.H p = none → Same G G' → Sta X.K B δ (oLst p S (acc as.length) :: Ωs as.length) σ G' H' → Q (.ref p) H') :
    tLc wi (gName i) (fun σ H Q => ∀ s H0 C cl fp, match ifs with | [] => Q true H | c :: _ => wT (Blk X scope s H0 C cl fp) c σ H Q) (fun σ H Q => ∀ s H0 C cl fp, wE (Blk X scope s H0 C cl fp) elt σ H Q) (own.map (·.2)) σ H Q := by
  refine h2 B σ G H _ st fun Jt G1 H1 m1 st1 wk => ?_
  intro Da hDa
  have hacc : ∀ k, k ≤ as.length → (acc k).length ≤ k := by
    intro k
    induction k with
    | zero => intro _; rw [ha0]; exact Nat.le_refl _
    | succ k ih =>
      intro hk
      have := ih (Nat.le_of_lt hk)
      cases hkk : keeps k with
      | true =>
        obtain ⟨z, e, _⟩ := helt k _ (List.getElem?_eq_getElem hk) hkk
        rw [e, List.length_append]; simp; omega
      | false => rw [(hskip k hk hkk).2]; omega
  refine ⟨fun n m H' => m = as.length - n ∧ n ≤ as.length ∧ ∃ G', Same G1 G' ∧ Sta X.K B δ (oLst Da S (acc n) :: Ωs n) σ G' H', ⟨_, rfl, Nat.zero_le _, G1, Same.refl _, ?_⟩, ?_⟩
  · rw [ha0]
    exact st1.freshO (w := oLst Da S []) hDa rfl ⟨[], rfl, .nil⟩
  · rintro n m H2 ⟨rfl, hn, G2, e2, st2⟩
    obtain ⟨w1, w2⟩ := wk B _ _ σ G2 H2 n e2 st2
    by_cases hlt : n < as.length
    · have hget := List.getElem?_eq_getElem hlt
      obtain ⟨hgo, hy⟩ := w1 as[n] hget
      refine .inr ⟨hgo, fun H' => ∃ G', Same G1 G' ∧ Sta X.K B δ (oLst Da S (acc (n + 1)) :: Ωs (n + 1)) σ G' H', fun H' ⟨G', e', st'⟩ => ⟨as.length - (n + 1), by omega, rfl, hlt, G', e', st'⟩, fun v H3 y3 => ?_⟩
      obtain ⟨G3, e3, st3, r3⟩ := hy v H3 y3
      have st4 := (st3.wiped (own.map (·.2))).set (i := i) r3
      have wp : wipe ((wipe σ (own.map (·.2))).set i (some v)) (own.map (·.2)) = wipe σ (own.map (·.2)) := by rw [wipe_set hin, wipe_wipe _ _ fun _ h => h]
      have back : ∀ {O' : List Own} {G' H' : Hp}, Sta X.K B ((wipeD δ (own.map (·.2))).set i (some (R as[n]))) O' ((wipe σ (own.map (·.2))).set i (some v)) G' H' → Same G3 G' → Sta X.K B δ O' σ G' H' := fun {O' G' H'} q e => ⟨q.stp, st3.env.mono e, st3.len, q.own, q.new, q.nd⟩
      have rot : ∀ {O' : List Own} {δ' : List (Option Slot)} {σ' : SS} {G' H' : Hp} {w : Own}, Sta X.K B δ' (w :: O') σ' G' H' → Sta X.K B δ' (O' ++ [w]) σ' G' H' := fun {O' δ' σ' G' H' w} q => q.perm (fun v hv => by simp at hv ⊢; exact hv.symm) (by
        have nd := q.nd
        (rw [List.map_cons, List.nodup_cons] at nd)
        (rw [List.map_append, List.nodup_append])
        refine ⟨nd.2, by simp, fun q hq r hr e => nd.1 ?_⟩
        simp at hr
        rw [← hr, ← e]; exact hq)
      have unrot : ∀ {O' : List Own} {δ' : List (Option Slot)} {σ' : SS} {G' H' : Hp} {w : Own}, Sta X.K B δ' (O' ++ [w]) σ' G' H' → Sta X.K B δ' (w :: O') σ' G' H' := fun {O' δ' σ' G' H' w} q => q.perm (fun v hv => by simp at hv ⊢; exact hv.symm) (by
        have nd := q.nd
        rw [List.map_append, List.nodup_append] at nd
        (rw [List.map_cons, List.nodup_cons])
        exact ⟨fun hm => nd.2.2 _ hm _ (by simp) rfl, nd.1⟩)
      refine ⟨wp, ?_⟩
      -- behind the tests
      have elt_ : keeps n = true → ∀ G5 H5, Same G3 G5 → Sta X.K B ((wipeD δ (own.map (·.2))).set i (some (R as[n]))) (Ωm n ++ [oLst Da S (acc n)]) ((wipe σ (own.map (·.2))).set i (some v)) G5 H5 →
          ∀ s H0 C cl fp, wE (Blk X scope s H0 C cl fp) elt ((wipe σ (own.map (·.2))).set i (some v)) H5 fun y H6 => ∃ ac, H6 Da = some (.lst ac) ∧ ac.length < sizeLine ∧ ∃ G', Same G1 G' ∧ Sta X.K B δ (oLst Da S (acc (n + 1)) :: Ωs (n + 1)) σ G' (upd H6 Da (.lst (ac ++ [y]))) := by
        intro hk G5 H5 e5 st5 s H0 C cl fp
        obtain ⟨zz, ez, helt'⟩ := helt n _ hget hk
        refine e_frame (O := [oLst Da S (acc n)]) (helt' s H0 C cl fp) B _ G5 H5 _ st5 fun y G6 H6 m6 st6 hy6 => ?_
        have st6' := unrot st6
        obtain ⟨o6, h6, _, ac, rfl, r6⟩ := st6'.own _ List.mem_cons_self
        refine ⟨ac, h6, ?_, G6, fun q z w => m6 _ _ (e5 _ _ (e3 _ _ (e2 _ _ w))), ?_⟩
        · rw [r6.length]; exact Nat.lt_of_lt_of_le (Nat.lt_of_le_of_lt (hacc n (Nat.le_of_lt hlt)) hlt) hz
        · rw [ez]
          have st7 := st6'.put (w' := oLst Da S (acc n ++ [zz])) rfl ⟨_, rfl, r6.append (.cons hy6 .nil)⟩
          exact back st7 (e5.trans m6)
      have skip_ : keeps n = false → ∀ G5 H5, Same G3 G5 → Sta X.K B ((wipeD δ (own.map (·.2))).set i (some (R as[n]))) (Ωm n ++ [oLst Da S (acc n)]) ((wipe σ (own.map (·.2))).set i (some v)) G5 H5 →
          ∃ G', Same G1 G' ∧ Sta X.K B δ (oLst Da S (acc (n + 1)) :: Ωs (n + 1)) σ G' H5 := by
        intro hk G5 H5 e5 st5
        refine ⟨G5, fun q z w => e5 _ _ (e3 _ _ (e2 _ _ w)), ?_⟩
        rw [(hskip n hlt hk).2, ← (hskip n hlt hk).1]
        exact back (unrot st5) e5
      intro s H0 C cl fp
      have hh := hts n _ hget
      cases ifs with
      | nil =>
        have hk : keeps n = true ∧ Ωm n = Ωs n := by
          rcases hh s H0 C cl fp with ⟨_, a, b⟩ | ⟨c, e, _⟩
          · exact ⟨a, b⟩
          · cases e
        refine iteT fun s' H0' C' cl' fp' => elt_ hk.1 G3 H3 (Same.refl _) ?_ s' H0' C' cl' fp'
        rw [hk.2]
        exact rot st4
      | cons c r =>
        rcases hh s H0 C cl fp with ⟨e, _⟩ | ⟨c', e, ht⟩
        · cases e
        · cases e
          refine t_frame (O := [oLst Da S (acc n)]) ht B _ G3 H3 _ (rot st4) fun G5 H5 m5 st5 => ?_
          cases hk : keeps n with
          | true => exact iteT fun s' H0' C' cl' fp' => elt_ hk G5 H5 m5 st5 s' H0' C' cl' fp'
          | false => exact iteF (skip_ hk G5 H5 m5 st5)
    · have e : n = as.length := by omega
      subst e
      exact .inl ⟨w2 (Nat.le_refl _), k Da G2 H2 (none_of st1 hDa) (m1.trans e2) st2⟩
end
end Gd

namespace Gd
open PySem L2
section
variable {X : Cx} {B B1 : Bs} {δ δ' : List (Option Slot)} {O O1 O2 O3 : List Own} {a b c e o : Expr} {es : List Expr} {x : Str} {p pos : Pos} {s s1 s2 s3 : Slot} {ss : List Slot} {α β : Type} {R : α → Slot} {S : β → Slot} {D : Ends} {rest sts : List Stmt} {u : Bool}
variable {elt iter : Expr} {ifs : List Expr} {scope : Scope} {own : List (Str × Nat)} {as : List α} {px : Pos}
theorem pts_w (hifs : ifs = [] ∨ ∃ c, ifs = [c]) (s0 : Shared) (H0 : Hp) (C : Addr) (cl : List (Str × Addr)) (fp : List Addr) :
    PTs (Blk X scope s0 H0 C cl fp) ifs (fun σ H Q => ∀ s H0 C cl fp, match ifs with | [] => Q true H | c :: _ => wT (Blk X scope s H0 C cl fp) c σ H Q) := by
  rcases hifs with rfl | ⟨c, rfl⟩
  · exact ⟨fun pins s σ H Q I h => pts_nil.run pins s σ H Q I (h s H 0 [] [])⟩
  · exact ⟨fun pins s σ H Q I h => (pts_one pt_w).run pins s σ H Q I (h s0 H0 C cl fp)⟩
theorem ew_comp (i : Nat) (Ωs Ωm : Nat → List Own) (keeps : Nat → Bool) (acc : Nat → List β) (hN : X.N.Nodup)
    (hi : IT X δ O (.Name x px) iter R as (Ωs 0)) (ok : BlkOk X.N X.env.scope scope own)
    (hts : ∀ k y, as[k]? = some y → ∀ s H C cl fp, TSs (Blk X scope s H C cl fp) ((wipeD δ (own.map (·.2))).set i (some (R y))) (Ωs k) ifs (keeps k) (Ωm k))
    (helt : ∀ k y, as[k]? = some y → keeps k = true → ∃ z, acc (k + 1) = acc k ++ [z] ∧ ∀ s H C cl fp, E (Blk X scope s H C cl fp) ((wipeD δ (own.map (·.2))).set i (some (R y))) (Ωm k) elt (S z) (Ωs (k + 1)))
    (hskip : ∀ k, k < as.length → keeps k = false → Ωm k = Ωs (k + 1) ∧ acc (k + 1) = acc k) (ha0 : acc 0 = []) (hz : as.length ≤ sizeLine)
    (hin : i ∈ own.map (·.2) := by decide) (hix : X.N[i]? = some x := by rfl) (hx : ∀ s H C cl fp, Loc (Blk X scope s H C cl fp).env.scope x := by intro _ _ _ _ _; first | exact Or.inl rfl | exact Or.inr rfl)
    (hf : ∀ s H C cl fp, (Blk X scope s H C cl fp).fn x = true ∨ (Blk X scope s H C cl fp).env.scope.names.lookup x = some .local := by intro _ _ _ _ _; first | exact .inl rfl | exact .inr rfl)
    (hifs : ifs = [] ∨ ∃ c, ifs = [c] := by first | exact .inl rfl | exact .inr ⟨_, rfl⟩) (hc : X.calm = true := by rfl) (hs : noSet iter = true := by rfl) :
    EW X δ O (.ListComp elt [⟨.Name x px, iter, ifs, 0⟩] scope pos) (fun p => oLst p S (acc as.length)) (Ωs as.length) := by
  obtain ⟨wi, h1, h2⟩ := hi
  intro B σ G H Q st k
  refine e_of (pe_lc (te := fun σ H Q => ∀ s H0 C cl fp, wE (Blk X scope s H0 C cl fp) elt σ H Q) hc hN h1 ok (fun s H C cl fp => pg_name hN hix (hx s H C cl fp) (hf s H C cl fp)) (fun s H C cl fp => pts_w hifs s H C cl fp)
    (fun s H C cl fp => ⟨fun pins s' σ H' Q I h => (h s H C cl fp).run pins s' I⟩) (folded_plain hs)) ?_
  exact lc_reading (iter := iter) i (px := px) Ωs Ωm keeps acc hin st h2 hts helt hskip ha0 hz k
/-- x = [..] -/
theorem j_setComp (iy i : Nat) {y : Str} {py spos : Pos} (Ωs Ωm : Nat → List Own) (keeps : Nat → Bool) (acc : Nat → List β) (hN : X.N.Nodup)
    (hi : IT X δ O (.Name x px) iter R as (Ωs 0)) (ok : BlkOk X.N X.env.scope scope own)
    (hts : ∀ k y, as[k]? = some y → ∀ s H C cl fp, TSs (Blk X scope s H C cl fp) ((wipeD δ (own.map (·.2))).set i (some (R y))) (Ωs k) ifs (keeps k) (Ωm k))
    (helt : ∀ k y, as[k]? = some y → keeps k = true → ∃ z, acc (k + 1) = acc k ++ [z] ∧ ∀ s H C cl fp, E (Blk X scope s H C cl fp) ((wipeD δ (own.map (·.2))).set i (some (R y))) (Ωm k) elt (S z) (Ωs (k + 1)))
    (hskip : ∀ k, k < as.length → keeps k = false → Ωm k = Ωs (k + 1) ∧ acc (k + 1) = acc k) (ha0 : acc 0 = []) (hz : as.length ≤ sizeLine)
    (q : ∀ r, B.H r = none → J X B (δ.set iy (some (sRef r))) (oLst r S (acc as.length) :: Ωs as.length) rest D)
    (hyN : X.N[iy]? = some y := by rfl) (hyl : X.env.scope.names.lookup y = some .local := by rfl) (hsw : swapsWith (.ListComp elt [⟨.Name x px, iter, ifs, 0⟩] scope pos) (some (.Name y py)) spos.line X.env = pure true := by exact sw_true rfl rfl rfl (by decide +kernel))
    (hin : i ∈ own.map (·.2) := by decide) (hix : X.N[i]? = some x := by rfl) (hx : ∀ s H C cl fp, Loc (Blk X scope s H C cl fp).env.scope x := by intro _ _ _ _ _; first | exact Or.inl rfl | exact Or.inr rfl)
    (hf : ∀ s H C cl fp, (Blk X scope s H C cl fp).fn x = true ∨ (Blk X scope s H C cl fp).env.scope.names.lookup x = some .local := by intro _ _ _ _ _; first | exact .inl rfl | exact .inr rfl)
    (hifs : ifs = [] ∨ ∃ c, ifs = [c] := by first | exact .inl rfl | exact .inr ⟨_, rfl⟩) (hc : X.calm = true := by rfl) (hs : noSet iter = true := by rfl) :
    J X B δ O (.Assign [.Name y py] (.ListComp elt [⟨.Name x px, iter, ifs, 0⟩] scope pos) spos :: rest) D := by
  obtain ⟨wi, h1, h2⟩ := hi
  refine j_cons fun σ G H st => s_of (ps_setLc (te := fun σ H Q => ∀ s H0 C cl fp, wE (Blk X scope s H0 C cl fp) elt σ H Q) hc hN hyN hyl hsw h1 ok (fun s H C cl fp => pg_name hN hix (hx s H C cl fp) (hf s H C cl fp)) (fun s H C cl fp => pts_w hifs s H C cl fp)
    (fun s H C cl fp => ⟨fun pins s' σ H' Q I h => (h s H C cl fp).run pins s' I⟩) (folded_plain hs)) ?_
  show tLc _ _ _ _ _ σ H (fun v H1 => wSs X rest D (σ.set iy (some v)) H1)
  exact lc_reading (iter := iter) i (px := px) Ωs Ωm keeps acc hin st h2 hts helt hskip ha0 hz fun r G' H' hb m st' => q r hb _ G' H' (st'.set rfl)

/-! ### the simple forms -/
theorem take_succ {k : Nat} {y : α} (h : as[k]? = some y) : as.take (k + 1) = as.take k ++ [y] := by
  have hk : k < as.length := by
    rcases Nat.lt_or_ge k as.length with z | z
    · exact z
    · rw [List.getElem?_eq_none z] at h; cases h
  rw [List.take_succ, h]
  rfl
/-- [elt for x in iter], nothing owned changes -/
theorem ew_map (i : Nat) (f : α → β) (hN : X.N.Nodup) (hi : IT X δ O (.Name x px) iter R as O1) (ok : BlkOk X.N X.env.scope scope own)
    (helt : ∀ y, y ∈ as → ∀ s H C cl fp, E (Blk X scope s H C cl fp) ((wipeD δ (own.map (·.2))).set i (some (R y))) O1 elt (S (f y)) O1) (hz : as.length ≤ sizeLine)
    (hin : i ∈ own.map (·.2) := by decide) (hix : X.N[i]? = some x := by rfl) (hx : ∀ s H C cl fp, Loc (Blk X scope s H C cl fp).env.scope x := by intro _ _ _ _ _; first | exact Or.inl rfl | exact Or.inr rfl)
    (hf : ∀ s H C cl fp, (Blk X scope s H C cl fp).fn x = true ∨ (Blk X scope s H C cl fp).env.scope.names.lookup x = some .local := by intro _ _ _ _ _; first | exact .inl rfl | exact .inr rfl)
    (hc : X.calm = true := by rfl) (hs : noSet iter = true := by rfl) :
    EW X δ O (.ListComp elt [⟨.Name x px, iter, [], 0⟩] scope pos) (fun p => oLst p S (as.map f)) O1 := by
  have h := ew_comp (pos := pos) (S := S) i (fun _ => O1) (fun _ => O1) (fun _ => true) (fun k => (as.take k).map f) hN hi ok (fun k y hy s H C cl fp => ts_nil)
    (fun k y hy _ => ⟨f y, by show (as.take (k + 1)).map f = _; rw [take_succ hy, List.map_append]; rfl, fun s H C cl fp => helt y (List.mem_of_getElem? hy) s H C cl fp⟩) (fun k _ h => by cases h) rfl hz hin hix hx hf (.inl rfl) hc hs
  simpa only [List.take_length] using h
/-- [elt for x in iter if test] -/
theorem ew_filter (i : Nat) (t : α → Bool) (f : α → β) (hN : X.N.Nodup) (hi : IT X δ O (.Name x px) iter R as O1) (ok : BlkOk X.N X.env.scope scope own)
    (htst : ∀ y, y ∈ as → ∀ s H C cl fp, T (Blk X scope s H C cl fp) ((wipeD δ (own.map (·.2))).set i (some (R y))) O1 c (t y) O1)
    (helt : ∀ y, y ∈ as → t y = true → ∀ s H C cl fp, E (Blk X scope s H C cl fp) ((wipeD δ (own.map (·.2))).set i (some (R y))) O1 elt (S (f y)) O1) (hz : as.length ≤ sizeLine)
    (hin : i ∈ own.map (·.2) := by decide) (hix : X.N[i]? = some x := by rfl) (hx : ∀ s H C cl fp, Loc (Blk X scope s H C cl fp).env.scope x := by intro _ _ _ _ _; first | exact Or.inl rfl | exact Or.inr rfl)
    (hf : ∀ s H C cl fp, (Blk X scope s H C cl fp).fn x = true ∨ (Blk X scope s H C cl fp).env.scope.names.lookup x = some .local := by intro _ _ _ _ _; first | exact .inl rfl | exact .inr rfl)
    (hc : X.calm = true := by rfl) (hs : noSet iter = true := by rfl) :
    EW X δ O (.ListComp elt [⟨.Name x px, iter, [c], 0⟩] scope pos) (fun p => oLst p S ((as.filter t).map f)) O1 := by
  have h := ew_comp (pos := pos) (S := S) i (fun _ => O1) (fun _ => O1) (fun k => (as[k]?.map t).getD false) (fun k => ((as.take k).filter t).map f) hN hi ok
    (fun k y hy s H C cl fp => ts_one (by rw [hy]; exact htst y (List.mem_of_getElem? hy) s H C cl fp))
    (fun k y hy ht => by
      rw [hy] at ht
      have ht : t y = true := ht
      refine ⟨f y, ?_, fun s H C cl fp => helt y (List.mem_of_getElem? hy) ht s H C cl fp⟩
      show ((as.take (k + 1)).filter t).map f = _
      rw [take_succ hy, List.filter_append, List.map_append, List.filter_cons_of_pos ht]
      rfl)
    (fun k hk ht => by
      have hy := List.getElem?_eq_getElem hk
      rw [hy] at ht
      have ht : t as[k] = false := ht
      refine ⟨rfl, ?_⟩
      show ((as.take (k + 1)).filter t).map f = _
      rw [take_succ hy, List.filter_append, List.filter_cons_of_neg (by rw [ht]; exact Bool.false_ne_true), List.filter_nil, List.append_nil]) rfl hz hin hix hx hf (.inr ⟨_, rfl⟩) hc hs
  simpa only [List.take_length] using h
/-- [elt for x in iter], turn k leads from Ωs k to Ωs (k + 1) and makes f k -/
theorem ew_mapO (i : Nat) (Ωs : Nat → List Own) (f : Nat → β) (hN : X.N.Nodup) (hi : IT X δ O (.Name x px) iter R as (Ωs 0)) (ok : BlkOk X.N X.env.scope scope own)
    (helt : ∀ k y, as[k]? = some y → ∀ s H C cl fp, E (Blk X scope s H C cl fp) ((wipeD δ (own.map (·.2))).set i (some (R y))) (Ωs k) elt (S (f k)) (Ωs (k + 1))) (hz : as.length ≤ sizeLine)
    (hin : i ∈ own.map (·.2) := by decide) (hix : X.N[i]? = some x := by rfl) (hx : ∀ s H C cl fp, Loc (Blk X scope s H C cl fp).env.scope x := by intro _ _ _ _ _; first | exact Or.inl rfl | exact Or.inr rfl)
    (hf : ∀ s H C cl fp, (Blk X scope s H C cl fp).fn x = true ∨ (Blk X scope s H C cl fp).env.scope.names.lookup x = some .local := by intro _ _ _ _ _; first | exact .inl rfl | exact .inr rfl)
    (hc : X.calm = true := by rfl) (hs : noSet iter = true := by rfl) :
    EW X δ O (.ListComp elt [⟨.Name x px, iter, [], 0⟩] scope pos) (fun p => oLst p S ((List.range as.length).map f)) (Ωs as.length) :=
  ew_comp (pos := pos) (S := S) i Ωs Ωs (fun _ => true) (fun k => (List.range k).map f) hN hi ok (fun k y hy s H C cl fp => ts_nil)
    (fun k y hy _ => ⟨f k, by show (List.range (k + 1)).map f = _; rw [List.range_succ, List.map_append]; rfl, fun s H C cl fp => helt k y hy s H C cl fp⟩) (fun k _ h => by cases h) rfl hz hin hix hx hf (.inl rfl) hc hs

/-! ### a def -/
theorem env_start {K : Fg} {G : Hp} : ∀ {vs : List V} {ss : List Slot} (N : List Str), AllS K G vs ss → EnvOk K G (L2.start N vs) (ss.map some ++ List.replicate (N.length - ss.length) none) := by
  intro vs ss N h i s hs
  have hl := h.length
  unfold L2.start
  by_cases hi : i < ss.length
  · rw [List.getElem?_append_left (by rw [List.length_map]; exact hi), List.getElem?_map] at hs
    cases e : ss[i]? with
    | none => rw [e] at hs; cases hs
    | some t =>
      rw [e] at hs
      cases hs
      obtain ⟨v, h1, h2⟩ := allS_get h e
      refine ⟨v, ?_, h2⟩
      rw [List.getElem?_append_left (by rw [List.length_map, hl]; exact hi), List.getElem?_map, h1]
      rfl
  · rw [List.getElem?_append_right (by rw [List.length_map]; omega), List.getElem?_replicate] at hs
    split at hs <;> cases hs
abbrev cxD (P : Program) (w : World) (K : Fg) (mg : Str → Option Value) (base : Heap) (N : List Str) (qual : Str) (st : Stmt) (f : Addr) (cdv : Value) (A : Around) (outer : List Env) (s : Shared) (H : Hp) (EE : XK) : Cx := (cxOf CX0 P w K mg base N qual (defScope st) f cdv A outer s H EE).nox
/-- what a def's body is to reach at its returns -/
def Fin (K : Fg) (B : Bs) {ι : Type} (S : FS ι) (i : ι) (D : Ends) : Prop := ∀ v G' H', Stp B G' H' → (∀ w ∈ S.own' i, ∃ o, H' w.p = some o ∧ G' w.p = none ∧ w.φ K G' o) → (S.res i).ok K G' v → D.rt v H'
theorem Fin.le {K : Fg} {ι : Type} {S : FS ι} {i : ι} (h : Fin K B S i D) (l : BLe B B1) : Fin K B1 S i D := fun v G' H' t ow hv => h v G' H' (t.le l) ow hv
/-- THE RULE for a def: its body, from its arguments' slots, to its promise -/
theorem fn_ok {P : Program} {w : World} {K : Fg} {mg : Str → Option Value} {base : Heap} {x qual : Str} {st : Stmt} {f : Addr} {fd : FuncData} {N ps : List Str} {k : Nat} {ι : Type} {S : FS ι} {dvs : List V} {ds : List Value} (F : Fun K x qual st f fd) (sc : FnScope N ps (defScope st))
    (hb : Binds K fd ps ds) (hd : Vals dvs ds) (hl : ∀ i, (S.args i).length = ps.length)
    (h : ∀ (i : ι) (cdv : Value) (A : Around) (outer : List Env) (s : Shared) (G H : Hp) (D : Ends) (EE : XK), Room k (cxD P w K mg base N qual st f cdv A outer s H EE).A → S.pre i → Fin K ⟨(S.own i).map (·.p), G, H⟩ S i D → (∀ σ H', D.nx σ H' = D.rt .non H') →
      J (cxD P w K mg base N qual st f cdv A outer s H EE) ⟨(S.own i).map (·.p), G, H⟩ ((S.args i).map some ++ List.replicate (N.length - (S.args i).length) none) (S.own i) (defBody st) D) :
    DefOk P w K mg base (k + 1) f dvs S := by
  refine ⟨⟨fd, ps, ds, F.ok sc (fun vs H Q EE hsp => ?_) (fun cdv A outer s H vs Q EE hr hsp => ?_), hb, hd⟩, F.kp⟩
  · obtain ⟨i, G, _, _, ha, _⟩ := hsp
    rw [ha.length, hl]
  · obtain ⟨i, G, hp, hgh, ha, how, hnd, hq⟩ := hsp
    refine ⟨_, pss_w, ?_⟩
    have hN : ps.length ≤ N.length := by have := congrArg List.length sc.pre; rw [List.length_take] at this; omega
    refine h i cdv A outer s G H { nx := fun _ H' => Q .non H', rt := Q } EE hr hp (fun v G' H' t ow hv => hq v G' H' t ow hv) (fun _ _ => rfl) _ G H ⟨Stp.refl hgh, env_start N ha, ?_, how, fun w hw => .inl (List.mem_map.mpr ⟨w, hw, rfl⟩), hnd⟩
    unfold L2.start
    rw [List.length_append, List.length_append, List.length_map, List.length_map, List.length_replicate, List.length_replicate, ha.length]
/-- THE RULE for a def with defaults: dv those that a call leaves out -/
theorem fn_okD {P : Program} {w : World} {K : Fg} {mg : Str → Option Value} {base : Heap} {x qual : Str} {st : Stmt} {f : Addr} {fd : FuncData} {N ps : List Str} {k : Nat} {ι : Type} {S : FS ι} {dvs dv : List V} {kws : List (Str × V)} (F : FunD K x qual (defArgs st) (defBody st) (defScope st) dvs kws f fd) (sc : FnScope N ps (defScope st))
    (hb : ∃ ds, Vals dv ds ∧ Binds K fd ps ds) (hl : ∀ i, (S.args i).length = ps.length)
    (h : ∀ (i : ι) (cdv : Value) (A : Around) (outer : List Env) (s : Shared) (G H : Hp) (D : Ends) (EE : XK), Room k (cxD P w K mg base N qual st f cdv A outer s H EE).A → S.pre i → Fin K ⟨(S.own i).map (·.p), G, H⟩ S i D → (∀ σ H', D.nx σ H' = D.rt .non H') →
      J (cxD P w K mg base N qual st f cdv A outer s H EE) ⟨(S.own i).map (·.p), G, H⟩ ((S.args i).map some ++ List.replicate (N.length - (S.args i).length) none) (S.own i) (defBody st) D) :
    DefOk P w K mg base (k + 1) f dv S := by
  obtain ⟨ds, hd, hb⟩ := hb
  refine ⟨⟨fd, ps, ds, F.ok sc (fun vs H Q EE hsp => ?_) (fun cdv A outer s H vs Q EE hr hsp => ?_), hb, hd⟩, F.kp⟩
  · obtain ⟨i, G, _, _, ha, _⟩ := hsp
    rw [ha.length, hl]
  · obtain ⟨i, G, hp, hgh, ha, how, hnd, hq⟩ := hsp
    refine ⟨wSs (cxD P w K mg base N qual st f cdv A outer s H EE) (defBody st), PSs.nox pss_w, ?_⟩
    have hN : ps.length ≤ N.length := by have := congrArg List.length sc.pre; rw [List.length_take] at this; omega
    refine h i cdv A outer s G H { nx := fun _ H' => Q .non H', rt := Q } EE hr hp (fun v G' H' t ow hv => hq v G' H' t ow hv) (fun _ _ => rfl) _ G H ⟨Stp.refl hgh, env_start N ha, ?_, how, fun w hw => .inl (List.mem_map.mpr ⟨w, hw, rfl⟩), hnd⟩
    unfold L2.start
    rw [List.length_append, List.length_append, List.length_map, List.length_map, List.length_replicate, List.length_replicate, ha.length]
/-- at a return -/
theorem fin_ret {ι : Type} {S : FS ι} {i : ι} {K : Fg} {O' : List Own} (hf : Fin K B S i D) (ho : ∀ w ∈ S.own' i, w ∈ O') (hs : ∀ G v, s.ok K G v → (S.res i).ok K G v) : ∀ v σ G' H', Sta K B δ O' σ G' H' → s.ok K G' v → D.rt v H' :=
  fun v σ G' H' st hv => hf v G' H' st.stp (fun w hw => st.own w (ho w hw)) (hs _ _ hv)
/-- at the body's end -/
theorem fin_end {ι : Type} {S : FS ι} {i : ι} (hf : Fin X.K B S i D) (hn : ∀ σ H', D.nx σ H' = D.rt .non H') (ho : ∀ w ∈ S.own' i, w ∈ O) (hs : S.res i = sNon := by rfl) : J X B δ O [] D :=
  j_nil fun σ G H st => by
    rw [hn]
    exact hf .non G H st.stp (fun w hw => st.own w (ho w hw)) (by rw [hs]; rfl)
end
end Gd

/-! What an own class's __len__, __bool__, __eq__ (== and !=), __add__ (beside an int), __call__ do -/
namespace Gd
open PySem L2
section
variable {X : Cx} {B : Bs} {δ : List (Option Slot)} {O O1 O2 : List Own} {s s1 s2 s3 : Slot} {ss : List Slot} {ι : Type} {S : FS ι} {k : Nat} {f C : Addr} {tab tab2 : List (Str × Slot)} {pins : List (Addr × Obj)} {σ : SS} {G H : Hp} {sh : Shared} {u v : Bool} {n : Int}
/-- a def's promise, as a raw one -/
theorem DefOk.raw {P : Program} {w : World} {K : Fg} {mg : Str → Option Value} {base : Heap} (F : DefOk P w K mg base k f [] S) : FnR P w K mg base CX0 k f (S.sp K) := by
  obtain ⟨⟨fd, ps, ds, F, hb, hd⟩, hk⟩ := F
  exact (F.raw hb hd).imp fun vs H Q E h => by rwa [List.append_nil]
theorem inst_at {a C dx : Addr} {fs : List (Str × V)} (I : Inv X pins σ H sh) (e : H a = some (.ins C dx fs)) : ∃ od, PySem.W.InstAt sh.heap a (PySem.W.instObj C dx) C (some od) := by
  obtain ⟨mA, J, _⟩ := ins_get I.hok e
  obtain ⟨od, J, _⟩ := J.look
  exact ⟨od, J⟩
/-- a method, run below -/
theorem run_in {A : Around} {Q : VK} {us : List Value} {ws : List V} {sp : Sp} (F : FnR X.prog X.w X.K X.mg X.base CX0 k f sp) (hr : Room k A) (hA : A.frames = X.A.frames) (I : Inv X pins σ H sh) (r : Vals ws us) (h : sp ws H Q E0) :
    wpAny (model X.prog X.w) A (call (.ref f) us) (EP X pins σ Q) X.xe sh := by
  have e := I.env0
  have e0 : Env0 X.prog X.w X.K X.mg X.base A X.stack sh H := ⟨by rw [hA]; exact e.frames, e.mod, e.bs, e.bsz, e.funs, e.frf, e.hok, e.bare⟩
  exact wpAny_call (SlX.run_at (us := us) (ws := ws) F hr e0 pass0 I r h)
theorem sIns_at {K : Fg} {v : V} (h : (sIns C tab).ok K G v) (e : Same G H) : ∃ p dx fs, v = .ref p ∧ H p = some (.ins C dx fs) := by
  obtain ⟨p, o, rfl, hp, dx, fs, rfl, _⟩ := h
  exact ⟨p, dx, fs, rfl, e _ _ hp⟩
/-- a pure promise at a state -/
theorem fs_pure {K : Fg} {Q : VK} {vs : List V} {EE : XK} (j : ι) (hp : S.pre j) (st : Sta K B δ O σ G H) (ha : AllS K G vs (S.args j)) (h1 : S.own j = []) (h2 : S.own' j = [])
    (kk : ∀ v G' H', Same G G' → Sta K B δ O σ G' H' → (S.res j).ok K G' v → Q v H') : S.sp K vs H Q EE :=
  fs_use (O2 := O) j hp (by rw [h1]; exact st) ha (by rw [h1, h2]) fun v G' H' m st' hv => kk v G' H' m (by rw [h2] at st'; exact st') hv

theorem c_lenO (j : ι) (hs : PySem.W.findIn X.K (.ref C) "__len__" = some (some (.ref f))) (hf : PySem.W.isFn X.K (.ref f) = true) (F : DefX X k f [] S) (hr : Room (k + 1) X.A) (hp : S.pre j) (hn : 0 ≤ n ∧ n < 2 ^ 63) (hargs : S.args j = [sIns C tab] := by rfl) (hres : S.res j = sInt n := by rfl)
    (h1 : S.own j = [] := by rfl) (h2 : S.own' j = [] := by rfl) : CallE X (.builtin "len") [sIns C tab] (sInt n) := by
  refine ⟨fun xs H Q => ∃ a dx fs, xs = [.ref a] ∧ H a = some (.ins C dx fs) ∧ S.sp X.K [.ref a] H (fun z H' => z = .int n ∧ Q (.int n) H') E0, ?_, ?_⟩
  · intro pins s σ H xs us Q I r h
    (obtain ⟨a, dx, fs, rfl, ha, q⟩ := h)
    (obtain ⟨u, rfl, ru⟩ := vals1 r)
    cases ru
    obtain ⟨od, J⟩ := inst_at I ha
    obtain ⟨m, hF⟩ := I.fr
    refine PySem.W.len_K hF I.ok.mod.kin J hs hf (wpAny_mono (run_in (us := [.ref a]) (ws := [.ref a]) F.raw hr.in1 rfl I (.cons rfl .nil) q) (fun w s' z => ?_) fun _ _ x => x)
    obtain ⟨z', H', I', rz, ez, qz⟩ := z
    subst ez
    obtain ⟨t, rfl⟩ := rz
    exact ⟨hn, .int n, H', I'.tok _, ⟨_, rfl⟩, qz⟩
  · intro B δ O σ G H Q xs st h q
    obtain ⟨v, rfl, hv⟩ := alls1 h
    obtain ⟨p, dx, fs, rfl, hp'⟩ := sIns_at hv st.stp.gh
    refine ⟨p, dx, fs, rfl, hp', fs_pure j hp st (by rw [hargs]; exact .cons hv .nil) h1 h2 fun v G' H' m st' hv' => ?_⟩
    rw [hres] at hv'
    exact ⟨hv', q _ G' H' m st' rfl⟩
theorem bool_new_in {prog : Program} {w : World} (x : Addr) : MeetsIn prog w (Builtin.«bool.__new__» ⟨[.type "bool", .ref x], []⟩) (fun A R s => wpAny (model prog w) A.in1 (truthy (.ref x)) (fun b s2 => R (.ok (.ret (.bool b))) s2) (fun e s2 => R (.error e) s2) s) :=
  .of_wp fun A R s hs => by
    have f1 := F.conv_sub_bool
    (obtain ⟨hp, g, d, tk, os⟩ := s)
    repeat (any_goals (first | assumption | (with_reducible refine wpAny_mono hs (fun b s2 hb => ?_) fun _ _ z => z) | wp_step))
    all_goals first | exact ⟨_, rfl, hb⟩ | exact hb | skip
/-- bool(x), the instance's own __bool__ -/
theorem bool_own {prog : Program} {w : World} {A : Around} {E : Value → Shared → Prop} {s : Shared} {K : Fg} {x C f : Addr} {L : Addr} {h₀ : Heap} {m : Str → Option Value} {ox : Obj} {od : Option Obj} {Q : Value → Shared → Prop} (Fr : PyProof.Rows.Fr h₀ L s.heap m) (X₀ : K.In h₀) (I : PySem.W.InstAt s.heap x ox C od)
    (hs : PySem.W.findIn K (.ref C) "__bool__" = some (some (.ref f))) (hf : PySem.W.isFn K (.ref f) = true) (h : wpAny (model prog w) A.in1.in1 (call (.ref f) [.ref x]) (fun v s' => ∃ b, v = .bool b ∧ Q (.bool b) s') E s) : wpAny (model prog w) A (call (.type "bool") [.ref x]) Q E s := by
  refine callType_newIn F.called_bool F.newNe_bool (F.typeCall_bool_1 (.ref x)) (F.newCall_bool_1 (.ref x)) (fun obj => F.args_object_init_2 obj (.ref x)) F.entry_bool_new (bool_new_in x) ?_
  refine PySem.W.truthy_K Fr X₀ I hs hf (wpAny_mono h (fun v s' hv => ?_) fun _ _ z => z)
  obtain ⟨b, rfl, hb⟩ := hv
  exact ⟨rfl, hb⟩
theorem c_boolO (j : ι) (hs : PySem.W.findIn X.K (.ref C) "__bool__" = some (some (.ref f))) (hf : PySem.W.isFn X.K (.ref f) = true) (F : DefX X k f [] S) (hr : Room (k + 2) X.A) (hp : S.pre j) (hargs : S.args j = [sIns C tab] := by rfl) (hres : S.res j = sBl u := by rfl)
    (h1 : S.own j = [] := by rfl) (h2 : S.own' j = [] := by rfl) : CallE X (.type "bool") [sIns C tab] (sBl u) := by
  refine ⟨fun xs H Q => ∃ a dx fs, xs = [.ref a] ∧ H a = some (.ins C dx fs) ∧ S.sp X.K [.ref a] H (fun z H' => z = .bl u ∧ Q (.bl u) H') E0, ?_, ?_⟩
  · intro pins s σ H xs us Q I r h
    (obtain ⟨a, dx, fs, rfl, ha, q⟩ := h)
    obtain ⟨w, rfl, ru⟩ := vals1 r
    cases ru
    obtain ⟨od, J⟩ := inst_at I ha
    obtain ⟨m, hF⟩ := I.fr
    have hr2 : Room k X.A.in1.in1 := (show Room (k + 1) X.A.in1 from Room.in1 hr).in1
    refine bool_own hF I.ok.mod.kin J hs hf (wpAny_mono (run_in (us := [.ref a]) (ws := [.ref a]) F.raw hr2 rfl I (.cons rfl .nil) q) (fun w s' z => ?_) fun _ _ x => x)
    obtain ⟨z', H', I', rz, ez, qz⟩ := z
    subst ez
    cases rz
    exact ⟨u, rfl, .bl u, H', I', rfl, qz⟩
  · intro B δ O σ G H Q xs st h q
    obtain ⟨v, rfl, hv⟩ := alls1 h
    obtain ⟨p, dx, fs, rfl, hp'⟩ := sIns_at hv st.stp.gh
    refine ⟨p, dx, fs, rfl, hp', fs_pure j hp st (by rw [hargs]; exact .cons hv .nil) h1 h2 fun v G' H' m st' hv' => ?_⟩
    rw [hres] at hv'
    exact ⟨hv', q _ G' H' m st' rfl⟩
/-- x == y of two instances of one class, by its own __eq__ -/
theorem o_eqO (j : ι) (hs : PySem.W.findIn X.K (.ref C) "__eq__" = some (some (.ref f))) (hf : PySem.W.isFn X.K (.ref f) = true) (F : DefX X k f [] S) (hr : Room k X.A) (hp : S.pre j) (hargs : S.args j = [sIns C tab, sIns C tab2] := by rfl) (hres : S.res j = sBl u := by rfl)
    (h1 : S.own j = [] := by rfl) (h2 : S.own' j = [] := by rfl) : OpE X (compareOp .Eq) (sIns C tab) (sIns C tab2) (sBl u) := by
  refine ⟨fun x y H Q => ∃ a b dx fs dy gs, x = .ref a ∧ y = .ref b ∧ H a = some (.ins C dx fs) ∧ H b = some (.ins C dy gs) ∧ S.sp X.K [.ref a, .ref b] H (fun z H' => z = .bl u ∧ Q (.bl u) H') E0, ?_, ?_⟩
  · intro pins s σ H x y v w Q I rx ry h
    obtain ⟨a, b, dx, fs, dy, gs, rfl, rfl, ha, hb, q⟩ := h
    cases rx
    cases ry
    obtain ⟨od, J⟩ := inst_at I ha
    obtain ⟨od2, J2⟩ := inst_at I hb
    obtain ⟨m, hF⟩ := I.fr
    show wpAny (model X.prog X.w) X.A (richCompare .Eq (.ref a) (.ref b)) (EP X pins σ Q) X.xe s
    refine PySem.W.cmp_K (op := .Eq) (tb := .ref C) hr.units0 hF I.ok.mod.kin J J2.type (by simp [PySem.W.notFirst]) hs hf (wpAny_mono (run_in (us := [.ref a, .ref b]) (ws := [.ref a, .ref b]) F.raw hr rfl I (.cons rfl (.cons rfl .nil)) q) (fun w s' z => ?_) fun _ _ x => x)
    obtain ⟨z', H', I', rz, ez, qz⟩ := z
    subst ez
    cases rz
    exact ⟨.bl u, H', I', rfl, qz⟩
  · intro B δ O σ G H Q x y st hx hy q
    obtain ⟨p, dx, fs, rfl, hp'⟩ := sIns_at hx st.stp.gh
    obtain ⟨p2, dx2, fs2, rfl, hp2⟩ := sIns_at hy st.stp.gh
    refine ⟨p, p2, dx, fs, dx2, fs2, rfl, rfl, hp', hp2, fs_pure j hp st (by rw [hargs]; exact .cons hx (.cons hy .nil)) h1 h2 fun v G' H' m st' hv' => ?_⟩
    rw [hres] at hv'
    exact ⟨hv', q _ G' H' m st' rfl⟩
/-- what the class's own object must look like (for !=) -/
def ClsO (K : Fg) (C : Addr) : Prop := ∃ nm q N bs bm hd sn sub ab col dd k0 k1 k2 k3 k5 id, K.lookup C = some (excClassObj nm q C N bs bm hd sn sub ab col dd k0 k1 k2 k3 k5 id) ∧ bm.contains (.type "object") = true
/-- !=, the class has an own __eq__ and no own __ne__ -/
theorem ne_K {prog : Program} {w : World} {A : Around} {E : Value → Shared → Prop} {s : Shared} {K : Fg} {x y C f : Addr} {L : Addr} {h₀ : Heap} {m : Str → Option Value} {ox oy : Obj} {od od2 : Option Obj} {Q : Value → Shared → Prop} (hu : A.units + 1 < cLine) (Fr : PyProof.Rows.Fr h₀ L s.heap m) (X₀ : K.In h₀)
    (I : PySem.W.InstAt s.heap x ox C od) (I2 : PySem.W.InstAt s.heap y oy C od2) (hox : s.heap.get? x = some ox) (hoc : ox.cls = .ref C) (hC : ClsO K C) (hne : PySem.W.findIn K (.ref C) "__ne__" = some (some (.builtin "object.__ne__")))
    (hs : PySem.W.findIn K (.ref C) "__eq__" = some (some (.ref f))) (hf : PySem.W.isFn K (.ref f) = true)
    (h : wpAny (model prog w) A.in1 (call (.ref f) [.ref x, .ref y]) (fun v s' => ∃ b, v = .bool b ∧ Q (.bool (!b)) s') E s) : wpAny (model prog w) A (richCompare .NotEq (.ref x) (.ref y)) Q E s := by
  have XK := X₀.keeps Fr.keep
  obtain ⟨nm, q, N, bs, bm, hd, sn, sub, ab, col, dd, k0, k1, k2, k3, k5, id, lC, hob⟩ := hC
  have hCh := XK _ _ lC
  unfold richCompare
  simp only [oneThing_ref]
  refine wpAny_holding (wpAny_bind (wpAny_cRoomFor (Nat.lt_of_succ_lt hu) ?_))
  rw [cmpInfo_NotEq]
  dsimp only
  refine wpAny_bind (I.type.here (wpAny_bind (I2.type.here ?_)))
  (rw [show (Value.ref C != Value.ref C) = false from by simp])
  (simp only [Bool.false_eq_true, if_false])
  (refine wpAny_bind (wpAny_pure ?_))
  (simp only [Bool.false_eq_true, if_false])
  have one : wpAny (model prog w) A (tryCompare (.ref x) "__ne__" (.ref y)) (fun r s' => ∃ v, r = some v ∧ Q v s') E s := by
    simp only [tryCompare]
    refine wpAny_bind ?_
    (simp only [callSpecialIfBound?, bindSpecialIfBound?])
    refine wpAny_holding (wpAny_bind (wpAny_bind (wpAny_bind (I.type.here ((PySem.W.looks_findIn XK hne).here ?_)))))
    simp only [F.cmp_object.ne.bind]
    have body : wpAny (model prog w) A (call (.builtin "object.__ne__") [.ref x, .ref y]) (fun v s' => ∃ b, v = .bool b ∧ Q (.bool b) s') E s := by
      obtain ⟨hp, g, d, t, os⟩ := s
      refine wpAny_call (codeAny_call_builtin F.cmp_object.ne.plain F.cmpEntry_ne (wpAny_check_slot_inst F.cmpKind_ne F.cmpSplit_ne (F.cmpArgs_ne _ _) hob hox hoc hCh ?_))
      (unfold Builtin.«object.__ne__»)
      repeat (first
        | with_reducible refine wpAny_cRoomFor (A := A.in1) hu ?_
        | (refine wpAny_bind (m := callSpecialIfBound? (.ref x) (Str.ofString "__eq__") [.ref y]) -- -
            (PySem.W.ifBound_K XK I hs hf (wpAny_mono h (fun r s' hr => by
              obtain ⟨b, rfl, hq⟩ := hr
              repeat (first | exact ⟨_, rfl, hq⟩ | exact wpAny_pure ⟨_, rfl, hq⟩ | exact wpAny_pure (wpAny_pure ⟨_, rfl, hq⟩) | (refine wpAny_bind (m := truthy (.bool _)) (wpAny_truthy_bool ?_)) | wp_step)) fun _ _ e => e)))
        | wp_step)
    have fin : wpAny (model prog w) A (call (.builtin "object.__ne__") ([.ref x] ++ [.ref y]) >>= fun v => pure (some v)) (fun r s' => wpAny (model prog w) A (match r with | some .notImplemented | none => pure none | some v => pure (some v)) (fun r s' => ∃ v, r = some v ∧ Q v s') E s') E s :=
      wpAny_bind (wpAny_mono body (fun v s' ⟨b, e, hq⟩ => by subst e; exact wpAny_pure (wpAny_pure ⟨_, rfl, hq⟩)) fun _ _ z => z)
    (refine wpAny_bind (wpAny_askSetting (wpAny_ite ?_)))
    split
    · (exact wpAny_bind (wpAny_pure (wpAny_pure fin)))
    · (exact wpAny_tryCatch (wpAny_bind (wpAny_pure (wpAny_pure fin))))
  (refine wpAny_bind (wpAny_mono one (fun r s' z => ?_) fun _ _ e => e))
  obtain ⟨v, rfl, hq⟩ := z
  first | exact wpAny_pure hq | exact wpAny_pure (wpAny_pure hq)
theorem o_neO (j : ι) (hs : PySem.W.findIn X.K (.ref C) "__eq__" = some (some (.ref f))) (hf : PySem.W.isFn X.K (.ref f) = true) (hC : ClsO X.K C) (hne : PySem.W.findIn X.K (.ref C) "__ne__" = some (some (.builtin "object.__ne__"))) (F : DefX X k f [] S) (hr : Room (k + 1) X.A) (hp : S.pre j)
    (hargs : S.args j = [sIns C tab, sIns C tab2] := by rfl) (hres : S.res j = sBl u := by rfl) (h1 : S.own j = [] := by rfl) (h2 : S.own' j = [] := by rfl) : OpE X (compareOp .NotEq) (sIns C tab) (sIns C tab2) (sBl (!u)) := by
  refine ⟨fun x y H Q => ∃ a b dx fs dy gs, x = .ref a ∧ y = .ref b ∧ H a = some (.ins C dx fs) ∧ H b = some (.ins C dy gs) ∧ S.sp X.K [.ref a, .ref b] H (fun z H' => z = .bl u ∧ Q (.bl (!u)) H') E0, ?_, ?_⟩
  · intro pins s σ H x y v w Q I rx ry h
    obtain ⟨a, b, dx, fs, dy, gs, rfl, rfl, ha, hb, q⟩ := h
    cases rx
    cases ry
    obtain ⟨od, J⟩ := inst_at I ha
    obtain ⟨od2, J2⟩ := inst_at I hb
    obtain ⟨m, hF⟩ := I.fr
    obtain ⟨_, _, _, hga, _⟩ := (show ObjOk X.prog X.w H s.heap a (.ins C dx fs) from I.hok a _ ha)
    show wpAny (model X.prog X.w) X.A (richCompare .NotEq (.ref a) (.ref b)) (EP X pins σ Q) X.xe s
    refine ne_K (by have := hr.units; omega) hF I.ok.mod.kin J J2 hga rfl hC hne hs hf (wpAny_mono (run_in (us := [.ref a, .ref b]) (ws := [.ref a, .ref b]) F.raw hr.in1 rfl I (.cons rfl (.cons rfl .nil)) q) (fun w s' z => ?_) fun _ _ x => x)
    obtain ⟨z', H', I', rz, ez, qz⟩ := z
    subst ez
    cases rz
    exact ⟨u, rfl, .bl (!u), H', I', rfl, qz⟩
  · intro B δ O σ G H Q x y st hx hy q
    obtain ⟨p, dx, fs, rfl, hp'⟩ := sIns_at hx st.stp.gh
    obtain ⟨p2, dx2, fs2, rfl, hp2⟩ := sIns_at hy st.stp.gh
    refine ⟨p, p2, dx, fs, dx2, fs2, rfl, rfl, hp', hp2, fs_pure j hp st (by rw [hargs]; exact .cons hx (.cons hy .nil)) h1 h2 fun v G' H' m st' hv' => ?_⟩
    rw [hres] at hv'
    exact ⟨hv', q _ G' H' m st' rfl⟩
/-- what x + n asks of the class of x, with an own __add__ at f, n an int -/
structure ClsAdd (K : Fg) (C f : Addr) : Prop where
  hc : PySem.W.selfFirst K C = true
  hs : PySem.W.findIn K (.ref C) (PySem.dunder "add") = some (some (.ref f))
  hf : PySem.W.isFn K (.ref f) = true
  hr : PySem.W.findIn K (.ref C) (PySem.dunderR "add") = some none
  h1 : ∃ fo, PySem.W.findIn K (.type "int") (PySem.dunder "add") = some fo
  h2 : ∃ ro, PySem.W.findIn K (.type "int") (PySem.dunderR "add") = some ro
  hsub : PySem.W.subIn K (.type "int") (.ref C) = some false
theorem o_addO {φ : Slot} (j : ι) (c : ClsAdd X.K C f) (F : DefX X k f [] S) (hr : Room k X.A) (hp : S.pre j) (hargs : S.args j = [sIns C tab, sInt n] := by rfl) (hres : S.res j = φ := by rfl) (hni : ∀ (K : Fg) (G : Hp) (v : V) (u : Value), φ.ok K G v → RelV v u → u ≠ .notImplemented)
    (h1 : S.own j = [] := by rfl) (h2 : S.own' j = [] := by rfl) : OpE X (binaryOp .Add) (sIns C tab) (sInt n) φ := by
  refine ⟨fun x y H Q => ∃ a dx fs, x = .ref a ∧ y = .int n ∧ H a = some (.ins C dx fs) ∧ S.sp X.K [.ref a, .int n] H (fun z H' => (∀ u, RelV z u → u ≠ .notImplemented) ∧ Q z H') E0, ?_, ?_⟩
  · intro pins s σ H x y v w Q I rx ry h
    obtain ⟨a, dx, fs, rfl, rfl, ha, q⟩ := h
    cases rx
    obtain ⟨t, rfl⟩ := (show ∃ t, w = Value.int n t from ry)
    obtain ⟨od, J⟩ := inst_at I ha
    obtain ⟨m, hF⟩ := I.fr
    obtain ⟨fo, e1⟩ := c.h1
    obtain ⟨ro, e2⟩ := c.h2
    refine PySem.W.ksp_binT (op := .Add) (T := "int") hF I.ok.mod.kin J rfl c.hc c.hs c.hf c.hr (.inl rfl) e1 e2 c.hsub (wpAny_mono (run_in (us := [.ref a, .int n t]) (ws := [.ref a, .int n]) F.raw hr rfl I (.cons rfl (.cons ⟨t, rfl⟩ .nil)) q) (fun w s' z => ?_) fun _ _ x => x)
    obtain ⟨z', H', I', rz, ni, qz⟩ := z
    have ni := ni w rz
    have fin : EP X pins σ Q w s' := ⟨z', H', I', rz, qz⟩
    cases w <;> first | exact absurd rfl ni | exact fin
  · intro B δ O σ G H Q x y st hx hy q
    obtain ⟨p, dx, fs, rfl, hp'⟩ := sIns_at hx st.stp.gh
    cases hy
    refine ⟨p, dx, fs, rfl, rfl, hp', fs_pure j hp st (by rw [hargs]; exact .cons hx (.cons rfl .nil)) h1 h2 fun v G' H' m st' hv' => ?_⟩
    rw [hres] at hv'
    exact ⟨fun u ru => hni _ _ _ _ hv' ru, q v G' H' m st' hv'⟩
theorem ins_ni {K : Fg} {G : Hp} {v : V} {u : Value} (h : (sIns C tab).ok K G v) (r : RelV v u) : u ≠ .notImplemented := by
  obtain ⟨p, o, rfl, _⟩ := h
  cases r
  intro z
  cases z
/-- f(e, ..), f an instance with an own __call__ -/
theorem e_callO {fe e : Expr} {es : List Expr} {pos : Pos} (j : ι) (c : StX.CallO X.K C f) (F : DefX X k f [] S) (hr : Room k X.A) (hfe : E X δ O fe (sIns C tab) O1) (ha : EA X δ O1 (e :: es) ss O2) (hp : S.pre j) (hargs : S.args j = sIns C tab :: ss := by rfl) (h1 : S.own j = [] := by rfl) (h2 : S.own' j = [] := by rfl)
    (he : noStar e = true := by rfl) (hpl : noStars es = true := by rfl) (ht : eval (.Call fe (e :: es) [] pos) X.env = (do callWith pos (← eval fe X.env) [] (backTo pos (starEach (e :: es) X.env)) (backToKw pos (keywordEach [] X.env))) := by rfl) :
    E X δ O (.Call fe (e :: es) [] pos) (S.res j) O2 := by
  intro B σ G H Q st k
  refine e_of (StX.pe_callO pe_w c F.raw hr (E := E0) pass0 pa_w ht (starEach_plain he) (backTo_plain hpl)) ?_
  refine hfe B σ G H _ st fun v G1 H1 m1 st1 hv => ?_
  have hv0 := hv
  obtain ⟨q, dx, fs, rfl, hq⟩ := sIns_at hv (Same.refl G1)
  refine ⟨q, rfl, ?_⟩
  refine ha B σ G1 H1 _ st1 fun vs G2 H2 m2 st2 hvs => ⟨.inr ⟨dx, fs, st2.stp.gh _ _ (m2 _ _ hq)⟩, ?_⟩
  exact fs_pure j hp st2 (by rw [hargs]; exact .cons ((sIns C tab).mono m2 hv0) hvs) h1 h2 fun v G' H' m st' hv' => k v G' H' (m1.trans (m2.trans m)) st' hv'
end
end Gd

namespace K51
open PySem L2 Gd
def top (i : Nat) : Stmt := PySem.Challenge.pw_typingroom_k51_whole_hands.main.body.getD i (.Pass ⟨0, 0, 0, 0⟩)
abbrev sCell : Stmt := top 39
abbrev sDraw : Stmt := top 40
abbrev sNumber : Stmt := top 41
abbrev sNext : Stmt := top 42
abbrev sPick : Stmt := top 43
/-! ### the draws, as functions -/
def cellAt (ns : List Int) (k : Int) : Int := ns.getD k.toNat 0
structure Bt (mg : Str → Option Value) : Prop where
  len : mg "len" = none
  int : mg "int" = none
  range : mg "range" = none
section
variable {P : Program} {w : World} {K : Fg} {mg : Str → Option Value} {base : Heap}
theorem scCell : FnScope ["_law_script", "_law_k"] ["_law_script", "_law_k"] (defScope sCell) := ⟨rfl, rfl, rfl, by decide +kernel, rfl, by decide +kernel, by decide +kernel⟩
def fsCell : FS (List Int × Int) := { args := fun i => [sLst sInt i.1, sInt i.2], pre := fun i => 0 ≤ i.2, res := fun i => sInt (cellAt i.1 i.2) }
theorem ok_cell {f : Addr} {fd : FuncData} (F : Fun K "_law_cell_at" "_law_cell_at" sCell f fd) (b : Binds K fd ["_law_script", "_law_k"] []) (T : Bt mg) : DefOk P w K mg base 1 f [] fsCell := by
  refine fn_ok F scCell b .nil (fun _ => rfl) fun ⟨ns, k⟩ cdv A outer s G H D EE hr hp hf hn => ?_
  have hp : 0 ≤ k := hp
  refine j_if (t_cmp o_lt (e_name 1) (e_callB c_len T.len PySem.boot_len (ea_cons (e_name 0) ea_nil))) (fun h => ?_) (fun h => ?_)
  · have h : k < (ns.length : Int) := by simpa using h
    (have hk : k.toNat < ns.length := by omega)
    refine j_ret (e_ix (i_lst (y := ns[k.toNat]) ?_) (e_name 0) (e_name 1)) (fin_ret hf (fun w hw => hw) ?_)
    · have := atI_nat (xs := ns) (j := k.toNat) (v := ns[k.toNat]) (List.getElem?_eq_getElem hk)
      rwa [Int.toNat_of_nonneg hp] at this
    · intro G v hv
      show v = V.int (cellAt ns k)
      unfold cellAt
      rw [List.getD_eq_getElem?_getD, List.getElem?_eq_getElem hk]
      exact hv
  · have h : ¬ k < (ns.length : Int) := by simpa using h
    refine j_on (j_ret e_int (fin_ret hf (fun w hw => hw) fun G v hv => ?_))
    show v = V.int (cellAt ns k)
    unfold cellAt
    (rw [List.getD_eq_getElem?_getD, List.getElem?_eq_none (by omega)])
    exact hv
end
end K51

namespace K51
open PySem L2 Gd
def primes : List Int := [1000003, 1000033, 1000037, 1000039, 1000081, 1000099, 1000117, 1000121, 1000133, 1000151, 1000159, 1000171, 1000183, 1000187, 1000193, 1000199]
def prime (k : Int) : Int := primes.getD (k % 16).toNat 1
theorem prime_pos (k : Int) : 0 < prime k := by
  unfold prime
  have h : (k % 16).toNat < 16 := by omega
  generalize (k % 16).toNat = j at h
  match j, h with
  | 0, _ | 1, _ | 2, _ | 3, _ | 4, _ | 5, _ | 6, _ | 7, _ | 8, _ | 9, _ | 10, _ | 11, _ | 12, _ | 13, _ | 14, _ | 15, _ => decide
  | n + 16, h => omega
def drawV (cell k b : Int) : Int := (cell * 48271 + k * 69621) % prime k % b
def remains (cell k : Int) : Int := (cell - 10 ^ 18) / 1009 ^ k.toNat
def small (cell : Int) : Int := cell % 1000003
def numV (cell k b : Int) : Int :=
  if 0 < remains cell k then remains cell k % 1009 % b else drawV ((small cell + 977 * k) * (small cell + 31 * k + 5)) (k % 9 + 1) 999983 % b
def nextV (ns : List Int) (c b : Int) : Int := numV (cellAt ns ((c + 1) / 12) + 31 * ((c + 1) / 12)) ((c + 1) % 12 + 1) b
theorem numV_lo {cell k b : Int} (h : 0 < b) : 0 ≤ numV cell k b := by
  unfold numV
  split
  · exact Int.emod_nonneg _ (by omega)
  · exact Int.emod_nonneg _ (by omega)
theorem numV_hi {cell k b : Int} (h : 0 < b) : numV cell k b < b := by
  unfold numV
  split
  · exact Int.emod_lt_of_pos _ h
  · exact Int.emod_lt_of_pos _ h
theorem nextV_lo {ns : List Int} {c b : Int} (h : 0 < b) : 0 ≤ nextV ns c b := numV_lo h
theorem nextV_hi {ns : List Int} {c b : Int} (h : 0 < b) : nextV ns c b < b := numV_hi h
section
variable {P : Program} {w : World} {K : Fg} {mg : Str → Option Value} {base : Heap}
theorem scDraw : FnScope ["_law_cell", "_law_k", "_law_bound", "_law_primes"] ["_law_cell", "_law_k", "_law_bound"] (defScope sDraw) := ⟨rfl, rfl, rfl, by decide +kernel, rfl, by decide +kernel, by decide +kernel⟩
def fsDraw : FS (Int × Int × Int) := { args := fun i => [sInt i.1, sInt i.2.1, sInt i.2.2], pre := fun i => 0 ≤ i.2.1 ∧ 0 < i.2.2, res := fun i => sInt (drawV i.1 i.2.1 i.2.2) }
theorem ok_draw {f : Addr} {fd : FuncData} (F : Fun K "_law_draw" "_law_draw" sDraw f fd) (b : Binds K fd ["_law_cell", "_law_k", "_law_bound"] []) (T : Bt mg) : DefOk P w K mg base 1 f [] fsDraw := by
  refine fn_ok F scDraw b .nil (fun _ => rfl) fun ⟨cell, k, bd⟩ cdv A outer s G H D EE hr hp hf hn => ?_
  have hp : 0 ≤ k ∧ 0 < bd := hp
  refine j_set 3 (O1 := []) (e_tupl (as := primes) (R := sInt) ?_ (by decide)) ?_ scDraw.nd
  · repeat (first | exact el_nil | refine el_cons e_int ?_)
  refine j_ret (e_bin (o_mod ?_) (e_bin (o_mod ?_) (e_callTy c_int T.int (by decide +kernel) (ea_cons (e_bin o_add (e_bin (o_mul ?_) (e_name 0) e_int) (e_bin (o_mul ?_) (e_name 1) e_int)) ea_nil))
    (e_ix (i_tupl (y := prime k) ?_) (e_name 3) (e_bin (o_mod ?_) (e_callTy c_int T.int (by decide +kernel) (ea_cons (e_name 1) ea_nil)) e_int))) (e_name 2)) (fin_ret hf (fun w hw => hw) fun G v hv => hv)
  · exact hp.2
  · exact prime_pos k
  · exact .inr (by decide)
  · exact .inr (by decide)
  · have h : (k % 16).toNat < 16 := by omega
    have e : primes[(k % 16).toNat]? = some (prime k) := by
      unfold prime
      rw [List.getD_eq_getElem?_getD, List.getElem?_eq_getElem (by exact h)]
      rfl
    have := atI_nat e
    rwa [Int.toNat_of_nonneg (by omega)] at this
  · decide
theorem scNumber : FnScope ["_law_cell", "_law_k", "_law_bound", "_law_power", "_law_lap", "_law_remains", "_law_small"] ["_law_cell", "_law_k", "_law_bound"] (defScope sNumber) := ⟨rfl, rfl, rfl, by decide +kernel, rfl, by decide +kernel, by decide +kernel⟩
def fsNumber : FS (Int × Int × Int) := { args := fun i => [sInt i.1, sInt i.2.1, sInt i.2.2], pre := fun i => (0 ≤ i.2.1 ∧ i.2.1 < 24) ∧ 0 < i.2.2, res := fun i => sInt (numV i.1 i.2.1 i.2.2) }
theorem pow_pos' (n : Nat) : (0 : Int) < 1009 ^ n := Int.pow_pos (by decide)
theorem ok_number {f fD : Addr} {fd : FuncData} (F : Fun K "_law_number" "_law_number" sNumber f fd) (b : Binds K fd ["_law_cell", "_law_k", "_law_bound"] []) (T : Bt mg) (gD : mg "_law_draw" = some (.ref fD)) (FD : DefOk P w K mg base 1 fD [] fsDraw) : DefOk P w K mg base 2 f [] fsNumber := by
  refine fn_ok F scNumber b .nil (fun _ => rfl) fun ⟨cell, k, bd⟩ cdv A outer s G H D EE hr hp hf hn => ?_
  have hp : (0 ≤ k ∧ k < 24) ∧ 0 < bd := hp
  have hk : k % 24 = k := Int.emod_eq_of_lt hp.1.1 hp.1.2
  refine j_set 3 e_int ?_ scNumber.nd
  refine j_for (O1 := []) (R := fun k : Nat => sInt k) (as := List.range (k % 24).toNat) (fun n (g : Nat) => g = n) (fun g => [some (sInt cell), some (sInt k), some (sInt bd), some (sInt (1009 ^ g)), none, none, none]) (fun _ => []) (fun y => [(4, sInt y)])
    (it_range T.range (e_bin (o_mod (by decide)) (e_callTy c_int T.int (by decide +kernel) (ea_cons (e_name 1) ea_nil)) e_int) (by omega) (by omega)) (tg_name 4 scNumber.nd) ⟨0, rfl, fun _ _ _ _ h => by show Sta _ _ [_, _, _, some (sInt (1009 ^ 0)), _, _, _] _ _ _ _; rw [Int.pow_zero]; exact h⟩ ?_ ?_
  · rintro B1 n y g hB hy rfl
    refine j_set 3 (O1 := []) (e_bin (o_mul (.inr (by decide))) (e_name 3) e_int) ?_ scNumber.nd
    refine j_nil fun σ G H st => ⟨g + 1, G, rfl, ?_⟩
    have st : Sta K B1 [some (sInt cell), some (sInt k), some (sInt bd), some (sInt (1009 ^ g * 1009)), some (sInt y), none, none] [] σ G H := st
    show Sta K B1 [_, _, _, some (sInt (1009 ^ (g + 1))), _, _, _] _ σ G H
    rw [Int.pow_succ]
    exact st.wk (.same (.same (.same (.same (.skip (.same (.same .nil)))))))
  · rintro g rfl
    have hlen : (List.range (k % 24).toNat).length = k.toNat := by rw [List.length_range, hk]
    rw [hlen]
    refine j_set 5 (O1 := []) (s := sInt (remains cell k)) (e_bin (o_fdivW ?_) (e_bin o_sub (e_name 0) (e_bin (o_pow ⟨by decide, by decide, by decide⟩) e_int e_int)) (e_name 3)) ?_ scNumber.nd
    · refine wide_div (b := 500) (pow_pos' _) ?_ (by decide) (by decide)
      rw [Int.natAbs_pow]
      exact Nat.lt_of_le_of_lt (Nat.pow_le_pow_right (by decide) (show k.toNat ≤ 24 by omega)) (by decide +kernel)
    refine j_if (t_cmp o_gt (e_name 5) e_int) (fun h => ?_) (fun h => ?_)
    · have h : 0 < remains cell k := by simpa using h
      refine j_ret (e_bin (o_mod hp.2) (e_bin (o_mod (by decide)) (e_callTy c_int T.int (by decide +kernel) (ea_cons (e_name 5) ea_nil)) e_int) (e_name 2)) (fin_ret hf (fun w hw => hw) fun G v hv => ?_)
      show v = V.int (numV cell k bd)
      unfold numV
      rw [if_pos h]
      exact hv
    · have h : ¬ 0 < remains cell k := by simpa using h
      refine j_on ?_
      refine j_set 6 (O1 := []) (s := sInt (small cell)) (e_bin (o_mod (by decide)) (e_callTy c_int T.int (by decide +kernel) (ea_cons (e_name 0) ea_nil)) e_int) ?_ scNumber.nd
      have hs0 : 0 ≤ small cell := Int.emod_nonneg _ (by decide)
      have hs1 : small cell < 1000003 := Int.emod_lt_of_pos _ (by decide)
      refine j_ret (O1 := []) (e_bin (o_mod hp.2) (e_call (O2 := []) (((small cell + 977 * k) * (small cell + 31 * k + 5)), (k % 9 + 1), 999983) FD hr gD (ea_cons (e_bin (o_mul ?_) (e_bin o_add (e_name 6) (e_bin (o_mul ?_) e_int (e_name 1))) (e_bin o_add (e_bin o_add (e_name 6) (e_bin (o_mul ?_) e_int (e_name 1))) e_int))
        (ea_cons (e_bin o_add (e_bin (o_mod (by decide)) (e_callTy c_int T.int (by decide +kernel) (ea_cons (e_name 1) ea_nil)) e_int) e_int) (ea_cons e_int ea_nil))) ?_) (e_name 2)) (fin_ret hf (fun w hw => hw) fun G v hv => ?_)
      · exact .inl (by omega)
      · exact .inl (by decide)
      · exact .inl (by decide)
      · show 0 ≤ k % 9 + 1 ∧ (0 : Int) < 999983
        omega
      · show v = V.int (numV cell k bd)
        unfold numV
        rw [if_neg h]
        exact hv
end
end K51

namespace K51
open PySem L2 Gd
/-- the draws' own list -/
def dO (dr : Addr) (ns : List Int) (c : Int) : Own := oLstS dr [sLst sInt ns, sInt 0, sInt c]
section
variable {P : Program} {w : World} {K : Fg} {mg : Str → Option Value} {base : Heap}
theorem scNext : FnScope ["_law_draw_here", "_law_bound", "_law_at", "_law_cell"] ["_law_draw_here", "_law_bound"] (defScope sNext) := ⟨rfl, rfl, rfl, by decide +kernel, rfl, by decide +kernel, by decide +kernel⟩
def fsNext : FS (Addr × List Int × Int × Int) := { args := fun i => [sRef i.1, sInt i.2.2.2], own := fun i => [dO i.1 i.2.1 i.2.2.1], pre := fun i => 0 ≤ i.2.2.1 ∧ 0 < i.2.2.2, res := fun i => sInt (nextV i.2.1 i.2.2.1 i.2.2.2), own' := fun i => [dO i.1 i.2.1 (i.2.2.1 + 1)] }
theorem ok_next {f fC fN : Addr} {fd : FuncData} (F : Fun K "_law_next" "_law_next" sNext f fd) (b : Binds K fd ["_law_draw_here", "_law_bound"] []) (T : Bt mg) (gC : mg "_law_cell_at" = some (.ref fC)) (FC : DefOk P w K mg base 1 fC [] fsCell)
    (gN : mg "_law_number" = some (.ref fN)) (FN : DefOk P w K mg base 2 fN [] fsNumber) : DefOk P w K mg base 3 f [] fsNext := by
  refine fn_ok F scNext b .nil (fun _ => rfl) fun ⟨dr, ns, c, bd⟩ cdv A outer s G H D EE hr hp hf hn => ?_
  have hp : 0 ≤ c ∧ 0 < bd := hp
  (have hr1 : Room 1 _ := hr.mono (by decide))
  refine j_setIx (O1 := [dO dr ns c]) (O2 := [dO dr ns c]) (O3 := [dO dr ns c]) 0 2 (e_bin o_add (e_ixO 0 2 (e_name 0) e_int) e_int) (e_name 0) e_int ?_
  refine j_set 2 (O1 := [dO dr ns (c + 1)]) (s := sInt ((c + 1) / 12)) (e_bin (o_fdiv ⟨by decide, by decide⟩) (e_ixO 0 2 (e_name 0) e_int) e_int) ?_ scNext.nd
  refine j_set 3 (O1 := [dO dr ns (c + 1)]) (s := sInt (cellAt ns ((c + 1) / 12) + 31 * ((c + 1) / 12))) (e_bin o_add (e_eq (e_call (O2 := [dO dr ns (c + 1)]) (ns, 0 + (c + 1) / 12) FC hr1 gC (ea_cons (e_ixO 0 0 (e_name 0) e_int) (ea_cons (e_bin o_add (e_ixO 0 1 (e_name 0) e_int) (e_name 2)) ea_nil)) ?_) ?_)
    (e_bin (o_mul ?_) e_int (e_name 2))) ?_ scNext.nd
  · show 0 ≤ 0 + (c + 1) / 12
    omega
  · show sInt (cellAt ns (0 + (c + 1) / 12)) = _
    rw [Int.zero_add]
  · exact .inl (by decide)
  refine j_ret (e_call (O2 := [dO dr ns (c + 1)]) (cellAt ns ((c + 1) / 12) + 31 * ((c + 1) / 12), (c + 1) % 12 + 1, bd) FN hr gN (ea_cons (e_name 3) (ea_cons (e_bin o_add (e_bin (o_mod (by decide)) (e_callTy c_int T.int (by decide +kernel) (ea_cons (e_ixO 0 2 (e_name 0) e_int) ea_nil)) e_int) e_int)
    (ea_cons (e_name 1) ea_nil))) ?_) (fin_ret hf (fun w hw => hw) fun G v hv => hv)
  show (0 ≤ (c + 1) % 12 + 1 ∧ (c + 1) % 12 + 1 < 24) ∧ 0 < bd
  omega
theorem scPick : FnScope ["_law_draw_here", "_law_things"] ["_law_draw_here", "_law_things"] (defScope sPick) := ⟨rfl, rfl, rfl, by decide +kernel, rfl, by decide +kernel, by decide +kernel⟩
def fsPick {α : Type} (R : α → Slot) : FS (Addr × List Int × Int × List α × α) := { args := fun i => [sRef i.1, sLst R i.2.2.2.1], own := fun i => [dO i.1 i.2.1 i.2.2.1], pre := fun i => 0 ≤ i.2.2.1 ∧ i.2.2.2.1[(nextV i.2.1 i.2.2.1 i.2.2.2.1.length).toNat]? = some i.2.2.2.2, res := fun i => R i.2.2.2.2, own' := fun i => [dO i.1 i.2.1 (i.2.2.1 + 1)] }
theorem ok_pick {f fN : Addr} {fd : FuncData} {α : Type} {R : α → Slot} (F : Fun K "_law_pick" "_law_pick" sPick f fd) (b : Binds K fd ["_law_draw_here", "_law_things"] []) (T : Bt mg)
    (gN : mg "_law_next" = some (.ref fN)) (FN : DefOk P w K mg base 3 fN [] fsNext) : DefOk P w K mg base 4 f [] (fsPick R) := by
  refine fn_ok F scPick b .nil (fun _ => rfl) fun ⟨dr, ns, c, as, y⟩ cdv A outer s G H D EE hr hp hf hn => ?_
  have hp : 0 ≤ c ∧ as[(nextV ns c as.length).toNat]? = some y := hp
  have hl : 0 < as.length := by
    rcases Nat.eq_zero_or_pos as.length with z | z
    · have : as = [] := List.length_eq_zero_iff.mp z
      subst this
      have := hp.2
      simp at this
    · exact z
  refine j_ret (O1 := [dO dr ns (c + 1)]) (e_ix (i_lst (y := y) ?_) (e_name 1) (e_call (O2 := []) (dr, ns, c, (as.length : Int)) FN hr gN (ea_cons (e_name 0) (ea_cons (e_callB c_len T.len PySem.boot_len (ea_cons (e_name 1) ea_nil)) ea_nil)) ?_)) (fin_ret hf (fun w hw => hw) fun G v hv => hv)
  · have := atI_nat hp.2
    rwa [Int.toNat_of_nonneg (nextV_lo (by omega))] at this
  · show 0 ≤ c ∧ (0 : Int) < as.length
    omega
end
end K51

namespace K51
open PySem L2 Gd
abbrev sIsWord : Stmt := top 9
abbrev sIsToken : Stmt := top 14
abbrev sCheck : Stmt := top 15
def keptL : List Str := ["any", "give", "let"]
def signsL : List Str := ["(", ")", "{", "}", ",", ":", ".", ";", "="]
def letters : Str := "abcdefghijklmnopqrstuvwxyz"
def isWord (t : Str) : Bool := if (1 ≤ (t.length : Int) ∧ (t.length : Int) ≤ 10) ∧ t ∉ keptL then t.cps.toList.all fun n => decide (n ∈ letters.cps.toList) else false
def isToken (t : Str) : Bool := isWord t || (decide (t ∈ (["give", "let"] : List Str)) || decide (t ∈ signsL))
/-- the constants of the top -/
structure Cs (K : Fg) (mg : Str → Option Value) : Prop where
  letters : ∃ t, mg "LETTERS" = some (.str letters t)
  longest : ∃ t, mg "LONGEST" = some (.int 10 t)
  kept : ∃ u, mg "KEPT" = some u ∧ ∃ v, RelV v u ∧ ∀ G, (sTupl sStr keptL).ok K G v
  signs : ∃ u, mg "SIGNS" = some u ∧ ∃ v, RelV v u ∧ ∀ G, (sTupl sStr signsL).ok K G v
  all : mg "all" = none
  int : mg "int" = none
  isi : mg "isinstance" = none
  str : mg "str" = none
  list : mg "list" = none
  tuple : mg "tuple" = none
  bool : mg "bool" = none
  min : mg "min" = none
section
variable {P : Program} {w : World} {K : Fg} {mg : Str → Option Value} {base : Heap}
theorem scIsWord : FnScope ["thing", "sign"] ["thing"] (defScope sIsWord) := ⟨rfl, rfl, rfl, by decide +kernel, rfl, by decide +kernel, by decide +kernel⟩
def fsIsWord : FS Str := { args := fun t => [sStr t], pre := fun t => t.length ≤ 100000, res := fun t => sBl (isWord t) }
theorem len_toList (t : Str) : t.cps.toList.length = t.length := by
  show t.cps.toList.length = t.cps.size
  exact Array.length_toList
theorem ok_isWord {f : Addr} {fd : FuncData} (F : Fun K "is_word" "is_word" sIsWord f fd) (b : Binds K fd ["thing"] []) (T : Bt mg) (C : Cs K mg) : DefOk P w K mg base 1 f [] fsIsWord := by
  obtain ⟨uk, gk, vk, rk, hk⟩ := C.kept
  obtain ⟨tl, gl⟩ := C.letters
  obtain ⟨tn, gn⟩ := C.longest
  refine fn_ok F scIsWord b .nil (fun _ => rfl) fun t cdv A outer s G H D EE hr hp hf hn => ?_
  have hp : t.length ≤ 100000 := hp
  have hz : t.length ≤ sizeLine := Nat.le_trans hp (by decide)
  refine j_if (O1 := []) (t_w (tw_or (t_not (t_val (e_callB (c_isi (n := "str") (k := true) ty_str (kit_ty (by decide +kernel))) C.isi (by decide +kernel) (ea_cons (e_name 0) (ea_cons (e_ty "str" C.str (by decide +kernel)) ea_nil)))))
    fun _ => tw_or (t_not (t_chain o_le (fun _ => o_le) e_int (e_callB (c_lenS hz) T.len PySem.boot_len (ea_cons (e_name 0) ea_nil)) (e_gint gn))) fun _ => tw_or1 (t_cmp o_inT (e_name 0) (e_glob gk rk hk)))) (fun h => ?_) (fun h => ?_)
  · have h : ¬ ((1 ≤ (t.length : Int) ∧ (t.length : Int) ≤ 10) ∧ t ∉ keptL) := by
      intro z
      simp [z.1.1, z.1.2, z.2] at h
    refine j_ret (s := sBl false) e_bl (fin_ret hf (fun w hw => hw) fun G v hv => ?_)
    show v = V.bl (isWord t)
    unfold isWord
    rw [if_neg h]
    exact hv
  · have h : (1 ≤ (t.length : Int) ∧ (t.length : Int) ≤ 10) ∧ t ∉ keptL := by
      simp only [Bool.or_eq_false_iff, Bool.not_eq_false', Bool.not_true, Bool.and_eq_true, decide_eq_true_eq, decide_eq_false_iff_not] at h
      exact ⟨h.2.1, h.2.2⟩
    refine j_on (j_ret (O1 := []) (e_callB c_all C.all (by decide +kernel) (ea_cons (e_lst (ew_map (R := fun n : Nat => sStr ⟨#[n]⟩) (S := sBl) (as := t.cps.toList) 1 (fun n => decide (n ∈ letters.cps.toList)) scIsWord.nd (it_str (e_name 0)) (blkOk_by (own := [("sign", 1)]) (N := ["thing", "sign"]) (sc := defScope sIsWord) (by decide +kernel))
      (fun y hy s H C cl fp => e_cmp o_inC (e_name 1) (e_gstr gl)) (by rw [len_toList]; exact hz))) ea_nil)) (fin_ret hf (fun w hw => hw) fun G v hv => ?_))
    show v = V.bl (isWord t)
    unfold isWord
    rw [if_pos h]
    have hv : v = V.bl ((t.cps.toList.map fun n => decide (n ∈ letters.cps.toList)).all id) := hv
    rw [hv, List.all_map]
    rfl
end
end K51

namespace K51
open PySem L2 Gd
section
variable {P : Program} {w : World} {K : Fg} {mg : Str → Option Value} {base : Heap}
theorem scIsToken : FnScope ["thing"] ["thing"] (defScope sIsToken) := ⟨rfl, rfl, rfl, by decide +kernel, rfl, by decide +kernel, by decide +kernel⟩
def fsIsToken : FS Str := { args := fun t => [sStr t], pre := fun t => t.length ≤ 100000, res := fun t => sBl (isToken t) }
theorem ok_isToken {f fW : Addr} {fd : FuncData} (F : Fun K "is_token" "is_token" sIsToken f fd) (b : Binds K fd ["thing"] []) (C : Cs K mg) (gW : mg "is_word" = some (.ref fW)) (FW : DefOk P w K mg base 1 fW [] fsIsWord) : DefOk P w K mg base 2 f [] fsIsToken := by
  obtain ⟨us, gs, vs, rs, hs⟩ := C.signs
  refine fn_ok F scIsToken b .nil (fun _ => rfl) fun t cdv A outer s G H D EE hr hp hf hn => ?_
  refine j_ret (O1 := []) (e_and2 (e_callB (c_isi (n := "str") (k := true) ty_str (kit_ty (by decide +kernel))) C.isi (by decide +kernel) (ea_cons (e_name 0) (ea_cons (e_ty "str" C.str (by decide +kernel)) ea_nil)))
    (e_one (e_or2 (e_call (O2 := []) t FW hr gW (ea_cons (e_name 0) ea_nil) (by exact hp)) (e_or2 (e_cmp o_inT (e_name 0) (e_tupl (as := ["give", "let"]) (R := sStr) (el_cons e_str (el_cons e_str el_nil)) (by decide))) (e_one (e_cmp o_inT (e_name 0) (e_glob gs rs hs))))))) (fin_ret hf (fun w hw => hw) fun G v hv => hv)
/-- words that are right ones -/
def okWords (ws : List Str) : Prop := ∀ t ∈ ws, isToken t = true ∧ t.length ≤ 100000
/-- words, in a list or a tuple -/
def sWs (tup : Bool) (ws : List Str) : Slot := if tup then sTupl sStr ws else sLst sStr ws
theorem scCheck : FnScope ["words", "hole", "most", "word"] ["words", "hole", "most"] (defScope sCheck) := ⟨rfl, rfl, rfl, by decide +kernel, rfl, by decide +kernel, by decide +kernel⟩
def fsCheck : FS (Bool × List Str) := { args := fun i => [sWs i.1 i.2, sBl false, sInt 200], pre := fun i => okWords i.2 ∧ i.2.length ≤ 200, res := fun _ => sNon }
def kwsCheck : List (Str × V) := [("hole", .bl false), ("most", .int 200)]
theorem ok_check {f fT : Addr} {fd : FuncData} (F : FunD K "check_words" "check_words" (defArgs sCheck) (defBody sCheck) (defScope sCheck) [] kwsCheck f fd) (b : ∃ ds, Vals [.bl false, .int 200] ds ∧ Binds K fd ["words", "hole", "most"] ds) (T : Bt mg) (C : Cs K mg) (gT : mg "is_token" = some (.ref fT)) (FT : DefOk P w K mg base 2 fT [] fsIsToken) :
    DefOk P w K mg base 3 f [.bl false, .int 200] fsCheck := by
  refine fn_okD F scCheck b (fun _ => rfl) fun ⟨tup, ws⟩ cdv A outer s G H D EE hr hp hf hn => ?_
  have hp : okWords ws ∧ ws.length ≤ 200 := hp
  have hr2 : Room 2 _ := hr
  have isl : CallE (cxD P w K mg base ["words", "hole", "most", "word"] "check_words" sCheck f cdv A outer s H EE) (.builtin "isinstance") [sWs tup ws, sTupX [sVal (.ty "list"), sVal (.ty "tuple")]] (sBl true) := by
    cases tup with
    | false => exact c_isi2 ty_lst (kitAny_cons (b := true) (kit_ty (by decide +kernel)) (fun h => nomatch h) fun _ => rfl)
    | true => exact c_isi2 ty_tupl (kitAny_cons (b := false) (kit_ty (by decide +kernel)) (fun _ => kitAny_cons (b := true) (kit_ty (by decide +kernel)) (fun h => nomatch h) fun _ => rfl) fun h => nomatch h)
  have len : CallE (cxD P w K mg base ["words", "hole", "most", "word"] "check_words" sCheck f cdv A outer s H EE) (.builtin "len") [sWs tup ws] (sInt ws.length) := by
    cases tup with
    | false => exact c_len
    | true => exact c_lenT
  refine j_if (O1 := []) (u := false) (t_eq (t_w (tw_or2 (t_not (t_val (e_callB isl C.isi (by decide +kernel) (ea_cons (e_name 0) (ea_cons (e_tupX (ea_cons (e_ty "list" C.list (by decide +kernel)) (ea_cons (e_ty "tuple" C.tuple (by decide +kernel)) ea_nil)) (by decide)) ea_nil)))))
    (tw_or1 (t_w (tw_and2 (t_cmp o_notI (e_name 2) e_non) (tw_and1 (t_cmp o_gt (e_callB len T.len PySem.boot_len (ea_cons (e_name 0) ea_nil)) (e_name 2)))))))) (by simp; omega)) (fun h => nomatch h) (fun _ => j_on ?_)
  refine j_for (O1 := []) (R := sStr) (as := ws) (fun n (g : Unit) => True) (fun _ => [some (sWs tup ws), some (sBl false), some (sInt 200), none]) (fun _ => []) (fun y => [(3, sStr y)]) ?_ (tg_name 3 scCheck.nd) ⟨(), trivial, fun _ _ _ _ h => h⟩ ?_ ?_
  · cases tup with
    | false => exact it_lst (e_name 0)
    | true => exact it_tupl (e_name 0)
  · rintro B1 n y ⟨⟩ hB hy -
    have hm : y ∈ ws := List.mem_of_getElem? hy
    have ht := hp.1 y hm
    refine j_if (O1 := []) (u := false) (t_w (tw_andF (t_eq (t_not (t_val (e_call (O2 := []) y FT hr2 gT (ea_cons (e_name 3) ea_nil) (by exact ht.2)))) ?_))) (fun h => nomatch h) (fun _ => j_on (j_nil fun σ G H st => ⟨(), G, trivial, st.wk (.same (.same (.same (.skip .nil))))⟩))
    show (!isToken y) = false
    rw [ht.1]
    rfl
  · rintro ⟨⟩ -
    exact fin_end hf hn fun w hw => hw
end
end K51

namespace K51
open PySem L2 Gd
abbrev sInit : Stmt := inClass (top 17) 0
abbrev sEq : Stmt := inClass (top 17) 1
abbrev sLen : Stmt := inClass (top 17) 2
abbrev sBool : Stmt := inClass (top 17) 3
abbrev sCall : Stmt := inClass (top 17) 4
abbrev sAdd : Stmt := inClass (top 17) 5
abbrev sGrowth : Stmt := inClass (top 17) 6
abbrev sUndone : Stmt := inClass (top 17) 7
/-- an edit -/
structure Ed where
  first : Int
  last : Int
  words : List Str
  deriving DecidableEq
abbrev edTab (e : Ed) : List (Str × Slot) := [("first", sInt e.first), ("last", sInt e.last), ("words", sTupl sStr e.words)]
abbrev sEd (C : Addr) (e : Ed) : Slot := sIns C (edTab e)
def Ed.ok (e : Ed) : Prop := (0 ≤ e.first ∧ e.first ≤ e.last) ∧ okWords e.words ∧ e.words.length ≤ 100000
/-- what the class's own facts are -/
structure EdC (K : Fg) (mg : Str → Option Value) (C : Addr) : Prop where
  cl : Cls K C
  nF : NoAttr K C "first"
  nL : NoAttr K C "last"
  nW : NoAttr K C "words"
  gC : mg "Edit" = some (.ref C)
section
variable {P : Program} {w : World} {K : Fg} {mg : Str → Option Value} {base : Heap} {C : Addr}
theorem scInit : FnScope ["self", "first", "last", "words", "one", "word"] ["self", "first", "last", "words"] (defScope sInit) := ⟨rfl, rfl, rfl, by decide +kernel, rfl, by decide +kernel, by decide +kernel⟩
def fsInit (C : Addr) : FS (Addr × Ed × Bool) := { args := fun i => [sRef i.1, sInt i.2.1.first, sInt i.2.1.last, sWs i.2.2 i.2.1.words], pre := fun i => i.2.1.ok, own := fun i => [oIns i.1 C []], res := fun _ => sNon, own' := fun i => [oIns i.1 C (edTab i.2.1)] }
theorem ok_init {f fT : Addr} {fd : FuncData} (F : Fun K "__init__" "Edit.__init__" sInit f fd) (b : Binds K fd ["self", "first", "last", "words"] []) (Cc : Cs K mg) (EC : EdC K mg C) (gT : mg "is_token" = some (.ref fT)) (FT : DefOk P w K mg base 2 fT [] fsIsToken) : DefOk P w K mg base 3 f [] (fsInit C) := by
  refine fn_ok F scInit b .nil (fun _ => rfl) fun ⟨x, e, tup⟩ cdv A outer s G H D EE hr hp hf hn => ?_
  have hp : e.ok := hp
  have hr2 : Room 2 _ := hr
  have hz : e.words.length ≤ sizeLine := Nat.le_trans hp.2.2 (by decide)
  have isl : CallE (cxD P w K mg base ["self", "first", "last", "words", "one", "word"] "Edit.__init__" sInit f cdv A outer s H EE) (.builtin "isinstance") [sWs tup e.words, sTupX [sVal (.ty "list"), sVal (.ty "tuple")]] (sBl true) := by
    cases tup with
    | false => exact c_isi2 ty_lst (kitAny_cons (b := true) (kit_ty (by decide +kernel)) (fun h => nomatch h) fun _ => rfl)
    | true => exact c_isi2 ty_tupl (kitAny_cons (b := false) (kit_ty (by decide +kernel)) (fun _ => kitAny_cons (b := true) (kit_ty (by decide +kernel)) (fun h => nomatch h) fun _ => rfl) fun h => nomatch h)
  -- not all([isinstance(one, int) and not isinstance(one, bool) ..])
  refine j_if (O1 := [oIns x C []]) (u := false) (t_eq (t_not (t_val (e_callB c_all Cc.all (by decide +kernel) (ea_cons (e_lst (ew_map (R := sInt) (S := sBl) (as := [e.first, e.last]) 4 (fun _ => true) scInit.nd (it_tupl (e_tupl (el_cons (e_name 1) (el_cons (e_name 2) el_nil)) (szl (by simp))))
    (blkOk_by (own := [("one", 4)]) (N := ["self", "first", "last", "words", "one", "word"]) (sc := defScope sInit) (by decide +kernel)) (fun y hy _ _ _ _ _ => ?_) (szl (by simp)))) ea_nil)))) (by rfl)) (fun h => nomatch h) (fun _ => j_on ?_)
  · exact e_and2 (e_callB (c_isi (n := "int") (k := true) ty_int (kit_ty (by decide +kernel))) Cc.isi (by decide +kernel) (ea_cons (e_name 4) (ea_cons (e_ty "int" Cc.int (by decide +kernel)) ea_nil)))
      (e_one (e_not (e_callB (c_isi (n := "bool") (k := false) ty_int (kit_ty (by decide +kernel))) Cc.isi (by decide +kernel) (ea_cons (e_name 4) (ea_cons (e_ty "bool" Cc.bool (by decide +kernel)) ea_nil)))))
  -- not 0 <= first <= last or ..
  refine j_if (O1 := [oIns x C []]) (u := false) (t_eq (t_w (tw_or2 (t_not (t_chain o_le (fun _ => o_le) e_int (e_name 1) (e_name 2))) (tw_or1 (t_not (t_val (e_callB isl Cc.isi (by decide +kernel) (ea_cons (e_name 3) (ea_cons (e_tupX (ea_cons (e_ty "list" Cc.list (by decide +kernel)) (ea_cons (e_ty "tuple" Cc.tuple (by decide +kernel)) ea_nil)) (by decide)) ea_nil)))))))) (by
    simp [hp.1.1, hp.1.2])) (fun h => nomatch h) (fun _ => j_on ?_)
  -- not all([is_token(word) ..])
  refine j_if (O1 := [oIns x C []]) (u := false) (t_eq (t_not (t_val (e_callB c_all Cc.all (by decide +kernel) (ea_cons (e_lst (ew_map (R := sStr) (S := sBl) (as := e.words) 5 (fun t => isToken t) scInit.nd ?_
    (blkOk_by (own := [("word", 5)]) (N := ["self", "first", "last", "words", "one", "word"]) (sc := defScope sInit) (by decide +kernel)) (fun y hy _ _ _ _ _ => ?_) hz)) ea_nil)))) ?_) (fun h => nomatch h) (fun _ => j_on ?_)
  · cases tup with
    | false => exact it_lst (e_name 3)
    | true => exact it_tupl (e_name 3)
  · exact e_callR (S := fsIsToken) (O2 := [oIns x C []]) y FT hr2 gT (ea_cons (e_name 5) ea_nil) (by exact (hp.2.1 y hy).2)
  · have : (List.map (fun t => isToken t) e.words).all id = true := by
      rw [List.all_map, List.all_eq_true]
      exact fun t ht => (hp.2.1 t ht).1
    rw [this]
    rfl
  refine j_fld (O1 := [oIns x C []]) (O2 := [oIns x C []]) 0 (e_name 1) (e_name 0) EC.cl EC.nF ?_
  refine j_fld (O1 := [oIns x C [("first", sInt e.first)]]) (O2 := [oIns x C [("first", sInt e.first)]]) 0 (e_name 2) (e_name 0) EC.cl EC.nL ?_
  refine j_fld (s := sTupl sStr e.words) (O1 := [oIns x C [("first", sInt e.first), ("last", sInt e.last)]]) (O2 := [oIns x C [("first", sInt e.first), ("last", sInt e.last)]]) 0 (e_callTy (id := "tuple") (ss := [sWs tup e.words]) ?_ Cc.tuple (by decide +kernel) (ea_cons (e_name 3) ea_nil)) (e_name 0) EC.cl EC.nW ?_
  · cases tup with
    | false => exact c_tuple
    | true => exact c_tupleT
  exact fin_end hf hn fun w hw => hw
end
end K51

namespace Gd
open PySem L2
section
variable {X : Cx} {B : Bs} {δ : List (Option Slot)} {O O1 O2 : List Own} {s s1 s2 s3 : Slot} {D : Ends} {rest : List Stmt} {a b : Expr}
/-- a, b = x, y -/
theorem j_par {x y : Str} {px py pt pos pt2 : Pos} {kt k2} (i j : Nat) (ha : E X δ O a s1 O1) (hb : E X δ O1 b s2 O2) (q : J X B ((δ.set i (some s1)).set j (some s2)) O2 rest D) (hN : X.N.Nodup) (hi : X.N[i]? = some x := by rfl) (hj : X.N[j]? = some y := by rfl) (hij : i ≠ j := by decide) (hc : X.calm = true := by rfl)
    (hx : X.env.scope.names.lookup x = some .local := by rfl) (hy : X.env.scope.names.lookup y = some .local := by rfl) (h1 : noStar a = true := by rfl) (h2 : noStar b = true := by rfl)
    (hw : swappedStores [.Tuple [.Name x px, .Name y py] kt pt] (.Tuple [a, b] k2 pt2) X.env = pure (some [x, y]) := by rfl) (hs : swapsWithSole [.Tuple [.Name x px, .Name y py] kt pt] (.Tuple [a, b] k2 pt2) pos.line X.env = pure false := by rfl) :
    J X B δ O (.Assign [.Tuple [.Name x px, .Name y py] kt pt] (.Tuple [a, b] k2 pt2) pos :: rest) D :=
  j_cons fun σ G H st => s_of (ps_par hc hN hi hj hij hx hy (pa_cons pe_w (pa_cons pe_w pa_nil (starEach_plain h2)) (starEach_plain h1)) hw hs)
    (ha B σ G H _ st fun v G1 H1 m1 st1 hv => hb B σ G1 H1 _ st1 fun w G2 H2 m2 st2 hw2 => ⟨v, w, rfl, q _ G2 H2 ((st2.set (s1.mono m2 hv)).set hw2)⟩)
/-- a, b = x, a new object -/
theorem j_parW {x y : Str} {px py pt pos pt2 : Pos} {kt k2} {φ : Addr → Own} (i j : Nat) (ha : E X δ O a s1 O1) (hb : EW X δ O1 b φ O2) (q : ∀ r, B.H r = none → J X B ((δ.set i (some s1)).set j (some (sRef r))) (φ r :: O2) rest D) (hN : X.N.Nodup) (hi : X.N[i]? = some x := by rfl) (hj : X.N[j]? = some y := by rfl) (hij : i ≠ j := by decide) (hc : X.calm = true := by rfl)
    (hx : X.env.scope.names.lookup x = some .local := by rfl) (hy : X.env.scope.names.lookup y = some .local := by rfl) (h1 : noStar a = true := by rfl) (h2 : noStar b = true := by rfl)
    (hw : swappedStores [.Tuple [.Name x px, .Name y py] kt pt] (.Tuple [a, b] k2 pt2) X.env = pure (some [x, y]) := by rfl) (hs : swapsWithSole [.Tuple [.Name x px, .Name y py] kt pt] (.Tuple [a, b] k2 pt2) pos.line X.env = pure false := by rfl) :
    J X B δ O (.Assign [.Tuple [.Name x px, .Name y py] kt pt] (.Tuple [a, b] k2 pt2) pos :: rest) D :=
  j_cons fun σ G H st => s_of (ps_par hc hN hi hj hij hx hy (pa_cons pe_w (pa_cons pe_w pa_nil (starEach_plain h2)) (starEach_plain h1)) hw hs)
    (ha B σ G H _ st fun v G1 H1 m1 st1 hv => hb B σ G1 H1 _ st1 fun r G2 H2 hr m2 st2 => ⟨v, .ref r, rfl, q r hr _ G2 H2 ((st2.set (s1.mono m2 hv)).set rfl)⟩)
/-- a, b = a new object, y -/
theorem j_parW1 {x y : Str} {px py pt pos pt2 : Pos} {kt k2} {φ : Addr → Own} (i j : Nat) (ha : EW X δ O a φ O1) (hb : ∀ r, E X δ (φ r :: O1) b s2 (φ r :: O2)) (q : ∀ r, B.H r = none → J X B ((δ.set i (some (sRef r))).set j (some s2)) (φ r :: O2) rest D) (hN : X.N.Nodup) (hi : X.N[i]? = some x := by rfl) (hj : X.N[j]? = some y := by rfl) (hij : i ≠ j := by decide) (hc : X.calm = true := by rfl)
    (hx : X.env.scope.names.lookup x = some .local := by rfl) (hy : X.env.scope.names.lookup y = some .local := by rfl) (h1 : noStar a = true := by rfl) (h2 : noStar b = true := by rfl)
    (hw : swappedStores [.Tuple [.Name x px, .Name y py] kt pt] (.Tuple [a, b] k2 pt2) X.env = pure (some [x, y]) := by rfl) (hs : swapsWithSole [.Tuple [.Name x px, .Name y py] kt pt] (.Tuple [a, b] k2 pt2) pos.line X.env = pure false := by rfl) :
    J X B δ O (.Assign [.Tuple [.Name x px, .Name y py] kt pt] (.Tuple [a, b] k2 pt2) pos :: rest) D :=
  j_cons fun σ G H st => s_of (ps_par hc hN hi hj hij hx hy (pa_cons pe_w (pa_cons pe_w pa_nil (starEach_plain h2)) (starEach_plain h1)) hw hs)
    (ha B σ G H _ st fun r G1 H1 hr m1 st1 => hb r B σ G1 H1 _ st1 fun w G2 H2 m2 st2 hw2 => ⟨.ref r, w, rfl, q r hr _ G2 H2 ((st2.set rfl).set hw2)⟩)
/-- a, b, c = a new object, y, another new object -/
theorem j_par3W {c' : Expr} {x y z : Str} {px py pz pt pos pt2 : Pos} {kt k2} {φ ψ : Addr → Own} (i j l : Nat) (ha : EW X δ O a φ O1) (hb : ∀ r, E X δ (φ r :: O1) b s2 (φ r :: O2)) (hd : ∀ r, EW X δ (φ r :: O2) c' ψ (φ r :: O2)) (q : ∀ r t, B.H r = none → B.H t = none → J X B (((δ.set i (some (sRef r))).set j (some s2)).set l (some (sRef t))) (ψ t :: φ r :: O2) rest D) (hN : X.N.Nodup)
    (hi : X.N[i]? = some x := by rfl) (hj : X.N[j]? = some y := by rfl) (hl : X.N[l]? = some z := by rfl) (hij : i ≠ j := by decide) (hil : i ≠ l := by decide) (hjl : j ≠ l := by decide) (hc : X.calm = true := by rfl)
    (hx : X.env.scope.names.lookup x = some .local := by rfl) (hy : X.env.scope.names.lookup y = some .local := by rfl) (hz : X.env.scope.names.lookup z = some .local := by rfl) (h1 : noStar a = true := by rfl) (h2 : noStar b = true := by rfl) (h3 : noStar c' = true := by rfl)
    (hw : swappedStores [.Tuple [.Name x px, .Name y py, .Name z pz] kt pt] (.Tuple [a, b, c'] k2 pt2) X.env = pure (some [x, y, z]) := by rfl) (hs : swapsWithSole [.Tuple [.Name x px, .Name y py, .Name z pz] kt pt] (.Tuple [a, b, c'] k2 pt2) pos.line X.env = pure false := by rfl) :
    J X B δ O (.Assign [.Tuple [.Name x px, .Name y py, .Name z pz] kt pt] (.Tuple [a, b, c'] k2 pt2) pos :: rest) D :=
  j_cons fun σ G H st => s_of (ps_par3 hc hN hi hj hl hij hil hjl hx hy hz (pa_cons pe_w (pa_cons pe_w (pa_cons pe_w pa_nil (starEach_plain h3)) (starEach_plain h2)) (starEach_plain h1)) hw hs)
    (ha B σ G H _ st fun r G1 H1 hr m1 st1 => hb r B σ G1 H1 _ st1 fun w G2 H2 m2 st2 hw2 => hd r B σ G2 H2 _ st2 fun t G3 H3 ht m3 st3 => ⟨.ref r, w, .ref t, rfl, q r t hr ht _ G3 H3 (((st3.set rfl).set (s2.mono m3 hw2)).set rfl)⟩)
theorem Sta.drop2 {K : Fg} {w1 w2 w3 : Own} {σ : SS} {G H : Hp} (st : Sta K B δ [w1, w2, w3] σ G H) : Sta K B δ [w1, w3] σ G H := st.perm (fun w hw => by
    simp only [List.mem_cons, List.not_mem_nil, or_false] at hw ⊢
    rcases hw with h | h
    · exact .inl h
    · exact .inr (.inr h)) (by
    have nd := st.nd
    simp only [List.map_cons, List.map_nil, List.nodup_cons, List.mem_cons, List.not_mem_nil, or_false, not_or, not_false_eq_true, List.nodup_nil, and_true] at nd ⊢
    exact nd.1.2)
/-- two owned objects, the other way round -/
theorem j_swap {w1 w2 : Own} {sts : List Stmt} (h : J X B δ [w2, w1] sts D) : J X B δ [w1, w2] sts D :=
  j_perm _ h (fun w hw => by simp only [List.mem_cons, List.not_mem_nil, or_false] at hw ⊢; exact hw.symm) fun nd => by
    simp only [List.map_cons, List.map_nil, List.nodup_cons, List.mem_singleton, List.not_mem_nil, not_false_eq_true, List.nodup_nil, and_true] at nd ⊢
    exact fun e => nd e.symm
/-- two truth values, != -/
theorem neB_dec {u v : Bool} : (!decide (u = v)) = (u != v) := by cases u <;> cases v <;> rfl
/-- THE RULE for the law's own def: as fn_ok, its record kept in sight -/
theorem fn_okF {P : Program} {w : World} {K : Fg} {mg : Str → Option Value} {base : Heap} {x qual : Str} {st : Stmt} {f : Addr} {fd : FuncData} {N ps : List Str} {k : Nat} {ι : Type} {S : FS ι} (F : Fun K x qual st f fd) (sc : FnScope N ps (defScope st))
    (hl : ∀ i, (S.args i).length = ps.length)
    (h : ∀ (i : ι) (cdv : Value) (A : Around) (outer : List Env) (s : Shared) (G H : Hp) (D : Ends) (EE : XK), Room k (cxD P w K mg base N qual st f cdv A outer s H EE).A → S.pre i → Fin K ⟨(S.own i).map (·.p), G, H⟩ S i D → (∀ σ H', D.nx σ H' = D.rt .non H') →
      J (cxD P w K mg base N qual st f cdv A outer s H EE) ⟨(S.own i).map (·.p), G, H⟩ ((S.args i).map some ++ List.replicate (N.length - (S.args i).length) none) (S.own i) (defBody st) D) :
    FnOk P w K mg base CX0 (k + 1) f fd ps (S.sp K) := by
  refine F.ok sc (fun vs H Q EE hsp => ?_) (fun cdv A outer s H vs Q EE hr hsp => ?_)
  · obtain ⟨i, G, _, _, ha, _⟩ := hsp
    rw [ha.length, hl]
  · obtain ⟨i, G, hp, hgh, ha, how, hnd, hq⟩ := hsp
    refine ⟨_, pss_w, ?_⟩
    have hN : ps.length ≤ N.length := by have := congrArg List.length sc.pre; rw [List.length_take] at this; omega
    refine h i cdv A outer s G H { nx := fun _ H' => Q .non H', rt := Q } EE hr hp (fun v G' H' t ow hv => hq v G' H' t ow hv) (fun _ _ => rfl) _ G H ⟨Stp.refl hgh, env_start N ha, ?_, how, fun w hw => .inl (List.mem_map.mpr ⟨w, hw, rfl⟩), hnd⟩
    unfold L2.start
    rw [List.length_append, List.length_append, List.length_map, List.length_map, List.length_replicate, List.length_replicate, ha.length]
end
end Gd

/-! More rules: triples as targets, enumerate, owned lists read, popped, lengthened, copied; methods of owned instances -/
namespace Gd
open PySem L2
section
variable {X : Cx} {B B1 : Bs} {δ δ' : List (Option Slot)} {O O1 O2 O3 : List Own} {a b c e o : Expr} {es : List Expr} {x : Str} {p pos apos : Pos} {s s1 s2 s3 : Slot} {ss : List Slot} {α β : Type} {R : α → Slot} {S : β → Slot} {D : Ends} {rest sts : List Stmt} {u : Bool} {q : Addr} {as : List α}
theorem alls3 {K : Fg} {G : Hp} {vs : List V} (h : AllS K G vs [s1, s2, s3]) : ∃ v w z, vs = [v, w, z] ∧ s1.ok K G v ∧ s2.ok K G w ∧ s3.ok K G z := by
  cases h with
  | cons h1 t =>
    obtain ⟨w, z, rfl, h2, h3⟩ := alls2 t
    exact ⟨_, w, z, rfl, h1, h2, h3⟩
theorem tg_tup3 (i j l : Nat) {x1 x2 x3 : Str} {p1 p2 p3 p4 : Pos} {kk : Nat} {r1 r2 r3 : α → Slot} (hN : X.N.Nodup) (hi : X.N[i]? = some x1 := by rfl) (hj : X.N[j]? = some x2 := by rfl) (hl : X.N[l]? = some x3 := by rfl) (hx1 : Loc X.env.scope x1 := by first | exact Or.inl rfl | exact Or.inr rfl) (hx2 : Loc X.env.scope x2 := by first | exact Or.inl rfl | exact Or.inr rfl) (hx3 : Loc X.env.scope x3 := by first | exact Or.inl rfl | exact Or.inr rfl)
    (hf1 : X.fn x1 = true ∨ X.env.scope.names.lookup x1 = some .local := by first | exact .inl rfl | exact .inr rfl) (hf2 : X.fn x2 = true ∨ X.env.scope.names.lookup x2 = some .local := by first | exact .inl rfl | exact .inr rfl) (hf3 : X.fn x3 = true ∨ X.env.scope.names.lookup x3 = some .local := by first | exact .inl rfl | exact .inr rfl) (hc : X.calm = true := by rfl) :
    TGu X (.Tuple [.Name x1 p1, .Name x2 p2, .Name x3 p3] kk p4) (fun y => sTup [r1 y, r2 y, r3 y]) (fun y => [(i, r1 y), (j, r2 y), (l, r3 y)]) :=
  ⟨_, pg_tup hc (pgs_cons (pg_name hN hi hx1 hf1) (pgs_cons (pg_name hN hj hx2 hf2) (pgs_cons (pg_name hN hl hx3 hf3) pgs_nil))), fun B δ O σ G H y v Q st hv k => by
    obtain ⟨p, vs, rfl, hp, h⟩ := hv
    obtain ⟨v1, v2, v3, rfl, e1, e2, e3⟩ := alls3 h
    exact ⟨p, _, rfl, sqT_up st.stp.gh hp, rfl, v1, [v2, v3], rfl, v2, [v3], rfl, v3, [], rfl, rfl, k _ (((st.set e1).set e2).set e3)⟩⟩
/-- enumerate(xs) -/
theorem it_enum {elts : List Expr} {kk : Nat} {tpos : Pos} (hm : X.mg "enumerate" = none) (h : E X δ O e (sLst R as) O1) (hg : Gl X "enumerate" := by rfl) (hs : noStar e = true := by rfl) :
    IT X δ O (.Tuple elts kk tpos) (.Call (.Name "enumerate" p) [e] [] pos) (fun y : α × Nat => sTup [sInt (y.2 : Nat), R y.1]) as.zipIdx O1 :=
  ⟨_, pi_enum hg hm (pa_cons pe_w pa_nil (starEach_plain hs)) (starEach_plain hs), fun B σ G H Q st k => h B σ G H _ st fun v G1 H1 m1 st1 hv => by
    obtain ⟨q, vs, rfl, hp, r⟩ := hv
    refine ⟨q, vs, rfl, SqL.of (st1.stp.gh _ _ hp), k _ G1 H1 m1 st1 fun B' δ' O' σ' G' H' i e st' => ⟨fun y hy => ?_, fun hi => ?_⟩⟩
    · have hy2 : as[i]? = some y.1 ∧ y.2 = i := by
        rw [List.getElem?_zipIdx] at hy
        cases z : as[i]? with
        | none => rw [z] at hy; cases hy
        | some w => rw [z] at hy; cases hy; exact ⟨rfl, by simp⟩
      obtain ⟨w, hw, hr⟩ := r.get hy2.1
      have hq : SqL X.K H' q vs := SqL.of (st'.stp.gh _ _ (e _ _ hp))
      refine ⟨⟨vs, w, hq, hw⟩, fun v H'' hy' => ?_⟩
      obtain ⟨T, x, rfl, hT, rfl, hx⟩ := hy'
      have hx := hx vs hq
      rw [hw] at hx
      cases hx
      have sg : Same G' (upd G' T (.tup [.int i, w])) := same_new (gnone st'.stp hT)
      refine ⟨_, sg, st'.freshG hT, T, _, rfl, SqT.of upd_same, .cons ?_ (.cons ((R y.1).mono sg ((R y.1).mono e hr)) .nil)⟩
      rw [hy2.2]
      rfl
    · exact ⟨vs, SqL.of (st'.stp.gh _ _ (e _ _ hp)), by rw [r.length]; rw [List.length_zipIdx] at hi; exact hi⟩⟩
theorem c_lenTup : CallE X (.builtin "len") [sTup ss] (sInt ss.length) :=
  ⟨_, call_len_seq, fun B δ O σ G H Q xs st h k => by
    obtain ⟨v, rfl, p, vs, rfl, hp, r⟩ := alls1 h
    exact ⟨p, vs, rfl, .inr (sqT_up st.stp.gh hp), k _ G H (Same.refl _) st (by rw [r.length]; rfl)⟩⟩
/-- what is known of an owned list -/
theorem own_lst {K : Fg} {σ : SS} {G H : Hp} {jw : Nat} (st : Sta K B δ O σ G H) (hw : O[jw]? = some (oLst q R as)) : ∃ vs, H q = some (.lst vs) ∧ G q = none ∧ All2 K G R vs as := by
  obtain ⟨o1, h1, h2, vs, rfl, r⟩ := st.own _ (List.mem_of_getElem? hw)
  exact ⟨vs, h1, h2, r⟩
/-- xs[i] of an owned list -/
theorem e_ixL {i : Int} {y : α} (jw : Nat) (ha : E X δ O a (sRef q) O1) (hb : E X δ O1 b (sInt i) O2) (h : atI as i = some y) (hw : O2[jw]? = some (oLst q R as) := by rfl) (hs : noSlice b = true := by rfl) : E X δ O (.Subscript a b pos) (R y) O2 := by
  intro B σ G H Q st k
  refine e_of (pe_ix ix_list pe_w pe_w (plainIx_of hs)) ?_
  refine ha B σ G H _ st fun x G1 H1 m1 st1 hx => hb B σ G1 H1 _ st1 fun y' G2 H2 m2 st2 hy => ?_
  cases hx
  cases hy
  obtain ⟨vs, hq, _, r⟩ := own_lst st2 hw
  obtain ⟨u, h1, h2⟩ := atI_all2 r h
  exact ⟨q, vs, i, u, rfl, rfl, SqL.of hq, h1, k _ G2 H2 (m1.trans m2) st2 h2⟩
/-- xs.pop(), xs an owned list -/
theorem e_pop {y : α} (jw : Nat) (ho : E X δ O o (sRef q) O1) (hy : as[as.length - 1]? = some y) (hw : O1[jw]? = some (oLst q R as) := by rfl) (hb : noCall0 o = true := by rfl) (hline : (apos.endLine == pos.line) = true := by rfl) :
    E X δ O (.Call (.Attribute o "pop" apos) [] [] pos) (R y) (O1.set jw (oLst q R as.dropLast)) := by
  intro B σ G H Q st k
  refine e_of (pe_bm0 PySem.F.plainAttrs_list PySem.F.slot_list_pop PySem.F.type_list_pop mt_pop pe_w (attributeBase_plain hb) hline) ?_
  refine ho B σ G H _ st fun v G1 H1 m1 st1 hv => ?_
  cases hv
  obtain ⟨vs, hq, _, r⟩ := own_lst st1 hw
  obtain ⟨w, h1, h2⟩ := r.get hy
  refine ⟨.inl ⟨rfl, _, SqL.of hq⟩, q, vs, w, rfl, rfl, hq, by rw [r.length]; exact h1, ?_⟩
  exact k _ G1 _ m1 (st1.putI (w' := oLst q R as.dropLast) hw rfl ⟨_, rfl, r.dropLast⟩) h2
/-- xs.extend(ys), xs an owned list -/
theorem e_extend {bs : List α} (jw : Nat) (ho : E X δ O o (sRef q) O1) (he : E X δ O1 e (sLst R bs) O2) (hz : as.length + bs.length ≤ sizeLine) (hw1 : O1[jw]? = some (oLst q R as) := by rfl) (hw : O2[jw]? = some (oLst q R as) := by rfl)
    (hbase : noCall0 o = true := by rfl)
    (hfew : ((backTo pos (starEach (e :: []) X.env)).all (fun x => !x.1) && (backToKw pos (keywordEach [] X.env)).all (fun x => x.1.isSome)
      && decide ((e :: []).length + ([] : List Keyword).length + (if ([] : List Keyword).isEmpty then 0 else 1) < 30)) = true := by rfl)
    (hline : (apos.endLine == pos.line) = true := by rfl) (hs : noStar e = true := by rfl) (hplain : (backTo pos (starEach [] X.env)).any (·.1) = false := by rfl) :
    E X δ O (.Call (.Attribute o "extend" apos) [e] [] pos) sNon (O2.set jw (oLst q R (as ++ bs))) := by
  intro B σ G H Q st k
  refine e_of (pe_bm PySem.F.plainAttrs_list PySem.F.slot_list_extend PySem.F.type_list_extend mt_extend pe_w (pa_cons pe_w pa_nil (starEach_plain hs)) (attributeBase_plain hbase) hfew hline (starEach_plain hs) hplain) ?_
  refine ho B σ G H _ st fun v G1 H1 m1 st1 hv => ?_
  cases hv
  obtain ⟨vs1, hq1, _, _⟩ := own_lst st1 hw1
  refine ⟨.inl ⟨rfl, _, SqL.of hq1⟩, ?_⟩
  refine he B σ G1 H1 _ st1 fun w G2 H2 m2 st2 hw2 => ?_
  obtain ⟨vs2, hq2, _, r2⟩ := own_lst st2 hw
  obtain ⟨b2, ws, rfl, hb2, rb⟩ := hw2
  refine ⟨q, b2, vs2, ws, rfl, rfl, hq2, st2.stp.gh _ _ hb2, by rw [r2.length, rb.length]; exact hz, ?_⟩
  exact k _ G2 _ (m1.trans m2) (st2.putI (w' := oLst q R (as ++ bs)) hw rfl ⟨_, rfl, r2.append rb⟩) rfl
/-- len(xs), tuple(xs), list(xs), xs an owned list -/
theorem e_lenO (jw : Nat) (hm : X.mg "len" = none) (ho : E X δ O e (sRef q) O1) (hw : O1[jw]? = some (oLst q R as) := by rfl) (hg : Gl X "len" := by rfl) (hs : noStar e = true := by rfl) : E X δ O (.Call (.Name "len" p) [e] [] pos) (sInt as.length) O1 := by
  intro B σ G H Q st k
  refine e_of (pe_callB call_len_seq hg hm PySem.boot_len (pa_cons pe_w pa_nil (starEach_plain hs)) (by decide) (by decide) (starEach_plain hs) rfl) ?_
  refine ho B σ G H _ st fun v G1 H1 m1 st1 hv => ?_
  cases hv
  obtain ⟨vs, hq, _, r⟩ := own_lst st1 hw
  exact ⟨q, vs, rfl, .inl (SqL.of hq), k _ G1 H1 m1 st1 (by rw [r.length]; rfl)⟩
theorem e_tupleO (jw : Nat) (hm : X.mg "tuple" = none) (ho : E X δ O e (sRef q) O1) (hw : O1[jw]? = some (oLst q R as) := by rfl) (hg : Gl X "tuple" := by rfl) (hs : noStar e = true := by rfl) : E X δ O (.Call (.Name "tuple" p) [e] [] pos) (sTupl R as) O1 := by
  intro B σ G H Q st k
  refine e_of (pe_callTy call_tuple_of hg hm (by decide +kernel) (pa_cons pe_w pa_nil (starEach_plain hs)) (by decide) (by decide) (starEach_plain hs) rfl) ?_
  refine ho B σ G H _ st fun v G1 H1 m1 st1 hv => ?_
  cases hv
  obtain ⟨vs, hq, _, r⟩ := own_lst st1 hw
  refine ⟨q, vs, rfl, .inl ⟨SqL.of hq, fun l hl => ?_⟩⟩
  have sg : Same G1 (upd G1 l (.tup vs)) := same_new (gnone st1.stp hl)
  exact k _ _ _ (m1.trans sg) (st1.freshG hl) ⟨l, vs, rfl, SqT.of upd_same, r.mono sg⟩
theorem ew_listO (jw : Nat) (hm : X.mg "list" = none) (ho : E X δ O e (sRef q) O1) (hw : O1[jw]? = some (oLst q R as) := by rfl) (hg : Gl X "list" := by rfl) (hs : noStar e = true := by rfl) : EW X δ O (.Call (.Name "list" p) [e] [] pos) (fun r => oLst r R as) O1 := by
  intro B σ G H Q st k
  refine e_of (pe_callTy call_list_of hg hm (by decide +kernel) (pa_cons pe_w pa_nil (starEach_plain hs)) (by decide) (by decide) (starEach_plain hs) rfl) ?_
  refine ho B σ G H _ st fun v G1 H1 m1 st1 hv => ?_
  cases hv
  obtain ⟨vs, hq, _, r⟩ := own_lst st1 hw
  exact ⟨q, vs, rfl, .inl (SqL.of hq), fun l hl => k l G1 _ (none_of st1 hl) m1 (st1.freshO (w := oLst l R as) hl rfl ⟨vs, rfl, r⟩)⟩
theorem dpAll_up {K : Fg} {G H : Hp} (e : Same G H) : ∀ {vs : List V} {ds : List PyData}, DpAll K G vs ds → DpAll K H vs ds
  | _, _, .nil => .nil
  | _, _, .cons h t => .cons (dp_up e _ _ h) (dpAll_up e t)
/-- xs != [], xs an owned list of things that are data -/
theorem t_neNil {d : α → PyData} {k : Nat} (jw : Nat) (hr : Room k X.A) (hd : ∀ a, IsD (R a) (d a)) (ho : E X δ O e (sRef q) O1) (hsh : SeqAt.shaped (.list (as.map d)) = true) (hw : O1[jw]? = some (oLst q R as) := by rfl) {p2 : Pos} :
    T X δ O (.Compare e [.NotEq] [.List [] p2] pos) (!as.isEmpty) O1 := by
  intro B σ G H Q st k
  refine t_of (pt_cmpR (op_neD hr.units) pe_w pe_w (nomark _)) ?_
  refine ho B σ G H _ st fun v G1 H1 m1 st1 hv => ?_
  cases hv
  refine (ew_lst (R := R) (as := ([] : List α)) el_nil (Nat.zero_le _)) B σ G1 H1 _ st1 fun r G2 H2 hr2 m2 st2 => ?_
  have hw2 : (oLst r R ([] : List α) :: O1)[jw + 1]? = some (oLst q R as) := hw
  obtain ⟨vs, hq, _, r1⟩ := own_lst st2 hw2
  obtain ⟨ws, hq0, _, r0⟩ := own_lst (jw := 0) st2 rfl
  refine ⟨.list (as.map d), .list [], .lst (SqL.of hq) (dpAll_up st2.stp.gh (dpAll hd r1)), ?_, hsh, rfl, _, rfl, ?_⟩
  · cases r0
    exact .lst (SqL.of hq0) .nil
  · have e0 : (!PyData.eqv (.list (as.map d)) (.list [])) = !as.isEmpty := by cases as <;> simp [PyData.eqv, PyData.eqvAll]
    rw [e0]
    exact k G2 H2 (m1.trans m2) (st2.perm (fun w hw => List.mem_cons_of_mem _ hw) (by have := st2.nd; rw [List.map_cons] at this; exact (List.nodup_cons.mp this).2))
end
end Gd

/-! Defs that hand back new owned objects (FSX); owned instances: methods, fields stored anew, lists of theirs -/
namespace Gd
open PySem L2
structure FSX (ι η : Type) where
  args : ι → List Slot
  pre : ι → Prop := fun _ => True
  own : ι → List Own := fun _ => []
  res : ι → η → Slot
  own' : ι → η → List Own := fun _ _ => []
def FSX.sp {ι η : Type} (S : FSX ι η) (K : Fg) : Sp := fun vs H Q _ => ∃ (i : ι) (G : Hp), S.pre i ∧ Same G H ∧ AllS K G vs (S.args i) ∧ (∀ w ∈ S.own i, ∃ o, H w.p = some o ∧ G w.p = none ∧ w.φ K G o) ∧ ((S.own i).map (·.p)).Nodup ∧
  ∀ e v G' H', Stp ⟨(S.own i).map (·.p), G, H⟩ G' H' → (∀ w ∈ S.own' i e, ∃ o, H' w.p = some o ∧ G' w.p = none ∧ w.φ K G' o) → (∀ w ∈ S.own' i e, w.p ∈ (S.own i).map (·.p) ∨ H w.p = none) → ((S.own' i e).map (·.p)).Nodup → (S.res i e).ok K G' v → Q v H'
section
variable {X : Cx} {B B1 : Bs} {δ δ' : List (Option Slot)} {O O1 O2 O3 : List Own} {a b c e o : Expr} {es : List Expr} {x m : Str} {p pos apos : Pos} {s s1 s2 s3 : Slot} {ss : List Slot} {α β : Type} {R : α → Slot} {D : Ends} {rest sts : List Stmt} {q C f : Addr} {as bs : List α} {k : Nat} {tab : List (Str × Slot)} {f' : Str}
theorem Sta.ranX {K : Fg} {σ : SS} {G H G' H' : Hp} {W W' : List Own} (s : Sta K B δ (W ++ O) σ G H) (t : Stp ⟨W.map (·.p), G, H⟩ G' H') (ow : ∀ w ∈ W', ∃ o, H' w.p = some o ∧ G' w.p = none ∧ w.φ K G' o)
    (nw : ∀ w ∈ W', w.p ∈ W.map (·.p) ∨ H w.p = none) (nd' : (W'.map (·.p)).Nodup) : Sta K B δ (W' ++ O) σ G' H' := by
  have nd := s.nd
  rw [List.map_append] at nd
  refine ⟨s.stp.trans t fun p hp' => ?_, s.env.mono t.ex, s.len, fun w hw => ?_, fun w hw => ?_, ?_⟩
  · obtain ⟨w, hw, e⟩ := List.mem_map.mp hp'
    rw [← e]; exact s.new w (List.mem_append_left _ hw)
  · rcases List.mem_append.mp hw with hw | hw
    · exact ow w hw
    · obtain ⟨o, h1, h2, h3⟩ := s.own w (List.mem_append_right _ hw)
      have hn : w.p ∉ W.map (·.p) := fun z => (List.nodup_append.mp nd).2.2 _ z _ (List.mem_map.mpr ⟨w, hw, rfl⟩) rfl
      exact ⟨o, t.fr _ _ h1 hn, t.nf _ _ h1 h2, w.mono t.ex h3⟩
  · rcases List.mem_append.mp hw with hw | hw
    · rcases nw w hw with z | z
      · obtain ⟨v, hv, e⟩ := List.mem_map.mp z
        rw [← e]; exact s.new v (List.mem_append_left _ hv)
      · exact .inr (none_of s z)
    · exact s.new w (List.mem_append_right _ hw)
  · (rw [List.map_append, List.nodup_append])
    refine ⟨nd', (List.nodup_append.mp nd).2.1, fun r hr r2 hr2 e => ?_⟩
    subst e
    obtain ⟨w, hw, e1⟩ := List.mem_map.mp hr
    obtain ⟨v, hv, e2⟩ := List.mem_map.mp hr2
    obtain ⟨o, h1, _, _⟩ := s.own v (List.mem_append_right _ hv)
    rcases nw w hw with z | z
    · exact (List.nodup_append.mp nd).2.2 _ z _ (List.mem_map.mpr ⟨v, hv, rfl⟩) (by rw [e1, e2])
    · rw [e1, ← e2, h1] at z; cases z
structure DefOkX (P : Program) (w : World) (K : Fg) (mg : Str → Option Value) (base : Heap) (k : Nat) (f : Addr) (dvs : List V) {ι η : Type} (S : FSX ι η) : Prop where
  ex : ∃ fd ps ds, FnOk P w K mg base CX0 k f fd ps (S.sp K) ∧ Binds K fd ps ds ∧ Vals dvs ds
  kp : PySem.W.keepIn K (.ref f) = true -- -
def FinX (K : Fg) (B : Bs) {ι η : Type} (S : FSX ι η) (i : ι) (D : Ends) : Prop := ∀ e v G' H', Stp B G' H' → (∀ w ∈ S.own' i e, ∃ o, H' w.p = some o ∧ G' w.p = none ∧ w.φ K G' o) → (∀ w ∈ S.own' i e, w.p ∈ B.A ∨ B.H w.p = none) → ((S.own' i e).map (·.p)).Nodup → (S.res i e).ok K G' v → D.rt v H'
theorem fn_okX {P : Program} {w : World} {K : Fg} {mg : Str → Option Value} {base : Heap} {x qual : Str} {st : Stmt} {f : Addr} {fd : FuncData} {N ps : List Str} {k : Nat} {ι η : Type} {S : FSX ι η} {dvs : List V} {ds : List Value} (F : Fun K x qual st f fd) (sc : FnScope N ps (defScope st))
    (hb : Binds K fd ps ds) (hd : Vals dvs ds) (hl : ∀ i, (S.args i).length = ps.length)
    (h : ∀ (i : ι) (cdv : Value) (A : Around) (outer : List Env) (s : Shared) (G H : Hp) (D : Ends) (EE : XK), Room k (cxD P w K mg base N qual st f cdv A outer s H EE).A → S.pre i → FinX K ⟨(S.own i).map (·.p), G, H⟩ S i D → (∀ σ H', D.nx σ H' = D.rt .non H') →
      J (cxD P w K mg base N qual st f cdv A outer s H EE) ⟨(S.own i).map (·.p), G, H⟩ ((S.args i).map some ++ List.replicate (N.length - (S.args i).length) none) (S.own i) (defBody st) D) :
    DefOkX P w K mg base (k + 1) f dvs S := by
  refine ⟨⟨fd, ps, ds, F.ok sc (fun vs H Q EE hsp => ?_) (fun cdv A outer s H vs Q EE hr hsp => ?_), hb, hd⟩, F.kp⟩
  · obtain ⟨i, G, _, _, ha, _⟩ := hsp
    rw [ha.length, hl]
  · obtain ⟨i, G, hp, hgh, ha, how, hnd, hq⟩ := hsp
    refine ⟨_, pss_w, ?_⟩
    have hN : ps.length ≤ N.length := by have := congrArg List.length sc.pre; rw [List.length_take] at this; omega
    refine h i cdv A outer s G H { nx := fun _ H' => Q .non H', rt := Q } EE hr hp (fun e v G' H' t ow nw nd hv => hq e v G' H' t ow nw nd hv) (fun _ _ => rfl) _ G H ⟨Stp.refl hgh, env_start N ha, ?_, how, fun w hw => .inl (List.mem_map.mpr ⟨w, hw, rfl⟩), hnd⟩
    unfold L2.start
    rw [List.length_append, List.length_append, List.length_map, List.length_map, List.length_replicate, List.length_replicate, ha.length]
theorem fin_retX {ι η : Type} {S : FSX ι η} {i : ι} {K : Fg} {O' : List Own} (ex : η) (hf : FinX K B S i D) (ho : S.own' i ex = O') (hs : ∀ G v, s.ok K G v → (S.res i ex).ok K G v) : ∀ v σ G' H', Sta K B δ O' σ G' H' → s.ok K G' v → D.rt v H' :=
  fun v σ G' H' st hv => hf ex v G' H' st.stp (by rw [ho]; exact st.own) (by rw [ho]; exact st.new) (by rw [ho]; exact st.nd) (hs _ _ hv)
theorem fin_endX {ι η : Type} {S : FSX ι η} {i : ι} (ex : η) (hf : FinX X.K B S i D) (hn : ∀ σ H', D.nx σ H' = D.rt .non H') (ho : S.own' i ex = O) (hs : S.res i ex = sNon := by rfl) : J X B δ O [] D :=
  j_nil fun σ G H st => by
    rw [hn]
    exact hf ex .non G H st.stp (by rw [ho]; exact st.own) (by rw [ho]; exact st.new) (by rw [ho]; exact st.nd) (by rw [hs]; rfl)
theorem fsx_use {ι η : Type} {S : FSX ι η} {K : Fg} {G H : Hp} {σ : SS} {Q : VK} {vs : List V} {EE : XK} (j : ι) (hp : S.pre j) (st : Sta K B δ (S.own j ++ O2) σ G H) (ha : AllS K G vs (S.args j))
    (k : ∀ ex v G' H', Same G G' → Sta K B δ (S.own' j ex ++ O2) σ G' H' → (S.res j ex).ok K G' v → Q v H') : S.sp K vs H Q EE := by
  have nd := st.nd
  rw [List.map_append] at nd
  exact ⟨j, G, hp, st.stp.gh, ha, fun w hw => st.own w (List.mem_append_left _ hw), (List.nodup_append.mp nd).1, fun ex v G' H' t ow nw nd' hv => k ex v G' H' t.ex (st.ranX t ow nw nd') hv⟩
/-- y = C(): its __init__ makes further owned objects -/
theorem j_make0 {ι η : Type} {S : FSX ι η} {y : Str} {py cp : Pos} (i : Nat) (j : Addr → ι) (M : Mk X.K C f) (F : DefOkX X.prog X.w X.K X.mg X.base k f [] S) (hr : Room (k + 1) X.A) (hm : X.mg x = some (.ref C)) (hp : ∀ q, S.pre (j q))
    (q : ∀ r ex, B.H r = none → J X B (δ.set i (some (sRef r))) (S.own' (j r) ex ++ O) rest D) (hN : X.N.Nodup) (hss : ∀ q, [sRef q] = S.args (j q) := by intro _; rfl) (ho : ∀ q, S.own (j q) = [oIns q C []] := by intro _; rfl) (hres : ∀ q ex, S.res (j q) ex = sNon := by intro _ _; rfl)
    (hi : X.N[i]? = some y := by rfl) (hx : Loc X.env.scope y := by first | exact Or.inl rfl | exact Or.inr rfl) (hf : X.fn y = true ∨ X.env.scope.names.lookup y = some .local := by first | exact .inl rfl | exact .inr rfl) (hg : Gl X x := by rfl) (hdb : (x == ("__debug__" : Str)) = false := by decide) :
    J X B δ O (.Assign [.Name y py] (.Call (.Name x p) [] [] cp) pos :: rest) D := by
  obtain ⟨⟨fd, ps, ds, F, hb, hd⟩, hk⟩ := F
  refine j_cons fun σ G H st => s_of (ps_set hN hi hx (pe_make0 M F hr hg hm hb hd (E := E0) pass0 hdb) (swaps_plain rfl) hf) ?_
  intro y dx hy hdx hne
  have st2 := st.freshG (o := HO.own y) hdx
  have hy2 : (upd H dx (HO.own y)) y = none := by rw [upd_ne (fun z => hne z.symm)]; exact hy
  have st3 := st2.freshO (w := oIns y C []) (o := .ins C dx []) hy2 rfl (insOk_nil dx)
  have st4 : Sta X.K B δ (S.own (j y) ++ O) σ (upd G dx (HO.own y)) (upd (upd H dx (HO.own y)) y (.ins C dx [])) := by rw [ho]; exact st3
  have hb0 := none_of st hy
  refine fsx_use (j y) (hp y) st4 (by rw [← hss]; exact .cons rfl .nil) fun ex v G' H' m3 st5 hv => ?_
  rw [hres] at hv
  exact ⟨hv, q y ex hb0 _ G' H' (st5.set rfl)⟩
theorem insOk_at {tab tab' : List (Str × Slot)} {K : Fg} {G : Hp} {o : HO} (hk : tab'.map (·.1) = tab.map (·.1)) (hl : tab'.length = tab.length) (h : insOk C tab K G o) (hi : ∀ f s v, (f, s) ∈ tab' → (∀ t, (f, t) ∈ tab → t.ok K G v) → s.ok K G v) (hm : ∀ f s, (f, s) ∈ tab' → ∃ t, (f, t) ∈ tab) : insOk C tab' K G o := by
  obtain ⟨dx, fs, e, hle, h1, h2⟩ := h
  refine ⟨dx, fs, e, by rw [hl]; exact hle, fun f s hf => ?_, fun f hf => h2 f (by rw [← hk]; exact hf)⟩
  obtain ⟨t, ht⟩ := hm f s hf
  obtain ⟨v, e1, _⟩ := h1 f t ht
  refine ⟨v, e1, hi f s v hf fun t' ht' => ?_⟩
  obtain ⟨v', e2, q⟩ := h1 f t' ht'
  rw [e1] at e2
  cases e2
  exact q
/-- an owned list that a field of an owned instance names is frozen -/
theorem j_freezeT {r : Addr} (jt : Nat) (hb : B.H r = none) (h : J X B δ (oIns q C (tab.set jt (f', sLst R as)) :: O) sts D) (hj : tab[jt]? = some (f', sRef r) := by rfl) (hn : (tab.map (·.1)).Nodup := by (try simp only [List.map_cons, List.map_nil]); decide +kernel) : J X B δ (oLst r R as :: oIns q C tab :: O) sts D := fun σ G H st => by
  obtain ⟨o, h1, ⟨vs, e, r2⟩, st1⟩ := st.freeze hb
  have gr : G r = none := by
    obtain ⟨_, _, g, _⟩ := st.own _ List.mem_cons_self
    exact g
  have sg : Same G (upd G r o) := same_new gr
  have hjl : jt < tab.length := by
    rcases Nat.lt_or_ge jt tab.length with z | z
    · exact z
    · rw [List.getElem?_eq_none z] at hj; cases hj
  have keys : (tab.set jt (f', sLst R as)).map (·.1) = tab.map (·.1) := by
    refine List.ext_getElem? fun i => ?_
    (rw [List.getElem?_map, List.getElem?_map])
    by_cases hi : jt = i
    · subst hi; rw [List.getElem?_set_self hjl, hj]; rfl
    · rw [List.getElem?_set_ne hi]
  refine h σ (upd G r o) H ⟨st1.stp, st1.env, st1.len, fun w hw => ?_, fun w hw => ?_, ?_⟩
  · rcases List.mem_cons.mp hw with rfl | hw
    · obtain ⟨o2, g1, g2, g3⟩ := st1.own (oIns q C tab) List.mem_cons_self
      refine ⟨o2, g1, g2, ?_⟩
      obtain ⟨dx, fs, e2, hle, k1, k2⟩ := g3
      refine ⟨dx, fs, e2, by rw [List.length_set]; exact hle, fun g t hg => ?_, fun g hg => k2 g (by rw [← keys]; exact hg)⟩
      obtain ⟨i, hi, e3⟩ := List.getElem_of_mem hg
      have e4 : (tab.set jt (f', sLst R as))[i]? = some (g, t) := by rw [List.getElem?_eq_getElem hi, e3]
      by_cases hij : jt = i
      · subst hij
        rw [List.getElem?_set_self hjl] at e4
        cases e4
        obtain ⟨v, k3, k4⟩ := k1 f' (sRef r) (List.mem_of_getElem? hj)
        cases k4
        exact ⟨_, k3, r, vs, rfl, by rw [← e]; exact upd_same, r2.mono sg⟩
      · rw [List.getElem?_set_ne hij] at e4
        exact k1 g t (List.mem_of_getElem? e4)
    · exact st1.own w (List.mem_cons_of_mem _ hw)
  · rcases List.mem_cons.mp hw with rfl | hw
    · exact st1.new (oIns q C tab) List.mem_cons_self
    · exact st1.new w (List.mem_cons_of_mem _ hw)
  · exact st1.nd
/-- o.m(e, ..), o an owned instance -/
theorem e_methO {ι : Type} {S : FS ι} {pl : Sem Bool} (j : ι) (jw : Nat) (F : DefX X k f [] S) (hr : Room k X.A) (c : Cls X.K C) (hm : Meth X.K C m f) (h : E X δ O o (sRef q) O1) (ha : EA X δ O1 (e :: es) ss (S.own j ++ O2)) (hp : S.pre j)
    (hO : O1[jw]? = some (oIns q C tab) := by rfl) (hss : sRef q :: ss = S.args j := by rfl) (hno : (tab.map (·.1)).contains m = false := by (try simp only [List.map_cons, List.map_nil]); decide +kernel) (hw : (S.own' j).map (·.p) = (S.own j).map (·.p) := by rfl)
    (hst : noStar e = true := by rfl) (hpl : noStars es = true := by rfl)
    (ht : eval (.Call (.Attribute o m apos) (e :: es) [] pos) X.env = (do -- -
      let ov ← eval o X.env
      standAt apos.atName
      let (f, first) ← holding [ov] (getMethod ov m pl) -- -
      callWith pos f first (backTo pos (starEach (e :: es) X.env)) (backToKw pos (keywordEach [] X.env))) := by rfl) : -- -
    E X δ O (.Call (.Attribute o m apos) (e :: es) [] pos) (S.res j) (S.own' j ++ O2) := by
  obtain ⟨⟨fd, ps, ds, F, hb, hd⟩, hk⟩ := F
  intro B σ G H Q st q'
  refine e_of (pe_meth pe_w c hm F hr hb hd (E := E0) pass0 pa_w (starEach_plain hst) (backTo_plain hpl) ht) ?_
  refine h B σ G H _ st fun v G1 H1 m1 st1 hv => ?_
  cases hv
  obtain ⟨o2, hq, _, dx, fs, rfl, _, h1, h2⟩ := st1.own _ (List.mem_of_getElem? hO)
  refine ⟨q, dx, fs, rfl, hq, h2 m (by simpa using hno), ?_⟩
  refine ha B σ G1 H1 _ st1 fun vs G2 H2 m2 st2 hvs => ?_
  rw [List.append_nil]
  exact fs_use j hp st2 (by rw [← hss]; exact .cons rfl hvs) hw fun v G' H' m3 st3 hv => q' v G' H' (m1.trans (m2.trans m3)) st3 hv
theorem e_methO0 {ι : Type} {S : FS ι} {pl : Sem Bool} (j : ι) (jw : Nat) (F : DefX X k f [] S) (hr : Room k X.A) (c : Cls X.K C) (hm : Meth X.K C m f) (h : E X δ O o (sRef q) (S.own j ++ O2)) (hp : S.pre j)
    (hO : (S.own j ++ O2)[jw]? = some (oIns q C tab) := by rfl) (hss : [sRef q] = S.args j := by rfl) (hno : (tab.map (·.1)).contains m = false := by (try simp only [List.map_cons, List.map_nil]); decide +kernel) (hw : (S.own' j).map (·.p) = (S.own j).map (·.p) := by rfl)
    (ht : eval (.Call (.Attribute o m apos) [] [] pos) X.env = (do -- -
      let ov ← eval o X.env
      standAt apos.atName
      let (f, first) ← holding [ov] (getMethod ov m pl) -- -
      callWith pos f first (backTo pos (starEach [] X.env)) (backToKw pos (keywordEach [] X.env))) := by rfl) : -- -
    E X δ O (.Call (.Attribute o m apos) [] [] pos) (S.res j) (S.own' j ++ O2) := by
  obtain ⟨⟨fd, ps, ds, F, hb, hd⟩, hk⟩ := F
  intro B σ G H Q st q'
  refine e_of (pe_meth0 pe_w c hm F hr hb hd (E := E0) pass0 ht) ?_
  refine h B σ G H _ st fun v G1 H1 m1 st1 hv => ?_
  cases hv
  obtain ⟨o2, hq, _, dx, fs, rfl, _, h1, h2⟩ := st1.own _ (List.mem_of_getElem? hO)
  refine ⟨q, dx, fs, rfl, hq, h2 m (by simpa using hno), ?_⟩
  show S.sp X.K (V.ref q :: ([] ++ [])) H1 Q E0
  exact fs_use j hp st1 (by rw [← hss]; exact .cons rfl .nil) hw fun v G' H' m3 st3 hv => q' v G' H' (m1.trans m3) st3 hv
/-- o.f = a new object, o an owned instance -/
theorem j_fldW {g : Str} {tp : Pos} {φ : Addr → Own} (jw : Nat) (hv : EW X δ O e φ O1) (ho : ∀ r, E X δ (φ r :: O1) o (sRef q) (φ r :: O2)) (c : Cls X.K C) (n : NoAttr X.K C g) (k : ∀ r, J X B δ ((φ r :: O2).set (jw + 1) (oIns q C (tab ++ [(g, sRef r)]))) rest D) (hw : O2[jw]? = some (oIns q C tab) := by rfl)
    (hn : (tab.map (·.1)).contains g = false := by (try simp only [List.map_cons, List.map_nil]); decide +kernel) (hl : tab.length < 1000 := by (try simp only [List.length_cons, List.length_nil]); decide) (hs : noCompr e = true := by rfl) : J X B δ O (.Assign [.Attribute o g tp] e pos :: rest) D :=
  j_cons fun σ G H st => s_of (ps_fld pe_w pe_w (swaps_plain hs)) (by
    refine hv B σ G H _ st fun r G1 H1 hb m1 st1 => ?_
    refine ho r B σ G1 H1 _ st1 fun w G2 H2 m2 st2 hw2 => ?_
    cases hw2
    have hw' : (φ r :: O2)[jw + 1]? = some (oIns q C tab) := hw
    obtain ⟨o2, hq2, _, dx, fs, rfl, hle, h1, h2⟩ := st2.own _ (List.mem_of_getElem? hw')
    refine ⟨q, C, dx, fs, rfl, hq2, c, n, Nat.lt_of_le_of_lt hle hl, ?_⟩
    exact k r σ G2 _ (st2.putI (w' := oIns q C (tab ++ [(g, sRef r)])) hw' rfl (insOk_put hn ⟨dx, fs, rfl, hle, h1, h2⟩ rfl)))
theorem putF_len {g : Str} {v y : V} : ∀ {fs : List (Str × V)}, fs.lookup g = some v → (putF g y fs).length = fs.length
  | [], h => by cases h
  | (h', x) :: r, h => by
    unfold putF
    split
    · rfl
    · rename_i ne
      have : (g == h') = false := by simpa using fun z => ne z.symm
      rw [List.lookup_cons, this] at h
      simp [putF_len h]
/-- o.f = e, f a field that stands already -/
theorem j_fldX {g : Str} {s0 : Slot} {tp : Pos} (jw jt : Nat) (hv : E X δ O e s O1) (ho : E X δ O1 o (sRef q) O2) (c : Cls X.K C) (n : NoAttr X.K C g) (k : J X B δ (O2.set jw (oIns q C (tab.set jt (g, s)))) rest D) (hw : O2[jw]? = some (oIns q C tab) := by rfl) (hj : tab[jt]? = some (g, s0) := by rfl)
    (hn : (tab.map (·.1)).Nodup := by (try simp only [List.map_cons, List.map_nil]); decide +kernel) (hl : tab.length < 1000 := by (try simp only [List.length_cons, List.length_nil]); decide) (hs : noCompr e = true := by rfl) : J X B δ O (.Assign [.Attribute o g tp] e pos :: rest) D :=
  j_cons fun σ G H st => s_of (ps_fld pe_w pe_w (swaps_plain hs)) (by
    refine hv B σ G H _ st fun v G1 H1 m1 st1 hv1 => ?_
    refine ho B σ G1 H1 _ st1 fun w G2 H2 m2 st2 hw2 => ?_
    cases hw2
    obtain ⟨o2, hq2, _, dx, fs, rfl, hle, h1, h2⟩ := st2.own _ (List.mem_of_getElem? hw)
    refine ⟨q, C, dx, fs, rfl, hq2, c, n, Nat.lt_of_le_of_lt hle hl, ?_⟩
    obtain ⟨v0, e0, _⟩ := h1 g s0 (List.mem_of_getElem? hj)
    exact k σ G2 _ (st2.putI (w' := oIns q C (tab.set jt (g, s))) hw rfl (insOk_over jt hj hn ⟨dx, fs, rfl, hle, h1, h2⟩ (by rw [putF_len e0]; exact hle) (s.mono m2 hv1))))
end
end Gd

/-! Comprehensions whose target is a tuple of names -/
namespace Gd
open PySem L2
section
variable {X : Cx} {B B1 : Bs} {δ δ' : List (Option Slot)} {O O1 O2 O3 : List Own} {a b c e o : Expr} {es : List Expr} {x : Str} {p pos : Pos} {s s1 s2 s3 : Slot} {ss : List Slot} {α β : Type} {R : α → Slot} {S : β → Slot} {D : Ends} {rest sts : List Stmt} {u : Bool}
/-- [elt for target in iter if ..], any target g that sets the places idx -/
theorem lcg_reading {elt iter : Expr} {ifs : List Expr} {scope : Scope} {own : List (Str × Nat)} {as : List α} {g : TG} (ts : α → List (Nat × Slot)) (idx : List Nat) (htg : ∀ (B : Bs) (δ : List (Option Slot)) (O : List Own) (σ : SS) (G H : Hp) (y : α) (v : V) (Q : SS → Hp → Prop), Sta X.K B δ O σ G H → (R y).ok X.K G v → (∀ σ', Sta X.K B (setD δ (ts y)) O σ' G H → (∀ vs, (∀ i ∈ idx, i ∈ vs) → wipe σ' vs = wipe σ vs) → Q σ' H) → g v σ H Q) (Ωs Ωm : Nat → List Own) (keeps : Nat → Bool) (acc : Nat → List β) {wi : TI} {σ : SS} {G H : Hp} {Q : VK}
    (hin : ∀ i ∈ idx, i ∈ own.map (·.2)) (st : Sta X.K B δ O σ G H)
    (h2 : ∀ (B : Bs) (σ : SS) (G H : Hp) (Q : It → Hp → Prop), Sta X.K B δ O σ G H → (∀ J G' H', Same G G' → Sta X.K B δ (Ωs 0) σ G' H' → Wk X.K G' J R as → Q J H') → wi σ H Q)
    (hts : ∀ k y, as[k]? = some y → ∀ s H C cl fp, TSs (Blk X scope s H C cl fp) (setD (wipeD δ (own.map (·.2))) (ts y)) (Ωs k) ifs (keeps k) (Ωm k))
    (helt : ∀ k y, as[k]? = some y → keeps k = true → ∃ z, acc (k + 1) = acc k ++ [z] ∧ ∀ s H C cl fp, E (Blk X scope s H C cl fp) (setD (wipeD δ (own.map (·.2))) (ts y)) (Ωm k) elt (S z) (Ωs (k + 1)))
    (hskip : ∀ k, k < as.length → keeps k = false → Ωm k = Ωs (k + 1) ∧ acc (k + 1) = acc k) (ha0 : acc 0 = []) (hz : as.length ≤ sizeLine)
    (k : ∀ p G' H', B.H p = none → Same G G' → Sta X.K B δ (oLst p S (acc as.length) :: Ωs as.length) σ G' H' → Q (.ref p) H') :
    tLc wi g (fun σ H Q => ∀ s H0 C cl fp, match ifs with | [] => Q true H | c :: _ => wT (Blk X scope s H0 C cl fp) c σ H Q) (fun σ H Q => ∀ s H0 C cl fp, wE (Blk X scope s H0 C cl fp) elt σ H Q) (own.map (·.2)) σ H Q := by
  refine h2 B σ G H _ st fun Jt G1 H1 m1 st1 wk => ?_
  intro Da hDa
  have hacc : ∀ k, k ≤ as.length → (acc k).length ≤ k := by
    intro k
    induction k with
    | zero => intro _; rw [ha0]; exact Nat.le_refl _
    | succ k ih =>
      intro hk
      have := ih (Nat.le_of_lt hk)
      cases hkk : keeps k with
      | true =>
        obtain ⟨z, e, _⟩ := helt k _ (List.getElem?_eq_getElem hk) hkk
        rw [e, List.length_append]; simp; omega
      | false => rw [(hskip k hk hkk).2]; omega
  refine ⟨fun n m H' => m = as.length - n ∧ n ≤ as.length ∧ ∃ G', Same G1 G' ∧ Sta X.K B δ (oLst Da S (acc n) :: Ωs n) σ G' H', ⟨_, rfl, Nat.zero_le _, G1, Same.refl _, ?_⟩, ?_⟩
  · rw [ha0]
    exact st1.freshO (w := oLst Da S []) hDa rfl ⟨[], rfl, .nil⟩
  · rintro n m H2 ⟨rfl, hn, G2, e2, st2⟩
    obtain ⟨w1, w2⟩ := wk B _ _ σ G2 H2 n e2 st2
    by_cases hlt : n < as.length
    · have hget := List.getElem?_eq_getElem hlt
      obtain ⟨hgo, hy⟩ := w1 as[n] hget
      refine .inr ⟨hgo, fun H' => ∃ G', Same G1 G' ∧ Sta X.K B δ (oLst Da S (acc (n + 1)) :: Ωs (n + 1)) σ G' H', fun H' ⟨G', e', st'⟩ => ⟨as.length - (n + 1), by omega, rfl, hlt, G', e', st'⟩, fun v H3 y3 => ?_⟩
      obtain ⟨G3, e3, st3, r3⟩ := hy v H3 y3
      refine htg B _ _ _ G3 H3 as[n] v _ (st3.wiped (own.map (·.2))) r3 fun σ' st4 hw => ?_
      have wp : wipe σ' (own.map (·.2)) = wipe σ (own.map (·.2)) := by rw [hw _ hin, wipe_wipe _ _ fun _ h => h]
      have back : ∀ {O' : List Own} {G' H' : Hp}, Sta X.K B (setD (wipeD δ (own.map (·.2))) (ts as[n])) O' σ' G' H' → Same G3 G' → Sta X.K B δ O' σ G' H' := fun {O' G' H'} q e => ⟨q.stp, st3.env.mono e, st3.len, q.own, q.new, q.nd⟩
      have rot : ∀ {O' : List Own} {δ' : List (Option Slot)} {σ' : SS} {G' H' : Hp} {w : Own}, Sta X.K B δ' (w :: O') σ' G' H' → Sta X.K B δ' (O' ++ [w]) σ' G' H' := fun {O' δ' σ' G' H' w} q => q.perm (fun v hv => by simp at hv ⊢; exact hv.symm) (by
        have nd := q.nd
        (rw [List.map_cons, List.nodup_cons] at nd)
        (rw [List.map_append, List.nodup_append])
        refine ⟨nd.2, by simp, fun q hq r hr e => nd.1 ?_⟩
        simp at hr
        rw [← hr, ← e]; exact hq)
      have unrot : ∀ {O' : List Own} {δ' : List (Option Slot)} {σ' : SS} {G' H' : Hp} {w : Own}, Sta X.K B δ' (O' ++ [w]) σ' G' H' → Sta X.K B δ' (w :: O') σ' G' H' := fun {O' δ' σ' G' H' w} q => q.perm (fun v hv => by simp at hv ⊢; exact hv.symm) (by
        have nd := q.nd
        rw [List.map_append, List.nodup_append] at nd
        (rw [List.map_cons, List.nodup_cons])
        exact ⟨fun hm => nd.2.2 _ hm _ (by simp) rfl, nd.1⟩)
      refine ⟨wp, ?_⟩
      -- behind the tests
      have elt_ : keeps n = true → ∀ G5 H5, Same G3 G5 → Sta X.K B (setD (wipeD δ (own.map (·.2))) (ts as[n])) (Ωm n ++ [oLst Da S (acc n)]) σ' G5 H5 →
          ∀ s H0 C cl fp, wE (Blk X scope s H0 C cl fp) elt σ' H5 fun y H6 => ∃ ac, H6 Da = some (.lst ac) ∧ ac.length < sizeLine ∧ ∃ G', Same G1 G' ∧ Sta X.K B δ (oLst Da S (acc (n + 1)) :: Ωs (n + 1)) σ G' (upd H6 Da (.lst (ac ++ [y]))) := by
        intro hk G5 H5 e5 st5 s H0 C cl fp
        obtain ⟨zz, ez, helt'⟩ := helt n _ hget hk
        refine e_frame (O := [oLst Da S (acc n)]) (helt' s H0 C cl fp) B _ G5 H5 _ st5 fun y G6 H6 m6 st6 hy6 => ?_
        have st6' := unrot st6
        obtain ⟨o6, h6, _, ac, rfl, r6⟩ := st6'.own _ List.mem_cons_self
        refine ⟨ac, h6, ?_, G6, fun q z w => m6 _ _ (e5 _ _ (e3 _ _ (e2 _ _ w))), ?_⟩
        · rw [r6.length]; exact Nat.lt_of_lt_of_le (Nat.lt_of_le_of_lt (hacc n (Nat.le_of_lt hlt)) hlt) hz
        · rw [ez]
          have st7 := st6'.put (w' := oLst Da S (acc n ++ [zz])) rfl ⟨_, rfl, r6.append (.cons hy6 .nil)⟩
          exact back st7 (e5.trans m6)
      have skip_ : keeps n = false → ∀ G5 H5, Same G3 G5 → Sta X.K B (setD (wipeD δ (own.map (·.2))) (ts as[n])) (Ωm n ++ [oLst Da S (acc n)]) σ' G5 H5 →
          ∃ G', Same G1 G' ∧ Sta X.K B δ (oLst Da S (acc (n + 1)) :: Ωs (n + 1)) σ G' H5 := by
        intro hk G5 H5 e5 st5
        refine ⟨G5, fun q z w => e5 _ _ (e3 _ _ (e2 _ _ w)), ?_⟩
        rw [(hskip n hlt hk).2, ← (hskip n hlt hk).1]
        exact back (unrot st5) e5
      intro s H0 C cl fp
      have hh := hts n _ hget
      cases ifs with
      | nil =>
        have hk : keeps n = true ∧ Ωm n = Ωs n := by
          rcases hh s H0 C cl fp with ⟨_, a, b⟩ | ⟨c, e, _⟩
          · exact ⟨a, b⟩
          · cases e
        refine iteT fun s' H0' C' cl' fp' => elt_ hk.1 G3 H3 (Same.refl _) ?_ s' H0' C' cl' fp'
        rw [hk.2]
        exact rot st4
      | cons c r =>
        rcases hh s H0 C cl fp with ⟨e, _⟩ | ⟨c', e, ht⟩
        · cases e
        · cases e
          refine t_frame (O := [oLst Da S (acc n)]) ht B _ G3 H3 _ (rot st4) fun G5 H5 m5 st5 => ?_
          cases hk : keeps n with
          | true => exact iteT fun s' H0' C' cl' fp' => elt_ hk G5 H5 m5 st5 s' H0' C' cl' fp'
          | false => exact iteF (skip_ hk G5 H5 m5 st5)
    · have e : n = as.length := by omega
      subst e
      exact .inl ⟨w2 (Nat.le_refl _), k Da G2 H2 (none_of st1 hDa) (m1.trans e2) st2⟩
variable {elt iter : Expr} {ifs : List Expr} {scope : Scope} {own : List (Str × Nat)} {as : List α} {px : Pos}
theorem ew_compG {tg : Expr} {g : TG} (ts : α → List (Nat × Slot)) (idx : List Nat) (Ωs Ωm : Nat → List Own) (keeps : Nat → Bool) (acc : Nat → List β) (hN : X.N.Nodup)
    (hpg : ∀ s H C cl fp, PG (Blk X scope s H C cl fp) tg g) (htg : ∀ (B : Bs) (δ : List (Option Slot)) (O : List Own) (σ : SS) (G H : Hp) (y : α) (v : V) (Q : SS → Hp → Prop), Sta X.K B δ O σ G H → (R y).ok X.K G v → (∀ σ', Sta X.K B (setD δ (ts y)) O σ' G H → (∀ vs, (∀ i ∈ idx, i ∈ vs) → wipe σ' vs = wipe σ vs) → Q σ' H) → g v σ H Q)
    (hi : IT X δ O tg iter R as (Ωs 0)) (ok : BlkOk X.N X.env.scope scope own)
    (hts : ∀ k y, as[k]? = some y → ∀ s H C cl fp, TSs (Blk X scope s H C cl fp) (setD (wipeD δ (own.map (·.2))) (ts y)) (Ωs k) ifs (keeps k) (Ωm k))
    (helt : ∀ k y, as[k]? = some y → keeps k = true → ∃ z, acc (k + 1) = acc k ++ [z] ∧ ∀ s H C cl fp, E (Blk X scope s H C cl fp) (setD (wipeD δ (own.map (·.2))) (ts y)) (Ωm k) elt (S z) (Ωs (k + 1)))
    (hskip : ∀ k, k < as.length → keeps k = false → Ωm k = Ωs (k + 1) ∧ acc (k + 1) = acc k) (ha0 : acc 0 = []) (hz : as.length ≤ sizeLine)
    (hin : ∀ i ∈ idx, i ∈ own.map (·.2) := by decide)
    (hifs : ifs = [] ∨ ∃ c, ifs = [c] := by first | exact .inl rfl | exact .inr ⟨_, rfl⟩) (hc : X.calm = true := by rfl) (hs : noSet iter = true := by rfl) :
    EW X δ O (.ListComp elt [⟨tg, iter, ifs, 0⟩] scope pos) (fun p => oLst p S (acc as.length)) (Ωs as.length) := by
  obtain ⟨wi, h1, h2⟩ := hi
  intro B σ G H Q st k
  refine e_of (pe_lc (te := fun σ H Q => ∀ s H0 C cl fp, wE (Blk X scope s H0 C cl fp) elt σ H Q) hc hN h1 ok hpg (fun s H C cl fp => pts_w hifs s H C cl fp)
    (fun s H C cl fp => ⟨fun pins s' σ H' Q I h => (h s H C cl fp).run pins s' I⟩) (folded_plain hs)) ?_
  exact lcg_reading (iter := iter) ts idx htg Ωs Ωm keeps acc hin st h2 hts helt hskip ha0 hz k
end
end Gd

/-! Slices of tuples, tuples read backwards, slices stored, texts lengthened, list.index, in of lists -/
namespace Gd
open PySem L2
section
variable {X : Cx} {B B1 : Bs} {δ δ' : List (Option Slot)} {O O1 O2 O3 O4 : List Own} {a b c e o : Expr} {es : List Expr} {x : Str} {p pos apos : Pos} {s s1 s2 s3 : Slot} {ss : List Slot} {α β : Type} {R : α → Slot} {S : β → Slot} {D : Ends} {rest sts : List Stmt} {u : Bool} {as bs : List α} {q : Addr}
theorem cutA_whole {lo hi : Option Int} (h : HT.sIx as.length 0 lo = 0 ∧ HT.sIx as.length as.length hi = as.length) : cutA as lo hi = as := by
  unfold cutA
  rw [h.1, h.2, List.drop_zero, Nat.sub_zero, List.take_length]
/-- t[a:b] -/
theorem e_sliceT {lo hi : Option Expr} {l v : Option Int} {p2 : Pos} (he : E X δ O e (sTupl R as) O1) (hl : PoE X δ O1 lo l O2) (hu : PoE X δ O2 hi v O3) : E X δ O (.Subscript e (.Slice lo hi none p2) pos) (sTupl R (cutA as l v)) O3 := by
  obtain ⟨t1, g1, f1⟩ := hl
  obtain ⟨t2, g2, f2⟩ := hu
  intro B σ G H Q st k
  refine e_of (pe_slice sl_tupA pe_w g1 g2) ?_
  refine he B σ G H _ st fun x G1 H1 m1 st1 hx => f1 B σ G1 H1 _ st1 fun G2 H2 m2 st2 => f2 B σ G2 H2 _ st2 fun G3 H3 m3 st3 => ?_
  obtain ⟨p, vs, rfl, hp, r⟩ := hx
  have m := m2.trans m3
  refine ⟨p, vs, rfl, sqT_up st3.stp.gh (sqT_mono m hp), fun hw => ?_, fun hw q hq => ?_⟩
  · rw [r.length] at hw
    rw [cutA_whole hw] at k
    exact k _ G3 H3 (m1.trans m) st3 ⟨p, vs, rfl, sqT_mono m hp, r.mono m⟩
  · have sg : Same G3 (upd G3 q (.tup (cutV vs l v))) := same_new (gnone st3.stp hq)
    exact k _ _ _ (m1.trans (m.trans sg)) (st3.freshG hq) ⟨q, _, rfl, SqT.of upd_same, (cut_all2 l v (r.mono m)).mono sg⟩
/-- xs[a:b] = ys, at the value level -/
def gSl (to : TE) (tl th : TO) : TG := fun v σ H Q => to σ H fun o H1 => tl σ H1 fun l H2 => th σ H2 fun u H3 => ∃ r b xs ys a c, o = .ref r ∧ v = .ref b ∧ l = some a ∧ u = some c ∧ H3 r = some (.lst xs) ∧ H3 b = some (.lst ys) ∧ r ≠ b ∧ 0 ≤ a ∧ a ≤ c ∧ c ≤ xs.length ∧
  xs.length + ys.length ≤ sizeLine ∧ Q σ (upd H3 r (.lst (xs.take a.toNat ++ ys ++ xs.drop c.toNat)))
theorem pg_sl {to : TE} {tl th : TO} {lo hi : Option Expr} {p2 : Pos} (ho : PE X o to) (hl : PO X lo tl) (hu : PO X hi th)
    (ha : ∀ v, assign (.Subscript o (.Slice lo hi none p2) pos) X.env v = (do
      let ov ← holding [v] (eval o X.env) -- -
      let iv ← holding [v, ov] (eval (.Slice lo hi none p2) X.env)
      standAt pos
      holding [v, ov, iv] (setItem ov iv v) -- -
      release [iv, v, ov] []) := by intro _; rfl) : PG X (.Subscript o (.Slice lo hi none p2) pos) (gSl to tl th) := by
  (refine ⟨fun pins s σ H v u Q I r h => ?_⟩)
  rw [ha]
  (refine wpAny_bind (wpAny_holding (thn (ho.run pins s σ H _ I h) fun ov s1 ⟨x, H1, I1, r1, q1⟩ => ?_)))
  (refine wpAny_bind (wpAny_holding ?_))
  refine wpAny_Slice (thn (hl.run pins s1 σ H1 _ I1 q1) fun vl s2 ⟨l, H2, I2, pl, q2⟩ => thn (hu.run pins s2 σ H2 _ I2 q2) fun vu s3 ⟨u', H3, I3, pu, q3⟩ => ?_)
  rw [evalPart_none]
  refine wpAny_pure ?_
  (have I4 : Inv X pins σ H3 { s3 with heap := s3.heap.push { cls := .type "slice", data := .fields #[vl, vu, .none] } } := I3.kept (t' := s3.toks) fun b ob q => Heap.get?_push_of_some _ q)
  obtain ⟨l0, b0, xs, ys, i, j, rfl, rfl, rfl, rfl, hx, hy, hne, h0, h1, h2, hz, q⟩ := q3
  cases r1
  cases r
  (refine wpAny_bind (wpAny_standAt (wpAny_bind (wpAny_holding ?_))))
  cases pl with
  | int i t =>
    cases pu with
    | int j t' =>
      refine set_slice I4 hx hy hne (Heap.IsSliceOf.new ..) ⟨t, rfl⟩ ⟨t', rfl⟩ h0 h1 h2 hz fun s5 I5 => ?_
      exact wpAny_release ⟨σ, _, I5, q⟩
/-- xs[a:b] = e, xs an owned list -/
theorem j_setSl {lo hi : Expr} {i j : Int} {tp p2 : Pos} (jw : Nat) (he : E X δ O e (sLst R bs) O1) (ho : E X δ O1 o (sRef q) O2) (hl : E X δ O2 lo (sInt i) O3) (hu : E X δ O3 hi (sInt j) O4) (h0 : 0 ≤ i) (h1 : i ≤ j) (h2 : j ≤ as.length) (hz : as.length + bs.length ≤ sizeLine)
    (k : J X B δ (O4.set jw (oLst q R (as.take i.toNat ++ bs ++ as.drop j.toNat))) rest D) (hw : O4[jw]? = some (oLst q R as) := by rfl) (hss : swapsWithSole [.Subscript o (.Slice (some lo) (some hi) none p2) tp] e pos.line X.env = pure false := by first | exact sole_plain rfl | rfl) (hsw : swappedStores [.Subscript o (.Slice (some lo) (some hi) none p2) tp] e X.env = pure none := by rfl)
    (hpl : ∀ v, assign (.Subscript o (.Slice (some lo) (some hi) none p2) tp) X.env v = (do
      let ov ← holding [v] (eval o X.env) -- -
      let iv ← holding [v, ov] (eval (.Slice (some lo) (some hi) none p2) X.env)
      standAt tp
      holding [v, ov, iv] (setItem ov iv v) -- -
      release [iv, v, ov] []) := by intro _; rfl) : J X B δ O (.Assign [.Subscript o (.Slice (some lo) (some hi) none p2) tp] e pos :: rest) D :=
  j_cons fun σ G H st => s_of (ps_asg pe_w (pg_sl pe_w (po_some pe_w) (po_some pe_w) hpl) hss hsw) (by
    refine he B σ G H _ st fun v G1 H1 m1 st1 hv => ?_
    refine ho B σ G1 H1 _ st1 fun w G2 H2 m2 st2 hw2 => ?_
    refine hl B σ G2 H2 _ st2 fun y G3 H3 m3 st3 hy => ⟨i, hy, ?_⟩
    refine hu B σ G3 H3 _ st3 fun z G4 H4 m4 st4 hz4 => ⟨j, hz4, ?_⟩
    cases hw2
    obtain ⟨b0, ys, rfl, hb, rb⟩ := hv
    have m := m2.trans (m3.trans m4)
    obtain ⟨vs, hq, gq, r⟩ := own_lst st4 hw
    have hb4 := m _ _ hb
    refine ⟨q, b0, vs, ys, i, j, rfl, rfl, rfl, rfl, hq, st4.stp.gh _ _ hb4, (fun z => by rw [z, hb4] at gq; cases gq), h0, h1, by rw [r.length]; exact h2, by rw [r.length, rb.length]; exact hz, ?_⟩
    exact k σ G4 _ (st4.putI (w' := oLst q R (as.take i.toNat ++ bs ++ as.drop j.toNat)) hw rfl ⟨_, rfl, ((r.take _).append (rb.mono m)).append (r.drop _)⟩))
theorem o_addS {t v : Str} (h : t.length + v.length ≤ sizeLine) : OpE X (binaryOp .Add) (sStr t) (sStr v) (sStr (t ++ v)) :=
  ⟨_, op_add_str, fun B δ O σ G H Q x y st hx hy k => ⟨t, v, hx, hy, h, k _ G H (Same.refl _) st rfl⟩⟩
end
end Gd

/-! t[::-1] of a tuple -/
namespace Gd
open PySem L2 PySem.Spec PyProof.Rows
theorem rev_pick (xs : Array Value) : ((List.range xs.size).filterMap fun (k : Nat) => xs[(((xs.size : Int) - 1) + (k : Int) * (-1)).toNat]?) = xs.toList.reverse := by
  have h : ∀ n, n ≤ xs.size → ((List.range n).filterMap fun (k : Nat) => xs[(((xs.size : Int) - 1) + (k : Int) * (-1)).toNat]?) = xs.toList.reverse.take n := by
    intro n
    induction n with
    | zero => intro _; simp
    | succ n ih =>
      intro hn
      have e : (((xs.size : Int) - 1) + (n : Int) * (-1)).toNat = xs.size - 1 - n := by omega
      rw [List.range_succ, List.filterMap_append, ih (by omega), List.take_succ]
      congr 1
      have h1 : xs.toList.reverse[n]? = xs[xs.size - 1 - n]? := by
        rw [List.getElem?_reverse (by rw [Array.length_toList]; omega), Array.length_toList, Array.getElem?_toList]
      rw [h1]
      have h2 : xs[xs.size - 1 - n]? = some (xs[xs.size - 1 - n]'(by omega)) := Array.getElem?_eq_getElem (by omega)
      rw [h2]
      show List.filterMap _ [n] = [_]
      rw [List.filterMap_cons, e, h2]
      rfl
  rw [h _ (Nat.le_refl _), List.take_of_length_le (by rw [List.length_reverse, Array.length_toList]; exact Nat.le_refl _)]
section
variable {prog : Program} {w : World} {A : Around} {E : Value → Shared → Prop} {s : Shared}
theorem applied_rev {sl : Addr} {vs : Value} {n : Nat} {Q : Int × Int × Nat → Shared → Prop} (hs : s.heap.IsSliceOf sl .none .none vs) (ps : IsPart vs (some (-1)))
    (h : Q ((n : Int) - 1, -1, n) s) : wpAny (model prog w) A (Builtin.Slice.sliceApplied (.ref sl) (pure (n : Int))) Q E s := by
  obtain ⟨ob, gob, cob, dob⟩ := id hs
  (unfold Builtin.Slice.sliceApplied Builtin.Slice.sliceFields)
  refine wpAny_bind (wpAny_bind (wpAny_field gob dob (x := .none) rfl (wpAny_bind (wpAny_field gob dob (x := .none) rfl (wpAny_bind (wpAny_field gob dob (x := vs) rfl (wpAny_pure ?_)))))))
  refine wpAny_bind (HT.slicePart_ ps ?_)
  show wpAny _ _ (if ((-1 : Int) == 0) = true then _ else _) _ _ s
  rw [if_neg (by decide)]
  refine wpAny_bind (slicePart_none (wpAny_bind (slicePart_none (wpAny_bind (wpAny_pure ?_)))))
  have e : Builtin.Slice.slicePlaces ((n : Int) - 1) (-1) (-1) = n := by
    (unfold Builtin.Slice.slicePlaces)
    (have h1 : ¬ ((-1 : Int) > 0) := by decide)
    rw [if_neg h1]
    split
    · rename_i hl
      rw [show (- -1 : Int) = 1 from rfl, Int.ediv_one]
      omega
    · rename_i hl
      have : n = 0 := by omega
      subst this
      rfl
  show wpAny _ _ (pure ((n : Int) - 1, (-1 : Int), Builtin.Slice.slicePlaces ((n : Int) - 1) (-1) (-1))) _ _ s
  rw [e]
  exact wpAny_pure h
theorem getItem_tup_rev {t sl : Addr} {items : Array Value} {vs : Value} {Q : Value → Shared → Prop} (ht : IsTup s.heap t items) (hs : s.heap.IsSliceOf sl .none .none vs) (ps : IsPart vs (some (-1)))
    (h : Q (.ref s.heap.objs.size) { s with heap := s.heap.push { cls := .type "tuple", data := .seq items.toList.reverse.toArray } }) (hsz : items.size ≤ sizeLine) : wpAny (model prog w) A (getItem (.ref t) (.ref sl)) Q E s := by
  have hok : sizeOk (.seq items.toList.reverse.toArray) := by
    show items.toList.reverse.toArray.size ≤ sizeLine
    rw [List.size_toArray, List.length_reverse, Array.length_toList]
    exact hsz
  obtain ⟨ob, gob, cob, dob⟩ := id hs
  have hT : s.TypeIs (.ref sl) "slice" := ⟨ob, gob, cob⟩
  unfold getItem
  try with_reducible refine wpAny_holding ?_ -- -
  first | refine wpAny_bind (wpAny_pure ?_) | skip -- -
  refine wpAny_bind (wpAny_sequenceKey ht.typeIs (by decide) (wpAny_bind (wpAny_callSpecial?_slot (name := Str.ofString "__getitem__") ht.typeIs slot_tuple_getitem (wpAny_call_entry slot_tuple_getitem ht.typeIs entry_tuple_getitem ?_ (args_tuple_getitem _ _)))))
  (show wpAny _ _ (Builtin.Tuple.tupleItemsOf (.ref t) >>= _) _ _ s)
  refine wpAny_bind (tupleItemsOf_ ht (wpAny_bind (wpAny_typeOf hT ?_)))
  rw [if_pos (by decide)]
  refine wpAny_bind (applied_rev hs ps ?_)
  have hno : ¬ (((((items.size : Int) - 1) == 0) && ((-1 : Int) == 1) && (items.size == items.size)) = true) := by simp
  show wpAny _ _ (if ((((items.size : Int) - 1) == 0) && ((-1 : Int) == 1) && (items.size == items.size)) = true then _ else _) _ _ s
  rw [if_neg hno, rev_pick]
  first
    | exact wpAny_bind (m := Builtin.Tuple.tupleExact _) (wpAny_newObj_type (wpAny_pure ⟨_, rfl, wpAny_pure h⟩) hok)
    | exact wpAny_bind (m := Builtin.Tuple.tupleExact _) (wpAny_newObj_type (wpAny_bind (wpAny_pure (wpAny_pure ⟨_, rfl, wpAny_pure h⟩))) hok)
    | exact wpAny_bind (wpAny_bind (m := Builtin.Tuple.tupleExact _) (wpAny_newObj_type (wpAny_pure (wpAny_pure ⟨_, rfl, wpAny_pure h⟩)) hok))
    | exact wpAny_bind (wpAny_bind (m := Builtin.Tuple.tupleExact _) (wpAny_newObj_type (wpAny_pure ⟨_, rfl, wpAny_pure h⟩) hok))
end
section
variable {X : Cx} {δ : List (Option Slot)} {O O1 : List Own} {e : Expr} {pos : Pos} {α : Type} {R : α → Slot} {as : List α}
def tRevT (K : PySem.W.Frag) (te : TE) : TE := fun σ H Q => te σ H fun x H1 => ∃ a xs, x = .ref a ∧ SqT K H1 a xs ∧ ∀ p, H1 p = none → Q (.ref p) (upd H1 p (.tup xs.reverse))
theorem pe_revT {te : TE} {k : Nat} {p1 p2 p3 : Pos} (he : PE X e te) : PE X (.Subscript e (.Slice none none (some (.UnaryOp .USub (.Constant (.int 1) k p1) p2)) p3) pos) (tRevT X.K te) := by
  (refine ⟨fun pins s σ H Q I h => ?_⟩)
  refine Subscript_ (thn (he.run pins s σ H _ I h) fun v s1 ⟨x, H1, I1, r1, a, xs, ex, hx, q⟩ => ?_)
  subst ex
  cases r1
  (have hst : PO X (some (.UnaryOp .USub (.Constant (.int 1) k p1) p2)) (tPart (tUn (rU fun i => .int (-i)) (tC (.int 1)))) := po_some (pe_un un_neg pe_int))
  (refine wpAny_Slice (thn (po_none.run pins s1 σ H1 (fun o H2 => o = none ∧ H2 = H1) I1 ⟨rfl, rfl⟩) fun vl s2 ⟨l, H2, I2, pl, el, e2⟩ => ?_))
  subst el e2
  (refine thn (po_none.run pins s2 σ H2 (fun o H3 => o = none ∧ H3 = H2) I2 ⟨rfl, rfl⟩) fun vu s3 ⟨u, H3, I3, pu, eu, e3⟩ => ?_)
  subst eu e3
  (refine thn (hst.run pins s3 σ H3 (fun o H4 => o = some (-1) ∧ H4 = H3) I3 ⟨1, rfl, -1, rfl, rfl, rfl⟩) fun vs s4 ⟨o, H4, I4, ps, eo, e4⟩ => ?_)
  subst eo e4
  cases pl
  cases pu
  have I5 : Inv X pins σ H4 { s4 with heap := s4.heap.push { cls := .type "slice", data := .fields #[.none, .none, vs] } } := I4.kept (t' := s4.toks) fun b ob q => Heap.get?_push_of_some _ q
  obtain ⟨its, r, ht, hz⟩ := I5.tuple hx
  have hlen := r.length
  show wpAny (model X.prog X.w) X.A (subscriptTail e (.Slice none none (some (.UnaryOp .USub (.Constant (.int 1) k p1) p2)) p3) (.ref a) (.ref s4.heap.objs.size)) (EP X pins σ Q) X.xe { s4 with heap := s4.heap.push { cls := .type "slice", data := .fields #[.none, .none, vs] } }
  refine tail_any (ops := [.ref a, .ref s4.heap.objs.size]) ht.typeIs (slot_tuple_getitem.lookup) ?_ (by with_unfolding_all rfl)
  refine getItem_tup_rev ht (Heap.IsSliceOf.new _ .none .none vs) ps ?_ (by rw [List.size_toArray]; omega)
  refine ⟨.ref _, _, I5.laid (t' := s4.toks) (o := .tup xs.reverse) (fun b ob q => Heap.get?_push_of_some _ q) (Nat.le_refl _) ?_, rfl, q _ (I5.hok.fresh (Nat.le_refl _))⟩
  exact ⟨by rw [List.length_reverse]; exact hz, _, r.reverse, IsTup.new _ _⟩
theorem e_revT {k : Nat} {p1 p2 p3 : Pos} (he : E X δ O e (sTupl R as) O1) : E X δ O (.Subscript e (.Slice none none (some (.UnaryOp .USub (.Constant (.int 1) k p1) p2)) p3) pos) (sTupl R as.reverse) O1 := by
  intro B σ G H Q st q
  refine e_of (pe_revT pe_w) ?_
  refine he B σ G H _ st fun x G1 H1 m1 st1 hx => ?_
  obtain ⟨p, vs, rfl, hp, r⟩ := hx
  refine ⟨p, vs, rfl, sqT_up st1.stp.gh hp, fun z hz => ?_⟩
  have sg : Same G1 (upd G1 z (.tup vs.reverse)) := same_new (gnone st1.stp hz)
  exact q _ _ _ (m1.trans sg) (st1.freshG hz) ⟨z, _, rfl, SqT.of upd_same, r.reverse.mono sg⟩
end
end Gd

namespace Gd
open PySem L2
section
variable {X : Cx} {B B1 : Bs} {δ δ' : List (Option Slot)} {O O1 O2 O3 : List Own} {a b c e o : Expr} {es : List Expr} {x : Str} {p pos apos : Pos} {s s1 s2 s3 : Slot} {ss : List Slot} {α β : Type} {R : α → Slot} {S : β → Slot} {D : Ends} {rest sts : List Stmt} {u : Bool} {as bs : List α} {q : Addr}
/-- s[i] of a text -/
theorem i_str {z : Str} {i : Int} {n : Nat} (h : atI z.cps.toList i = some n) (hz : z.length ≤ sizeLine) : IxE X (sStr z) (sInt i) (sStr ⟨#[n]⟩) :=
  ⟨_, ix_str, fun B δ O σ G H Q v w st hv hw k => by
    cases hv
    cases hw
    exact ⟨z, i, n, rfl, rfl, hz, h, k _ G H (Same.refl _) st rfl⟩⟩
theorem op_mulS1 : OpR X (binaryOp .Mult) (fun x y H Q => ∃ z, x = .str z ∧ y = .int 1 ∧ Q (.str z) H) := by
  intro pins s σ H x y v w Q I rx ry h
  obtain ⟨z, rfl, rfl, q⟩ := h
  obtain ⟨t, rfl⟩ := rx
  obtain ⟨t', rfl⟩ := ry
  refine PySem.P.mul_str (by decide) (fun _ h => ?_) (fun _ h => ?_) ?_
  · simp at h
  · simp at h
  · rw [if_neg (by decide), if_pos (by simp)]
    (exact ⟨.str z, H, I, ⟨t, rfl⟩, q⟩)
theorem o_mulS1 {z : Str} : OpE X (binaryOp .Mult) (sStr z) (sInt 1) (sStr z) :=
  ⟨_, op_mulS1, fun B δ O σ G H Q v w st hv hw k => by
    cases hv
    cases hw
    exact ⟨z, rfl, rfl, k _ G H (Same.refl _) st rfl⟩⟩
theorem o_inL {z : Str} {ts : List Str} : OpE X (compareOp .In) (sStr z) (sLst sStr ts) (sBl (decide (z ∈ ts))) :=
  ⟨_, op_in_seq, fun B δ O σ G H Q v w st hv hw k => by
    obtain ⟨p, vs, rfl, hp, r⟩ := hw
    cases hv
    have e := r.vals (f := V.str)
    subst e
    refine ⟨p, _, rfl, .inl (SqL.of (st.stp.gh _ _ hp)), rfl, flat_strs, ?_⟩
    rw [if_neg Bool.false_ne_true, inV_str]
    exact k _ G H (Same.refl _) st rfl⟩
theorem eqV_str {t z : Str} : eqV (.str t) (.str z) = decide (t = z) := by
  unfold eqV
  by_cases e : t = z
  · subst e; simp
  · simp [e]
theorem idxOf_le {z : Str} : ∀ {ts : List Str} {m : Nat}, ts[m]? = some z → ts.idxOf z ≤ m
  | [], m, h => by simp at h
  | t :: ts, 0, h => by simp at h; subst h; simp
  | t :: ts, m + 1, h => by
    have ih := idxOf_le (ts := ts) (z := z) (m := m) (by simpa using h)
    rw [List.idxOf_cons]
    cases (t == z) <;> simp <;> omega
/-- xs.index(e), xs a list of texts that holds it -/
theorem e_index {ts : List Str} {z : Str} (ho : E X δ O o (sLst sStr ts) O1) (he : E X δ O1 e (sStr z) O2) (hm : z ∈ ts)
    (hbase : noCall0 o = true := by rfl)
    (hfew : ((backTo pos (starEach (e :: []) X.env)).all (fun x => !x.1) && (backToKw pos (keywordEach [] X.env)).all (fun x => x.1.isSome)
      && decide ((e :: []).length + ([] : List Keyword).length + (if ([] : List Keyword).isEmpty then 0 else 1) < 30)) = true := by rfl)
    (hline : (apos.endLine == pos.line) = true := by rfl) (hs : noStar e = true := by rfl) (hplain : (backTo pos (starEach [] X.env)).any (·.1) = false := by rfl) :
    E X δ O (.Call (.Attribute o "index" apos) [e] [] pos) (sInt (ts.idxOf z : Nat)) O2 := by
  intro B σ G H Q st k
  refine e_of (pe_bm PySem.F.plainAttrs_list PySem.F.slot_list_index PySem.F.type_list_index mt_index pe_w (pa_cons pe_w pa_nil (starEach_plain hs)) (attributeBase_plain hbase) hfew hline (starEach_plain hs) hplain) ?_
  refine ho B σ G H _ st fun v G1 H1 m1 st1 hv => ?_
  obtain ⟨p, vs, rfl, hp, r⟩ := hv
  have ev := r.vals (f := V.str)
  subst ev
  refine ⟨.inl ⟨rfl, _, SqL.of (st1.stp.gh _ _ hp)⟩, ?_⟩
  refine he B σ G1 H1 _ st1 fun w G2 H2 m2 st2 hw2 => ?_
  cases hw2
  have hlt : ts.idxOf z < ts.length := List.idxOf_lt_length_of_mem hm
  refine ⟨p, ts.map V.str, .str z, ts.idxOf z, .str z, rfl, rfl, SqL.of (st2.stp.gh _ _ (m2 _ _ hp)), rfl, flat_strs, ?_, ?_, fun m z' hmj hz' => ?_, ?_⟩
  · rw [List.getElem?_map, List.getElem?_eq_getElem hlt, List.getElem_idxOf]
    rfl
  · rw [eqV_str]; simp
  · rw [List.getElem?_map] at hz'
    have hm' : m < ts.length := Nat.lt_trans hmj hlt
    rw [List.getElem?_eq_getElem hm'] at hz'
    cases hz'
    rw [eqV_str, decide_eq_false_iff_not]
    intro e
    have := idxOf_le (ts := ts) (z := z) (m := m) (by rw [List.getElem?_eq_getElem hm', e])
    omega
  · exact k _ G2 H2 (m1.trans m2) st2 rfl
end
end Gd

namespace K51
open PySem L2 Gd
/-! ### the edits, as functions -/
def Ed.growth (e : Ed) : Int := e.words.length - (e.last - e.first)
def Ed.run (e : Ed) (ws : List Str) : List Str := ws.take e.first.toNat ++ e.words ++ ws.drop e.last.toNat
def Ed.plus (e : Ed) (n : Int) : Ed := ⟨e.first + n, e.last + n, e.words⟩
def Ed.undone (e : Ed) (ws : List Str) : Ed := ⟨e.first, e.first + e.words.length, (ws.drop e.first.toNat).take (e.last.toNat - e.first.toNat)⟩
theorem cutA_take {α : Type} (xs : List α) {a : Int} (h : 0 ≤ a) : cutA xs none (some a) = xs.take a.toNat := by
  unfold cutA
  obtain ⟨n, rfl⟩ := Int.eq_ofNat_of_zero_le h
  rw [HT.sIx_none, HT.sIx_nat, List.drop_zero, Nat.sub_zero]
  show List.take (min n xs.length) xs = List.take n xs
  rw [Nat.min_comm, ← List.take_take]
  exact List.take_of_length_le (by rw [List.length_take]; omega)
theorem cutA_drop {α : Type} (xs : List α) {a : Int} (h : 0 ≤ a) : cutA xs (some a) none = xs.drop a.toNat := by
  unfold cutA
  obtain ⟨n, rfl⟩ := Int.eq_ofNat_of_zero_le h
  rw [HT.sIx_none, HT.sIx_nat]
  show List.take (xs.length - min n xs.length) (xs.drop (min n xs.length)) = xs.drop n
  rcases Nat.le_total n xs.length with z | z
  · rw [Nat.min_eq_left z]
    exact List.take_of_length_le (by rw [List.length_drop]; exact Nat.le_refl _)
  · rw [Nat.min_eq_right z, List.drop_length, List.drop_of_length_le z, List.take_nil]
theorem cutA_mid {α : Type} (xs : List α) {a b : Int} (h : 0 ≤ a) (h1 : 0 ≤ b) : cutA xs (some a) (some b) = (xs.drop a.toNat).take (b.toNat - a.toNat) := by
  unfold cutA
  obtain ⟨n, rfl⟩ := Int.eq_ofNat_of_zero_le h
  obtain ⟨m, rfl⟩ := Int.eq_ofNat_of_zero_le h1
  rw [HT.sIx_nat, HT.sIx_nat]
  show List.take (min m xs.length - min n xs.length) (xs.drop (min n xs.length)) = (xs.drop n).take (m - n)
  rcases Nat.le_total n xs.length with z | z
  · rw [Nat.min_eq_left z]
    rcases Nat.le_total m xs.length with y | y
    · rw [Nat.min_eq_left y]
    · rw [Nat.min_eq_right y, List.take_of_length_le (by rw [List.length_drop]; exact Nat.le_refl _), List.take_of_length_le (by rw [List.length_drop]; omega)]
  · rw [Nat.min_eq_right z, List.drop_length, List.drop_of_length_le z, List.take_nil, List.take_nil]
theorem isToken_ok {t : Str} (h : isToken t = true) : PyData.strOk t = true := by
  unfold isToken at h
  simp only [Bool.or_eq_true, decide_eq_true_eq] at h
  rcases h with h | h | h
  · unfold isWord at h
    split at h
    · unfold PyData.strOk
      (rw [← Array.all_toList, List.all_eq_true])
      rw [List.all_eq_true] at h
      intro n hn
      have := h n hn
      simp only [decide_eq_true_eq] at this
      have hl : ∀ m ∈ letters.cps.toList, decide (m < 0x110000) = true := by decide +kernel
      exact hl n this
    · cases h
  · have : ∀ t ∈ (["give", "let"] : List Str), PyData.strOk t = true := by decide +kernel
    exact this t h
  · have : ∀ t ∈ signsL, PyData.strOk t = true := by decide +kernel
    exact this t h
theorem okWords.str {ws : List Str} (h : okWords ws) : okStrs ws := fun t ht => isToken_ok (h t ht).1
section
variable {P : Program} {w : World} {K : Fg} {mg : Str → Option Value} {base : Heap} {C : Addr}
theorem scGrowth : FnScope ["self"] ["self"] (defScope sGrowth) := ⟨rfl, rfl, rfl, by decide +kernel, rfl, by decide +kernel, by decide +kernel⟩
def fsGrowth (C : Addr) : FS Ed := { args := fun i => [sEd C i], pre := fun _ => True, res := fun i => sInt i.growth }
theorem ok_growth {f : Addr} {fd : FuncData} (F : Fun K "growth" "Edit.growth" sGrowth f fd) (b : Binds K fd ["self"] []) (T : Bt mg) (EC : EdC K mg C) : DefOk P w K mg base 1 f [] (fsGrowth C) := by
  refine fn_ok F scGrowth b .nil (fun _ => rfl) fun e cdv A outer s G H D EE hr hp hf hn => ?_
  exact j_ret (O1 := []) (e_bin o_sub (e_callB c_lenT T.len PySem.boot_len (ea_cons (e_fld 2 EC.cl EC.nW (e_name 0)) ea_nil)) (e_bin o_sub (e_fld 1 EC.cl EC.nL (e_name 0)) (e_fld 0 EC.cl EC.nF (e_name 0)))) (fin_ret hf (fun w hw => hw) fun G v hv => hv)
end
end K51

namespace Gd
open PySem L2
section
variable {X : Cx} {B B1 : Bs} {δ δ' : List (Option Slot)} {O O1 O2 O3 : List Own} {a b c e o tg : Expr} {es : List Expr} {x : Str} {p pos apos : Pos} {s s1 s2 s3 : Slot} {ss : List Slot} {α β : Type} {R : α → Slot} {S : β → Slot} {D : Ends} {rest sts : List Stmt} {u : Bool} {as bs : List α} {q : Addr}
/-- a, b, .. = e -/
theorem j_asgT {ts : α → List (Nat × Slot)} {y : α} (ht : TGu X tg R ts) (he : E X δ O e (R y) O1) (k : J X B (setD δ (ts y)) O1 rest D) (hs : noCompr e = true := by rfl) (hw : swappedStores [tg] e X.env = pure none := by rfl) (h1 : (assignEach [tg] X.env).map (·.2) = [assign tg X.env] := by rfl) : J X B δ O (.Assign [tg] e pos :: rest) D := by
  obtain ⟨g, g1, g2⟩ := ht
  exact j_cons fun σ G H st => s_of (ps_asg pe_w g1 (sole_plain hs) hw h1) (he B σ G H _ st fun v G1 H1 m1 st1 hv => g2 B δ O1 σ G1 H1 y v _ st1 hv fun σ' st' => k σ' G1 H1 st')
/-- a tuple of three as data -/
theorem isD_tup3 {d1 d2 d3 : PyData} (h1 : IsD s1 d1) (h2 : IsD s2 d2) (h3 : IsD s3 d3) : IsD (sTup [s1, s2, s3]) (.tuple [d1, d2, d3]) := fun K G v q => by
  obtain ⟨p, vs, rfl, hp, r⟩ := q
  obtain ⟨v1, v2, v3, rfl, e1, e2, e3⟩ := alls3 r
  exact .tup hp (.cons (h1 _ _ _ e1) (.cons (h2 _ _ _ e2) (.cons (h3 _ _ _ e3) .nil)))
theorem el_starT1 {ws : List α} (h : E X δ O e (sTupl R ws) O1) : EL X δ O R [.Starred e p] ws O1 := by
  have := el_starT (p := p) h (el_nil (R := R))
  rwa [List.append_nil] at this
theorem el_star1 {ws : List α} (h : E X δ O e (sLst R ws) O1) : EL X δ O R [.Starred e p] ws O1 := by
  have := el_star (p := p) h (el_nil (R := R))
  rwa [List.append_nil] at this
theorem atI_neg1 {xs : List α} {v : α} (h : xs.getLast? = some v) : atI xs (-1) = some v := by
  obtain ⟨ys, rfl⟩ : ∃ ys, xs = ys ++ [v] := by
    rcases List.eq_nil_or_concat xs with rfl | ⟨ys, y, rfl⟩
    · simp at h
    · simp at h
      exact ⟨ys, by rw [h, List.concat_eq_append]⟩
  exact atI_last ys v
theorem last_ix {xs : List α} {v : α} (h : xs.getLast? = some v) : xs[xs.length - 1]? = some v := by
  rw [← h, List.getLast?_eq_getElem?]
/-- [x for x in iter if test] -/
theorem ew_filter1 {elt iter : Expr} {scope : Scope} {own : List (Str × Nat)} {px : Pos} (i : Nat) (t : α → Bool) (hN : X.N.Nodup) (hi : IT X δ O (.Name x px) iter R as O1) (ok : BlkOk X.N X.env.scope scope own)
    (htst : ∀ y, y ∈ as → ∀ s H C cl fp, T (Blk X scope s H C cl fp) ((wipeD δ (own.map (·.2))).set i (some (R y))) O1 c (t y) O1)
    (helt : ∀ y, y ∈ as → t y = true → ∀ s H C cl fp, E (Blk X scope s H C cl fp) ((wipeD δ (own.map (·.2))).set i (some (R y))) O1 elt (R y) O1) (hz : as.length ≤ sizeLine)
    (hin : i ∈ own.map (·.2) := by decide) (hix : X.N[i]? = some x := by rfl) (hx : ∀ s H C cl fp, Loc (Blk X scope s H C cl fp).env.scope x := by intro _ _ _ _ _; first | exact Or.inl rfl | exact Or.inr rfl)
    (hf : ∀ s H C cl fp, (Blk X scope s H C cl fp).fn x = true ∨ (Blk X scope s H C cl fp).env.scope.names.lookup x = some .local := by intro _ _ _ _ _; first | exact .inl rfl | exact .inr rfl)
    (hc : X.calm = true := by rfl) (hs : noSet iter = true := by rfl) :
    EW X δ O (.ListComp elt [⟨.Name x px, iter, [c], 0⟩] scope pos) (fun p => oLst p R (as.filter t)) O1 := by
  have h := ew_filter (pos := pos) (S := R) i t (fun y => y) hN hi ok htst helt hz hin hix hx hf hc hs
  simpa only [List.map_id'] using h
/-- [elt for a, b, c in iter] -/
theorem ew_mapT3 {elt iter : Expr} {scope : Scope} {own : List (Str × Nat)} {r1 r2 r3 : α → Slot} (i j l : Nat) {x1 x2 x3 : Str} {p1 p2 p3 p4 : Pos} {kk : Nat} (f : α → β) (hN : X.N.Nodup) (hi : IT X δ O (.Tuple [.Name x1 p1, .Name x2 p2, .Name x3 p3] kk p4) iter (fun y => sTup [r1 y, r2 y, r3 y]) as O1) (ok : BlkOk X.N X.env.scope scope own)
    (helt : ∀ y, y ∈ as → ∀ s H C cl fp, E (Blk X scope s H C cl fp) (setD (wipeD δ (own.map (·.2))) [(i, r1 y), (j, r2 y), (l, r3 y)]) O1 elt (S (f y)) O1) (hz : as.length ≤ sizeLine)
    (hin : ∀ z ∈ [i, j, l], z ∈ own.map (·.2) := by decide) (h1 : X.N[i]? = some x1 := by rfl) (h2 : X.N[j]? = some x2 := by rfl) (h3 : X.N[l]? = some x3 := by rfl)
    (hx1 : ∀ s H C cl fp, Loc (Blk X scope s H C cl fp).env.scope x1 := by intro _ _ _ _ _; first | exact Or.inl rfl | exact Or.inr rfl) (hx2 : ∀ s H C cl fp, Loc (Blk X scope s H C cl fp).env.scope x2 := by intro _ _ _ _ _; first | exact Or.inl rfl | exact Or.inr rfl) (hx3 : ∀ s H C cl fp, Loc (Blk X scope s H C cl fp).env.scope x3 := by intro _ _ _ _ _; first | exact Or.inl rfl | exact Or.inr rfl)
    (hf1 : ∀ s H C cl fp, (Blk X scope s H C cl fp).fn x1 = true ∨ (Blk X scope s H C cl fp).env.scope.names.lookup x1 = some .local := by intro _ _ _ _ _; first | exact .inl rfl | exact .inr rfl) (hf2 : ∀ s H C cl fp, (Blk X scope s H C cl fp).fn x2 = true ∨ (Blk X scope s H C cl fp).env.scope.names.lookup x2 = some .local := by intro _ _ _ _ _; first | exact .inl rfl | exact .inr rfl) (hf3 : ∀ s H C cl fp, (Blk X scope s H C cl fp).fn x3 = true ∨ (Blk X scope s H C cl fp).env.scope.names.lookup x3 = some .local := by intro _ _ _ _ _; first | exact .inl rfl | exact .inr rfl)
    (hc : X.calm = true := by rfl) (hcb : ∀ s H C cl fp, (Blk X scope s H C cl fp).calm = true := by intro _ _ _ _ _; rfl) (hs : noSet iter = true := by rfl) :
    EW X δ O (.ListComp elt [⟨.Tuple [.Name x1 p1, .Name x2 p2, .Name x3 p3] kk p4, iter, [], 0⟩] scope pos) (fun p => oLst p S (as.map f)) O1 := by
  have h := ew_compG (pos := pos) (S := S) (g := gTup X.K 3 (gCons (gName i) (gCons (gName j) (gCons (gName l) gNil)))) (fun y => [(i, r1 y), (j, r2 y), (l, r3 y)]) [i, j, l] (fun _ => O1) (fun _ => O1) (fun _ => true) (fun k => (as.take k).map f) hN
    (fun s H C cl fp => pg_tup (hcb s H C cl fp) (pgs_cons (pg_name hN h1 (hx1 s H C cl fp) (hf1 s H C cl fp)) (pgs_cons (pg_name hN h2 (hx2 s H C cl fp) (hf2 s H C cl fp)) (pgs_cons (pg_name hN h3 (hx3 s H C cl fp) (hf3 s H C cl fp)) pgs_nil))))
    (fun B δ O σ G H y v Q st hv k => by
      obtain ⟨p, vs, rfl, hp, h⟩ := hv
      obtain ⟨v1, v2, v3, rfl, e1, e2, e3⟩ := alls3 h
      refine ⟨p, _, rfl, sqT_up st.stp.gh hp, rfl, v1, [v2, v3], rfl, v2, [v3], rfl, v3, [], rfl, rfl, k _ (((st.set e1).set e2).set e3) fun vs hvs => ?_⟩
      rw [wipe_set (hvs l (by simp)), wipe_set (hvs j (by simp)), wipe_set (hvs i (by simp))])
    hi ok (fun k y hy s H C cl fp => ts_nil)
    (fun k y hy _ => ⟨f y, by show (as.take (k + 1)).map f = _; rw [take_succ hy, List.map_append]; rfl, fun s H C cl fp => helt y (List.mem_of_getElem? hy) s H C cl fp⟩) (fun k _ h => by cases h) rfl hz hin (.inl rfl) hc hs
  simpa only [List.take_length] using h
end
end Gd

namespace K51
open PySem L2 Gd
abbrev sGrowthOf : Stmt := top 31
abbrev sJoined : Stmt := top 24
abbrev sAre : Stmt := top 22
/-- a change -/
abbrev Ch := Ed
abbrev sCh (c : Ch) : Slot := sTup [sInt c.first, sInt c.last, sTupl sStr c.words]
def chD (c : Ch) : PyData := .tuple [.int c.first, .int c.last, .tuple (c.words.map .str)]
theorem isD_ch (c : Ch) : IsD (sCh c) (chD c) := isD_tup3 isD_int isD_int (isD_tupl fun _ => isD_str)
theorem can_ch {cs : List Ch} (h : ∀ c ∈ cs, okStrs c.words) : PyData.canLayAll0 (cs.map chD) = true := by
  induction cs with
  | nil => rfl
  | cons c cs ih =>
    have h1 := canAll_strs (h c List.mem_cons_self)
    have h2 := ih fun d hd => h d (List.mem_cons_of_mem _ hd)
    show (PyData.canLay0 (chD c) && PyData.canLayAll0 (cs.map chD)) = true
    rw [h2]
    unfold chD
    simp [PyData.canLay0, PyData.canLayAll0, h1]
theorem depth_ch : ∀ cs : List Ch, PyData.depthAll (cs.map chD) ≤ 2
  | [] => by simp [PyData.depthAll] -- -
  | c :: cs => by
    have := depth_ch cs
    have h1 := depthAll_strs c.words
    have h2 : PyData.depth (chD c) ≤ 2 := by
      unfold chD
      simp [PyData.depth, PyData.depthAll, h1]
    show max (PyData.depth (chD c)) (PyData.depthAll (cs.map chD)) ≤ 2
    omega
theorem shaped_chs {cs : List Ch} (h : ∀ c ∈ cs, okStrs c.words) : SeqAt.shaped (.list (cs.map chD)) = true := shaped_lst (can_ch h) (Nat.le_trans (depth_ch cs) (by decide))
def joinStep (found : List Ch) (c : Ch) : List Ch :=
  match found.getLast? with
  | some b => if b.last = c.first then found.dropLast ++ [⟨b.first, c.last, b.words ++ c.words⟩] else found ++ [c]
  | none => [c]
def keepCh (c : Ch) : Bool := decide (c.first < c.last) || !decide (c.words = [])
def joinedV (cs : List Ch) : List Ch := (cs.foldl joinStep []).filter keepCh
def wsum (cs : List Ch) : Nat := (cs.map fun c => c.words.length).sum
theorem wsum_append (a b : List Ch) : wsum (a ++ b) = wsum a + wsum b := by simp [wsum]
theorem dropLast_last {α : Type} {xs : List α} {v : α} (h : xs.getLast? = some v) : xs.dropLast ++ [v] = xs := by
  rcases List.eq_nil_or_concat xs with rfl | ⟨ys, y, rfl⟩
  · simp at h
  · simp at h
    subst h
    simp
theorem joinStep_sum (f : List Ch) (c : Ch) : wsum (joinStep f c) = wsum f + c.words.length ∧ (joinStep f c).length ≤ f.length + 1 := by
  unfold joinStep
  cases e : f.getLast? with
  | none =>
    rw [List.getLast?_eq_none_iff] at e
    subst e
    simp [wsum]
  | some b =>
    have d := dropLast_last e
    dsimp only
    split
    · refine ⟨?_, ?_⟩
      · have : wsum f = wsum f.dropLast + b.words.length := by
          rw [← d, wsum_append]
          simp [wsum]
        rw [wsum_append, this]
        simp [wsum]
        omega
      · rw [List.length_append, List.length_dropLast]
        simp
    · rw [wsum_append]
      simp [wsum]
theorem joinFold_sum (cs f : List Ch) : wsum (cs.foldl joinStep f) = wsum f + wsum cs ∧ (cs.foldl joinStep f).length ≤ f.length + cs.length := by
  induction cs generalizing f with
  | nil => simp [wsum]
  | cons c cs ih =>
    have h1 := joinStep_sum f c
    have h2 := ih (joinStep f c)
    rw [List.foldl_cons]
    refine ⟨?_, ?_⟩
    · rw [h2.1, h1.1]
      simp [wsum]
      omega
    · simp
      omega
theorem joinStep_str {f : List Ch} {c : Ch} (h : ∀ d ∈ f, okStrs d.words) (hc : okStrs c.words) : ∀ d ∈ joinStep f c, okStrs d.words := by
  unfold joinStep
  cases e : f.getLast? with
  | none => intro d hd; simp at hd; subst hd; exact hc
  | some b =>
    have hb := h b (List.mem_of_getLast? e)
    dsimp only
    split
    · intro d hd
      rcases List.mem_append.mp hd with hd | hd
      · exact h d ((List.dropLast_sublist f).subset hd)
      · simp at hd
        subst hd
        exact fun t ht => (List.mem_append.mp ht).elim (hb t) (hc t)
    · intro d hd
      rcases List.mem_append.mp hd with hd | hd
      · exact h d hd
      · simp at hd; subst hd; exact hc
theorem joinFold_str {cs f : List Ch} (h : ∀ d ∈ f, okStrs d.words) (hc : ∀ d ∈ cs, okStrs d.words) : ∀ d ∈ cs.foldl joinStep f, okStrs d.words := by
  induction cs generalizing f with
  | nil => exact h
  | cons c cs ih => exact ih (joinStep_str h (hc c List.mem_cons_self)) fun d hd => hc d (List.mem_cons_of_mem _ hd)
section
variable {P : Program} {w : World} {K : Fg} {mg : Str → Option Value} {base : Heap}
theorem scGrowthOf : FnScope ["change", "first", "last", "words"] ["change"] (defScope sGrowthOf) := ⟨rfl, rfl, rfl, by decide +kernel, rfl, by decide +kernel, by decide +kernel⟩
def fsGrowthOf : FS Ch := { args := fun c => [sCh c], pre := fun _ => True, res := fun c => sInt c.growth }
theorem ok_growthOf {f : Addr} {fd : FuncData} (F : Fun K "growth_of" "growth_of" sGrowthOf f fd) (b : Binds K fd ["change"] []) (T : Bt mg) : DefOk P w K mg base 1 f [] fsGrowthOf := by
  refine fn_ok F scGrowthOf b .nil (fun _ => rfl) fun c cdv A outer s G H D EE hr hp hf hn => ?_
  refine j_asgT (O1 := []) (R := sCh) (y := c) (tg_tup3 (r1 := fun c : Ch => sInt c.first) (r2 := fun c : Ch => sInt c.last) (r3 := fun c : Ch => sTupl sStr c.words) 1 2 3 scGrowthOf.nd) (e_name 0) ?_
  exact j_ret (O1 := []) (e_bin o_sub (e_callB c_lenT T.len PySem.boot_len (ea_cons (e_name 3) ea_nil)) (e_bin o_sub (e_name 2) (e_name 1))) (fin_ret hf (fun w hw => hw) fun G v hv => hv)
theorem scJoined : FnScope ["changes", "found", "first", "last", "words", "before", "row"] ["changes"] (defScope sJoined) := ⟨rfl, rfl, rfl, by decide +kernel, rfl, by decide +kernel, by decide +kernel⟩
def fsJoined : FS (List Ch) := { args := fun cs => [sLst sCh cs], pre := fun cs => (∀ c ∈ cs, okStrs c.words) ∧ wsum cs ≤ 100000 ∧ cs.length ≤ 100000, res := fun cs => sTupl sCh (joinedV cs) }
theorem ok_joined {f : Addr} {fd : FuncData} (F : Fun K "joined" "joined" sJoined f fd) (b : Binds K fd ["changes"] []) (T : Bt mg) (Cc : Cs K mg) : DefOk P w K mg base 1 f [] fsJoined := by
  refine fn_ok F scJoined b .nil (fun _ => rfl) fun cs cdv A outer s G H D EE hr hp hf hn => ?_
  have hp : (∀ c ∈ cs, okStrs c.words) ∧ wsum cs ≤ 100000 ∧ cs.length ≤ 100000 := hp
  refine j_setW (O1 := []) 1 (ew_lst (R := sCh) (as := []) el_nil (szl (by simp))) (fun fr hfr => ?_) scJoined.nd
  refine j_for (O1 := [oLst fr sCh []]) (R := sCh) (as := cs) (fun n (g : List Ch) => g = (cs.take n).foldl joinStep []) (fun _ => [some (sLst sCh cs), some (sRef fr), none, none, none, none, none]) (fun g => [oLst fr sCh g]) (fun c => [(2, sInt c.first), (3, sInt c.last), (4, sTupl sStr c.words)])
    (it_lst (e_name 0)) (tg_tup3 (r1 := fun c : Ch => sInt c.first) (r2 := fun c : Ch => sInt c.last) (r3 := fun c : Ch => sTupl sStr c.words) 2 3 4 scJoined.nd) ⟨[], by simp, fun _ _ _ _ h => h⟩ ?_ ?_
  · rintro B1 n c g hB hy rfl
    have hm : c ∈ cs := List.mem_of_getElem? hy
    have hn : n < cs.length := by
      rcases Nat.lt_or_ge n cs.length with z | z
      · exact z
      · rw [List.getElem?_eq_none z] at hy; cases hy
    have hstr := joinFold_str (cs := cs.take n) (f := []) (fun _ h => by cases h) fun d hd => hp.1 d (List.mem_of_mem_take hd)
    have hsum := joinFold_sum (cs.take n) []
    have hst : wsum (cs.take n) + wsum (cs.drop n) = wsum cs := by rw [← wsum_append, List.take_append_drop]
    have hdr : cs.drop n = c :: cs.drop (n + 1) := by
      rw [List.getElem?_eq_getElem hn] at hy
      rw [← Option.some.inj hy, ← List.drop_eq_getElem_cons hn]
    have hw2 : wsum (cs.drop n) = c.words.length + wsum (cs.drop (n + 1)) := by rw [hdr]; simp [wsum]
    have next : (cs.take (n + 1)).foldl joinStep [] = joinStep ((cs.take n).foldl joinStep []) c := by
      rw [take_succ hy, List.foldl_append]
      rfl
    generalize hf0 : (cs.take n).foldl joinStep [] = fo at hstr hsum next
    have hlen : fo.length ≤ n := by
      have := hsum.2
      rw [List.length_take] at this
      simp at this
      omega
    have hws : wsum fo ≤ 100000 := by
      have := hsum.1
      simp [wsum] at this hst hp hw2 ⊢
      omega
    cases e : fo.getLast? with
    | none =>
      have e' := e
      rw [List.getLast?_eq_none_iff] at e'
      subst e'
      refine j_if (O1 := [oLst fr sCh []]) (u := false) (t_w (tw_andF (t_eq (t_neNil (q := fr) (as := []) (R := sCh) (d := chD) 0 hr isD_ch (e_name 1) rfl) rfl))) (fun h => nomatch h) (fun _ => ?_)
      refine j_expr (e_append (q := fr) (as := []) (R := sCh) (y := c) 0 (e_name 1) (e_tup (ea_cons (e_name 2) (ea_cons (e_name 3) (ea_cons (e_name 4) ea_nil))) (szl (by simp))) (by decide)) (j_on (j_nil fun σ G H st => ⟨_, G, next.symm, ?_⟩))
      have : joinStep [] c = [c] := rfl
      rw [this]
      exact st.wk (.same (.same (.skip (.skip (.skip (.same (.same .nil)))))))
    | some bb =>
      have hne : (!fo.isEmpty) = true := by cases fo <;> simp_all
      refine j_if (O1 := [oLst fr sCh fo]) (u := decide (bb.last = c.first)) (t_w (tw_and (u := true) (t_eq (t_neNil (q := fr) (as := fo) (R := sCh) (d := chD) 0 hr isD_ch (e_name 1) (shaped_chs hstr)) hne) fun _ => tw_and1 (t_cmp o_eq (e_ix (i_tup (ss := [sInt bb.first, sInt bb.last, sTupl sStr bb.words]) 1 rfl rfl) (e_ixL (q := fr) (as := fo) (R := sCh) (y := bb) 0 (e_name 1) (e_neg e_int) (atI_neg1 e)) e_int) (e_name 2)))) (fun h => ?_) (fun h => ?_)
      · have h : bb.last = c.first := by simpa using h
        have d := dropLast_last e
        have hbs : bb.words.length + c.words.length ≤ 100000 := by
          have h0 : wsum [] = 0 := rfl
          have h1 := hsum.1
          have h2 := hp.2.1
          have : wsum fo = wsum fo.dropLast + bb.words.length := by
            rw [← d, wsum_append, dropLast_last e]
            simp [wsum]
          omega
        have js : joinStep fo c = fo.dropLast ++ [⟨bb.first, c.last, bb.words ++ c.words⟩] := by
          unfold joinStep
          rw [e]
          exact if_pos h
        refine j_set 5 (O1 := [oLst fr sCh fo.dropLast]) (s := sCh bb) (e_pop (q := fr) (as := fo) (R := sCh) (y := bb) 0 (e_name 1) (last_ix e)) ?_ scJoined.nd
        refine j_expr (e_append (q := fr) (as := fo.dropLast) (R := sCh) (y := ⟨bb.first, c.last, bb.words ++ c.words⟩) 0 (e_name 1) (e_tup (ea_cons (e_ix (i_tup (ss := [sInt bb.first, sInt bb.last, sTupl sStr bb.words]) 0 rfl rfl) (e_name 5) e_int) (ea_cons (e_name 3) (ea_cons (e_tupl (as := bb.words ++ c.words) (R := sStr) (el_starT (e_ix (i_tup (ss := [sInt bb.first, sInt bb.last, sTupl sStr bb.words]) 2 rfl rfl) (e_name 5) e_int) (el_starT1 (e_name 4))) (szl (by rw [List.length_append]; omega))) ea_nil))) (szl (by simp))) (by rw [List.length_dropLast]; exact Nat.lt_of_le_of_lt (show fo.length - 1 ≤ 100000 by omega) (by decide))) (j_on (j_nil fun σ G H st => ⟨_, G, next.symm, ?_⟩))
        rw [js]
        exact st.wk (.same (.same (.skip (.skip (.skip (.skip (.same .nil)))))))
      · have h : ¬ bb.last = c.first := by simpa using h
        have js : joinStep fo c = fo ++ [c] := by
          unfold joinStep
          rw [e]
          exact if_neg h
        refine j_expr (e_append (q := fr) (as := fo) (R := sCh) (y := c) 0 (e_name 1) (e_tup (ea_cons (e_name 2) (ea_cons (e_name 3) (ea_cons (e_name 4) ea_nil))) (szl (by simp))) (Nat.lt_of_le_of_lt (show fo.length ≤ 100000 by omega) (by decide))) (j_on (j_nil fun σ G H st => ⟨_, G, next.symm, ?_⟩))
        rw [js]
        exact st.wk (.same (.same (.skip (.skip (.skip (.same (.same .nil)))))))
  · rintro g rfl
    rw [List.take_length]
    have hstr := joinFold_str (cs := cs) (f := []) (fun _ h => by cases h) hp.1
    have hsum := joinFold_sum cs []
    have hlen : (cs.foldl joinStep []).length ≤ 100000 := by
      have := hsum.2
      simp at this
      omega
    refine j_freeze 1 (s := sLst sCh (cs.foldl joinStep [])) rfl hfr (fun K G o => frz_lst K G fr o) ?_
    refine j_ret (O1 := []) (e_callTy (c_tuple (R := sCh) (as := joinedV cs)) Cc.tuple (by decide +kernel) (ea_cons (e_lst (ew_filter1 (R := sCh) (as := cs.foldl joinStep []) 6 keepCh scJoined.nd (it_lst (e_name 1)) (blkOk_by (own := [("row", 6)]) (N := ["changes", "found", "first", "last", "words", "before", "row"]) (sc := defScope sJoined) (by decide +kernel))
        (fun y hy s H _ cl fp => t_w (tw_or2 (t_cmp o_lt (e_ix (i_tup (ss := [sInt y.first, sInt y.last, sTupl sStr y.words]) 0 rfl rfl) (e_name 6) e_int) (e_ix (i_tup (ss := [sInt y.first, sInt y.last, sTupl sStr y.words]) 1 rfl rfl) (e_name 6) e_int)) (tw_or1 (t_cmp (by refine o_neT (k := 0) ?_ ?_ ?_; (· exact hr); (· exact hstr y hy); (· intro t ht; cases ht)) (e_ix (i_tup (ss := [sInt y.first, sInt y.last, sTupl sStr y.words]) 2 rfl rfl) (e_name 6) e_int) (e_tupl (R := sStr) (as := []) el_nil (szl (by simp)))))))
        (fun y hy _ s H _ cl fp => e_name 6) (szl hlen))) ea_nil)) (fin_ret hf (fun w hw => nomatch hw) fun G v hv => hv)
end
end K51

namespace K51
open PySem L2 Gd
/-- changes that stand one behind the other, with something between them -/
def goodFrom : Int → List Ch → Prop
  | _, [] => True
  | e, c :: r => e < c.first ∧ c.first ≤ c.last ∧ okWords c.words ∧ c.words.length ≤ 1000 ∧ ¬ (c.first = c.last ∧ c.words = []) ∧ goodFrom c.last r
theorem goodFrom.all : ∀ {e : Int} {cs : List Ch}, goodFrom e cs → ∀ c ∈ cs, okWords c.words ∧ c.words.length ≤ 1000 ∧ e < c.first ∧ c.first ≤ c.last
  | _, [], _, c, h => by cases h
  | e, d :: r, g, c, h => by
    obtain ⟨g1, g2, g3, g4, g5, g6⟩ := g
    (rcases List.mem_cons.mp h with rfl | h)
    · exact ⟨g3, g4, g1, g2⟩
    · obtain ⟨h1, h2, h3, h4⟩ := g6.all c h
      exact ⟨h1, h2, by omega, h4⟩
def lastEnd (cs : List Ch) : Int := match cs.getLast? with | some c => c.last | none => 0
def endAt (cs : List Ch) (n : Nat) : Int := match (cs.take n).getLast? with | some c => c.last | none => -1
theorem endAt_succ {cs : List Ch} {n : Nat} {c : Ch} (h : cs[n]? = some c) : endAt cs (n + 1) = c.last := by
  unfold endAt
  rw [take_succ h, List.getLast?_concat]
theorem good_at : ∀ {e : Int} {cs : List Ch} {n : Nat} {c : Ch}, goodFrom e cs → cs[n]? = some c → (n = 0 → e < c.first) ∧ (0 < n → endAt cs n < c.first) ∧ c.first ≤ c.last ∧ okWords c.words ∧ c.words.length ≤ 1000 ∧ ¬ (c.first = c.last ∧ c.words = [])
  | _, [], n, c, _, h => by simp at h
  | e, d :: r, 0, c, g, h => by
    simp at h
    subst h
    exact ⟨fun _ => g.1, fun z => absurd z (by omega), g.2.1, g.2.2.1, g.2.2.2.1, g.2.2.2.2.1⟩
  | e, d :: r, n + 1, c, g, h => by
    have h' : r[n]? = some c := by simpa using h
    obtain ⟨a1, a2, a3⟩ := good_at (e := d.last) g.2.2.2.2.2 h'
    refine ⟨fun z => by omega, fun _ => ?_, a3⟩
    cases n with
    | zero => simpa [endAt] using a1 rfl
    | succ n =>
      have := a2 (by omega)
      unfold endAt at this ⊢
      rw [List.take_succ_cons]
      have hl : ∃ z, (r.take (n + 1)).getLast? = some z := by
        cases q : (r.take (n + 1)).getLast? with
        | none =>
          rw [List.getLast?_eq_none_iff] at q
          have hn := (List.getElem?_eq_some_iff.mp h').1
          have hlen := congrArg List.length q
          rw [List.length_take] at hlen
          have hlen : min (n + 1) r.length = 0 := hlen
          omega
        | some z => exact ⟨z, rfl⟩
      obtain ⟨z, hz⟩ := hl
      rw [hz] at this
      rw [List.getLast?_cons, hz]
      exact this
theorem eqv_ch (a b : Ch) : PyData.eqv (chD a) (chD b) = true ↔ a = b := by
  unfold chD
  have h := eqvAll_map (f := PyData.str) eqv_str (xs := a.words) (ys := b.words)
  cases a
  cases b
  simp [PyData.eqv, PyData.eqvAll, h]
section
variable {X : Cx}
theorem chsD (cs : List Ch) (h : ∀ c ∈ cs, okStrs c.words) : IsD (sTupl sCh cs) (.tuple (cs.map chD)) ∧ SeqAt.shaped (.tuple (cs.map chD)) = true := ⟨isD_tupl isD_ch, shaped_tup (can_ch h) (Nat.le_trans (depth_ch cs) (by decide))⟩
theorem o_eqCh {k : Nat} (hr : Room k X.A) {as bs : List Ch} (h1 : ∀ c ∈ as, okStrs c.words) (h2 : ∀ c ∈ bs, okStrs c.words) : OpE X (compareOp .Eq) (sTupl sCh as) (sTupl sCh bs) (sBl (decide (as = bs))) :=
  o_eqD hr (chsD as h1).1 (chsD bs h2).1 (chsD as h1).2 (chsD bs h2).2 (eqv_tup eqv_ch)
theorem o_neCh {k : Nat} (hr : Room k X.A) {as bs : List Ch} (h1 : ∀ c ∈ as, okStrs c.words) (h2 : ∀ c ∈ bs, okStrs c.words) : OpE X (compareOp .NotEq) (sTupl sCh as) (sTupl sCh bs) (sBl (!decide (as = bs))) :=
  o_neD hr (chsD as h1).1 (chsD bs h2).1 (chsD as h1).2 (chsD bs h2).2 (eqv_tup eqv_ch)
end
section
variable {P : Program} {w : World} {K : Fg} {mg : Str → Option Value} {base : Heap}
abbrev areN : List Str := ["thing", "row", "end", "first", "last", "words", "one", "word"]
theorem scAre : FnScope areN ["thing"] (defScope sAre) := ⟨rfl, rfl, rfl, by decide +kernel, rfl, by decide +kernel, by decide +kernel⟩
def fsAre : FS (List Ch) := { args := fun cs => [sTupl sCh cs], pre := fun cs => goodFrom (-1) cs ∧ cs.length ≤ 1000, res := fun _ => sBl true }
theorem ok_are {f fT : Addr} {fd : FuncData} (F : Fun K "are_changes" "are_changes" sAre f fd) (b : Binds K fd ["thing"] []) (T : Bt mg) (Cc : Cs K mg) (gT : mg "is_token" = some (.ref fT)) (FT : DefOk P w K mg base 2 fT [] fsIsToken) : DefOk P w K mg base 3 f [] fsAre := by
  refine fn_ok F scAre b .nil (fun _ => rfl) fun cs cdv A outer s G H D EE hr hp hf hn => ?_
  have hp : goodFrom (-1) cs ∧ cs.length ≤ 1000 := hp
  have hr2 : Room 2 _ := hr
  refine j_if (O1 := []) (u := false) (t_eq (t_w (tw_or2 (t_not (t_val (e_callB (c_isi (n := "tuple") (k := true) ty_tupl (kit_ty (by decide +kernel))) Cc.isi (by decide +kernel) (ea_cons (e_name 0) (ea_cons (e_ty "tuple" Cc.tuple (by decide +kernel)) ea_nil)))))
    (tw_or1 (t_not (t_val (e_callB c_all Cc.all (by decide +kernel) (ea_cons (e_lst (ew_map (R := sCh) (S := sBl) (as := cs) 1 (fun _ => true) scAre.nd (it_tupl (e_name 0)) (blkOk_by (own := [("row", 1)]) (N := areN) (sc := defScope sAre) (by decide +kernel))
      (fun y hy s H _ cl fp => e_and2 (e_callB (c_isi (n := "tuple") (k := true) ty_tup (kit_ty (by decide +kernel))) Cc.isi (by decide +kernel) (ea_cons (e_name 1) (ea_cons (e_ty "tuple" Cc.tuple (by decide +kernel)) ea_nil)))
        (e_one (e_cmp o_eq (e_callB (c_lenTup (ss := [sInt y.first, sInt y.last, sTupl sStr y.words])) T.len PySem.boot_len (ea_cons (e_name 1) ea_nil)) e_int))) (szl (by omega)))) ea_nil))))))) (by
    have : (List.map (fun _ => true) cs).all id = true := by simp
    rw [this]
    rfl)) (fun h => nomatch h) (fun _ => j_on ?_)
  refine j_set 2 (O1 := []) (e_neg e_int) ?_ scAre.nd
  refine j_for (O1 := []) (R := sCh) (as := cs) (fun n (g : Nat) => g = n) (fun g => [some (sTupl sCh cs), none, some (sInt (endAt cs g)), none, none, none, none, none]) (fun _ => []) (fun c => [(3, sInt c.first), (4, sInt c.last), (5, sTupl sStr c.words)])
    (it_tupl (e_name 0)) (tg_tup3 (r1 := fun c : Ch => sInt c.first) (r2 := fun c : Ch => sInt c.last) (r3 := fun c : Ch => sTupl sStr c.words) 3 4 5 scAre.nd) ⟨0, rfl, fun _ _ _ _ h => h⟩ ?_ ?_
  · rintro B1 n c g hB hy rfl
    obtain ⟨a1, a2, a3, a4, a5, a6⟩ := good_at hp.1 hy
    have he : endAt cs g < c.first := by
      rcases Nat.eq_zero_or_pos g with z | z
      · subst z
        simpa [endAt] using a1 rfl
      · exact a2 z
    refine j_if (O1 := []) (u := false) (t_eq (t_not (t_val (e_callB c_all Cc.all (by decide +kernel) (ea_cons (e_lst (ew_map (R := sInt) (S := sBl) (as := [c.first, c.last]) 6 (fun _ => true) scAre.nd (it_tupl (e_tupl (el_cons (e_name 3) (el_cons (e_name 4) el_nil)) (szl (by simp))))
      (blkOk_by (own := [("one", 6)]) (N := areN) (sc := defScope sAre) (by decide +kernel)) (fun y hy _ _ _ _ _ => ?_) (szl (by simp)))) ea_nil)))) (by rfl)) (fun h => nomatch h) (fun _ => j_on ?_)
    · exact e_and2 (e_callB (c_isi (n := "int") (k := true) ty_int (kit_ty (by decide +kernel))) Cc.isi (by decide +kernel) (ea_cons (e_name 6) (ea_cons (e_ty "int" Cc.int (by decide +kernel)) ea_nil)))
        (e_one (e_not (e_callB (c_isi (n := "bool") (k := false) ty_int (kit_ty (by decide +kernel))) Cc.isi (by decide +kernel) (ea_cons (e_name 6) (ea_cons (e_ty "bool" Cc.bool (by decide +kernel)) ea_nil)))))
    refine j_if (O1 := []) (u := false) (t_eq (t_w (tw_or2 (t_not (t_chain o_lt (fun _ => o_le) (e_name 2) (e_name 3) (e_name 4))) (tw_or2 (t_not (t_val (e_callB (c_isi (n := "tuple") (k := true) ty_tupl (kit_ty (by decide +kernel))) Cc.isi (by decide +kernel) (ea_cons (e_name 5) (ea_cons (e_ty "tuple" Cc.tuple (by decide +kernel)) ea_nil)))))
      (tw_or1 (t_not (t_val (e_callB c_all Cc.all (by decide +kernel) (ea_cons (e_lst (ew_map (R := sStr) (S := sBl) (as := c.words) 7 (fun t => isToken t) scAre.nd (it_tupl (e_name 5))
        (blkOk_by (own := [("word", 7)]) (N := areN) (sc := defScope sAre) (by decide +kernel)) (fun y hy _ _ _ _ _ => ?_) (szl (by omega)))) ea_nil)))))))) ?_) (fun h => nomatch h) (fun _ => j_on ?_)
    · exact e_callR (S := fsIsToken) (O2 := []) y FT hr2 gT (ea_cons (e_name 7) ea_nil) (by exact (a4 y hy).2)
    · have : (List.map (fun t => isToken t) c.words).all id = true := by
        rw [List.all_map, List.all_eq_true]
        exact fun t ht => (a4 t ht).1
      rw [this]
      simp [he, a3]
    refine j_if (O1 := []) (u := false) (t_eq (t_w (tw_and2 (t_cmp o_eq (e_name 3) (e_name 4)) (tw_and1 (t_cmp (o_eqT (us := []) hr a4.str (fun t ht => by cases ht)) (e_name 5) (e_tupl (R := sStr) (as := []) el_nil (szl (by simp))))))) ?_) (fun h => nomatch h) (fun _ => j_on ?_)
    · cases e1 : decide (c.first = c.last) with
      | false => rfl
      | true =>
        cases e2 : decide (c.words = []) with
        | false => rfl
        | true => exact absurd ⟨of_decide_eq_true e1, of_decide_eq_true e2⟩ a6
    refine j_set 2 (O1 := []) (e_name 4) (j_nil fun σ G H st => ⟨g + 1, G, rfl, ?_⟩) scAre.nd
    show Sta K B1 [_, _, some (sInt (endAt cs (g + 1))), _, _, _, _, _] _ σ G H
    rw [endAt_succ hy]
    exact st.wk (.same (.same (.same (.skip (.skip (.skip (.same (.same .nil))))))))
  · rintro g rfl
    exact j_ret (O1 := []) e_bl (fin_ret hf (fun w hw => hw) fun G v hv => hv)
end
end K51

namespace K51
open PySem L2 Gd
abbrev sPInit : Stmt := inClass (top 23) 0
abbrev sPEq : Stmt := inClass (top 23) 1
abbrev sPLen : Stmt := inClass (top 23) 2
abbrev sPIter : Stmt := inClass (top 23) 3
abbrev sPBool : Stmt := inClass (top 23) 4
abbrev sPCall : Stmt := inClass (top 23) 5
abbrev sPGrowth : Stmt := inClass (top 23) 6
abbrev sPEdits : Stmt := inClass (top 23) 7
structure Pa where
  changes : List Ch
  least : Int
  deriving DecidableEq
abbrev paTab (p : Pa) : List (Str × Slot) := [("changes", sTupl sCh p.changes), ("least", sInt p.least)]
abbrev sPa (CP : Addr) (p : Pa) : Slot := sIns CP (paTab p)
def Pa.ok (p : Pa) : Prop := goodFrom (-1) p.changes ∧ p.changes.length ≤ 1000 ∧ lastEnd p.changes ≤ p.least
theorem Pa.ok.str {p : Pa} (h : p.ok) : ∀ c ∈ p.changes, okStrs c.words := fun c hc => (h.1.all c hc).1.str
structure PaC (K : Fg) (mg : Str → Option Value) (CP : Addr) : Prop where
  cl : Cls K CP
  nC : NoAttr K CP "changes"
  nL : NoAttr K CP "least"
  gP : mg "Patch" = some (.ref CP)
def Pa.growth (p : Pa) : Int := (p.changes.map Ed.growth).sum
def runStep (ws : List Str) (s : List Str × Int) (c : Ch) : List Str × Int := (s.1 ++ (cutA ws (some s.2) (some c.first) ++ c.words), c.last)
def runAt (cs : List Ch) (ws : List Str) (n : Nat) : List Str × Int := (cs.take n).foldl (runStep ws) ([], 0)
def Pa.run (p : Pa) (ws : List Str) : List Str := (runAt p.changes ws p.changes.length).1 ++ cutA ws (some (runAt p.changes ws p.changes.length).2) none
theorem runAt_succ {cs : List Ch} {ws : List Str} {n : Nat} {c : Ch} (h : cs[n]? = some c) : runAt cs ws (n + 1) = runStep ws (runAt cs ws n) c := by
  unfold runAt
  rw [take_succ h, List.foldl_append]
  rfl
theorem cutA_len {α : Type} (xs : List α) (a b : Option Int) : (cutA xs a b).length ≤ xs.length := by
  unfold cutA
  (rw [List.length_take, List.length_drop])
  omega
theorem runAt_len {cs : List Ch} {ws : List Str} (h : ∀ c ∈ cs, c.words.length ≤ 1000) (hl : ws.length ≤ 200) : ∀ n, n ≤ cs.length → (runAt cs ws n).1.length ≤ 1200 * n
  | 0, _ => by simp [runAt]
  | n + 1, hn => by
    have ih := runAt_len h hl n (by omega)
    have hc := List.getElem?_eq_getElem (show n < cs.length from hn)
    rw [runAt_succ hc]
    have h1 := h _ (List.mem_of_getElem? hc)
    have h2 := cutA_len ws (some (runAt cs ws n).2) (some cs[n].first)
    show ((runAt cs ws n).1 ++ (cutA ws (some (runAt cs ws n).2) (some cs[n].first) ++ cs[n].words)).length ≤ _
    rw [List.length_append, List.length_append]
    omega
def Pa.fits (p : Pa) (ws : List Str) : Prop := p.ok ∧ okWords ws ∧ ws.length ≤ 200 ∧ p.least ≤ ws.length
section
variable {P : Program} {w : World} {K : Fg} {mg : Str → Option Value} {base : Heap} {C CP : Addr}
theorem scPInit : FnScope ["self", "changes", "least"] ["self", "changes", "least"] (defScope sPInit) := ⟨rfl, rfl, rfl, by decide +kernel, rfl, by decide +kernel, by decide +kernel⟩
def fsPInit (CP : Addr) : FS (Addr × Pa) := { args := fun i => [sRef i.1, sTupl sCh i.2.changes, sInt i.2.least], pre := fun i => i.2.ok, own := fun i => [oIns i.1 CP []], res := fun _ => sNon, own' := fun i => [oIns i.1 CP (paTab i.2)] }
theorem ok_pinit {f fA : Addr} {fd : FuncData} (F : Fun K "__init__" "Patch.__init__" sPInit f fd) (b : Binds K fd ["self", "changes", "least"] []) (Cc : Cs K mg) (PC : PaC K mg CP) (gA : mg "are_changes" = some (.ref fA)) (FA : DefOk P w K mg base 3 fA [] fsAre) : DefOk P w K mg base 4 f [] (fsPInit CP) := by
  refine fn_ok F scPInit b .nil (fun _ => rfl) fun ⟨x, p⟩ cdv A outer s G H D EE hr hp hf hn => ?_
  have hp : p.ok := hp
  refine j_if (O1 := [oIns x CP []]) (u := false) (t_eq (t_not (t_val (e_call (S := fsAre) (O2 := [oIns x CP []]) p.changes FA hr gA (ea_cons (e_name 1) ea_nil) ⟨hp.1, hp.2.1⟩))) rfl) (fun h => nomatch h) (fun _ => j_on ?_)
  refine j_if (O1 := [oIns x CP []]) (u := false) (t_eq (t_w (tw_or2 (t_not (t_val (e_callB (c_isi (n := "int") (k := true) ty_int (kit_ty (by decide +kernel))) Cc.isi (by decide +kernel) (ea_cons (e_name 2) (ea_cons (e_ty "int" Cc.int (by decide +kernel)) ea_nil)))))
    (tw_or2 (t_val (e_callB (c_isi (n := "bool") (k := false) ty_int (kit_ty (by decide +kernel))) Cc.isi (by decide +kernel) (ea_cons (e_name 2) (ea_cons (e_ty "bool" Cc.bool (by decide +kernel)) ea_nil))))
    (tw_or1 (t_cmp o_lt (e_name 2) (e_ife (s := sInt (lastEnd p.changes)) (φ := fun _ => sNon) (t_cmp (o_neCh (bs := []) hr hp.str (fun c hc => by cases hc)) (e_name 1) (e_tupl (R := sCh) (as := []) el_nil (szl (by simp)))) (fun h => ?_) (fun h => ?_))))))) ?_) (fun h => nomatch h) (fun _ => j_on ?_)
  · have h : p.changes ≠ [] := by simpa using h
    cases e : p.changes.getLast? with
    | none => rw [List.getLast?_eq_none_iff] at e; exact absurd e h
    | some c =>
      have el : lastEnd p.changes = c.last := by unfold lastEnd; rw [e]
      rw [el]
      exact e_ix (i_tup (ss := [sInt c.first, sInt c.last, sTupl sStr c.words]) 1 rfl rfl) (e_ix (i_tupl (R := sCh) (y := c) (atI_neg1 e)) (e_name 1) (e_neg e_int)) e_int
  · have h : p.changes = [] := by simpa using h
    have el : lastEnd p.changes = 0 := by rw [h]; rfl
    rw [el]
    exact e_int
  · have := hp.2.2
    simp
    omega
  refine j_fld (O1 := [oIns x CP []]) (O2 := [oIns x CP []]) 0 (e_name 1) (e_name 0) PC.cl PC.nC ?_
  refine j_fld (O1 := [oIns x CP [("changes", sTupl sCh p.changes)]]) (O2 := [oIns x CP [("changes", sTupl sCh p.changes)]]) 0 (e_name 2) (e_name 0) PC.cl PC.nL ?_
  exact fin_end hf hn fun w hw => hw
theorem scPEq : FnScope ["self", "other"] ["self", "other"] (defScope sPEq) := ⟨rfl, rfl, rfl, by decide +kernel, rfl, by decide +kernel, by decide +kernel⟩
def fsPEq (CP : Addr) : FS (Pa × Pa) := { args := fun i => [sPa CP i.1, sPa CP i.2], pre := fun i => i.1.ok ∧ i.2.ok, res := fun i => sBl (decide (i.1 = i.2)) }
theorem ok_peq {f : Addr} {fd : FuncData} (F : Fun K "__eq__" "Patch.__eq__" sPEq f fd) (b : Binds K fd ["self", "other"] []) (Cc : Cs K mg) (PC : PaC K mg CP) (CI : ClsI K CP) : DefOk P w K mg base 1 f [] (fsPEq CP) := by
  refine fn_ok F scPEq b .nil (fun _ => rfl) fun ⟨p, q⟩ cdv A outer s G H D EE hr hp hf hn => ?_
  have hp : p.ok ∧ q.ok := hp
  refine j_ret (O1 := []) (e_and2 (e_callB (c_isiC (k := true) (ty_ins CI) kit_self) Cc.isi (by decide +kernel) (ea_cons (e_name 1) (ea_cons (e_gref PC.gP) ea_nil))) (e_and2 (e_cmp (o_eqCh hr hp.1.str hp.2.str) (e_fld 0 PC.cl PC.nC (e_name 0)) (e_fld 0 PC.cl PC.nC (e_name 1)))
    (e_one (e_cmp o_eq (e_fld 1 PC.cl PC.nL (e_name 0)) (e_fld 1 PC.cl PC.nL (e_name 1)))))) (fin_ret hf (fun w hw => hw) fun G v hv => ?_)
  have hv : v = V.bl (true && (decide (p.changes = q.changes) && decide (p.least = q.least))) := hv
  show v = V.bl (decide (p = q))
  rw [hv]
  congr 1
  rw [Bool.eq_iff_iff]
  cases p
  cases q
  simp
theorem scPLen : FnScope ["self"] ["self"] (defScope sPLen) := ⟨rfl, rfl, rfl, by decide +kernel, rfl, by decide +kernel, by decide +kernel⟩
def fsPLen (CP : Addr) : FS Pa := { args := fun i => [sPa CP i], pre := fun _ => True, res := fun i => sInt i.changes.length }
theorem ok_plen {f : Addr} {fd : FuncData} (F : Fun K "__len__" "Patch.__len__" sPLen f fd) (b : Binds K fd ["self"] []) (T : Bt mg) (PC : PaC K mg CP) : DefOk P w K mg base 1 f [] (fsPLen CP) := by
  refine fn_ok F scPLen b .nil (fun _ => rfl) fun e cdv A outer s G H D EE hr hp hf hn => ?_
  exact j_ret (O1 := []) (e_callB c_lenT T.len PySem.boot_len (ea_cons (e_fld 0 PC.cl PC.nC (e_name 0)) ea_nil)) (fin_ret hf (fun w hw => hw) fun G v hv => hv)
theorem scPBool : FnScope ["self"] ["self"] (defScope sPBool) := ⟨rfl, rfl, rfl, by decide +kernel, rfl, by decide +kernel, by decide +kernel⟩
def fsPBool (CP : Addr) : FS Pa := { args := fun i => [sPa CP i], pre := fun _ => True, res := fun i => sBl (!decide ((i.changes.length : Int) = 0)) }
theorem ok_pbool {f : Addr} {fd : FuncData} (F : Fun K "__bool__" "Patch.__bool__" sPBool f fd) (b : Binds K fd ["self"] []) (T : Bt mg) (PC : PaC K mg CP) : DefOk P w K mg base 1 f [] (fsPBool CP) := by
  refine fn_ok F scPBool b .nil (fun _ => rfl) fun e cdv A outer s G H D EE hr hp hf hn => ?_
  exact j_ret (O1 := []) (e_not (e_cmp o_eq (e_callB c_lenT T.len PySem.boot_len (ea_cons (e_fld 0 PC.cl PC.nC (e_name 0)) ea_nil)) e_int)) (fin_ret hf (fun w hw => hw) fun G v hv => hv)
theorem scPGrowth : FnScope ["self", "change"] ["self"] (defScope sPGrowth) := ⟨rfl, rfl, rfl, by decide +kernel, rfl, by decide +kernel, by decide +kernel⟩
def fsPGrowth (CP : Addr) : FS Pa := { args := fun i => [sPa CP i], pre := fun i => i.changes.length ≤ 1000, res := fun i => sInt i.growth }
theorem ok_pgrowth {f fG : Addr} {fd : FuncData} (F : Fun K "growth" "Patch.growth" sPGrowth f fd) (b : Binds K fd ["self"] []) (zs : mg "sum" = none) (PC : PaC K mg CP) (gG : mg "growth_of" = some (.ref fG)) (FG : DefOk P w K mg base 1 fG [] fsGrowthOf) : DefOk P w K mg base 2 f [] (fsPGrowth CP) := by
  refine fn_ok F scPGrowth b .nil (fun _ => rfl) fun p cdv A outer s G H D EE hr hp hf hn => ?_
  have hp : p.changes.length ≤ 1000 := hp
  exact j_ret (O1 := []) (e_callB c_sum zs (by decide +kernel) (ea_cons (e_lst (ew_map (R := sCh) (S := sInt) (as := p.changes) 1 Ed.growth scPGrowth.nd (it_tupl (e_fld 0 PC.cl PC.nC (e_name 0))) (blkOk_by (own := [("change", 1)]) (N := ["self", "change"]) (sc := defScope sPGrowth) (by decide +kernel))
    (fun y hy s H _ cl fp => e_callR (S := fsGrowthOf) (O2 := []) y FG hr gG (ea_cons (e_name 1) ea_nil) trivial) (szl (by omega)))) ea_nil)) (fin_ret hf (fun w hw => hw) fun G v hv => hv)
end
end K51

namespace K51
open PySem L2 Gd
section
variable {P : Program} {w : World} {K : Fg} {mg : Str → Option Value} {base : Heap} {C CP : Addr}
/-- Edit(e, e, ws): a frozen edit -/
theorem e_edit {X : Cx} {δ : List (Option Slot)} {O O1 : List Own} {a1 a2 a3 : Expr} {f : Addr} {p pos : Pos} {i j : Int} {ws : List Str} (tup : Bool) (M : Mk X.K C f) (FI : DefX X 3 f [] (fsInit C)) (hr : Room 4 X.A) (gC : X.mg "Edit" = some (.ref C)) (hp : (Ed.mk i j ws).ok)
    (ha : EA X δ O [a1, a2, a3] [sInt i, sInt j, sWs tup ws] O1) (hg : Gl X "Edit" := by rfl) (h1 : noStar a1 = true := by rfl) (h2 : noStars [a2, a3] = true := by rfl) : E X δ O (.Call (.Name "Edit" p) [a1, a2, a3] [] pos) (sEd C ⟨i, j, ws⟩) O1 :=
  e_ins (ew_make (S := fsInit C) (fun q => (q, ⟨i, j, ws⟩, tup)) M FI hr gC ha (fun q => hp) (fun _ => rfl) (fun _ => rfl) (fun _ => rfl) (fun _ => rfl) (fun _ => rfl) hg (by decide) h1 h2)
theorem scPEdits : FnScope ["self", "first", "last", "words"] ["self"] (defScope sPEdits) := ⟨rfl, rfl, rfl, by decide +kernel, rfl, by decide +kernel, by decide +kernel⟩
def fsPEdits (C CP : Addr) : FS Pa := { args := fun i => [sPa CP i], pre := fun i => i.ok, res := fun i => sLst (sEd C) i.changes.reverse }
theorem goodFrom.ed {e : Int} {cs : List Ch} (h : goodFrom e cs) (he : -1 ≤ e) : ∀ c ∈ cs, c.ok := fun c hc => by
  obtain ⟨h1, h2, h3, h4⟩ := h.all c hc
  exact ⟨⟨by omega, h4⟩, h1, by omega⟩
theorem ok_pedits {f fI : Addr} {fd : FuncData} (F : Fun K "edits" "Patch.edits" sPEdits f fd) (b : Binds K fd ["self"] []) (PC : PaC K mg CP) (EC : EdC K mg C) (M : Mk K C fI) (FI : DefOk P w K mg base 3 fI [] (fsInit C)) : DefOk P w K mg base 5 f [] (fsPEdits C CP) := by
  refine fn_ok F scPEdits b .nil (fun _ => rfl) fun p cdv A outer s G H D EE hr hp hf hn => ?_
  have hp : p.ok := hp
  have hl := hp.2.1
  refine j_ret (O1 := []) (s := sLst (sEd C) p.changes.reverse) (e_lst ?_) (fin_ret hf (fun w hw => hw) fun G v hv => hv)
  have key : ∀ c ∈ p.changes.reverse, c.ok := fun c hc => hp.1.ed (by decide) c (List.mem_reverse.mp hc)
  have e : p.changes.reverse.map (fun c : Ch => (c : Ed)) = p.changes.reverse := List.map_id' _
  rw [← e]
  exact ew_mapT3 (S := sEd C) (as := p.changes.reverse) (r1 := fun c : Ch => sInt c.first) (r2 := fun c : Ch => sInt c.last) (r3 := fun c : Ch => sTupl sStr c.words) 1 2 3 (fun c : Ch => (c : Ed)) scPEdits.nd
    (it_tupl (e_revT (e_fld 0 PC.cl PC.nC (e_name 0)))) (blkOk_by (own := [("first", 1), ("last", 2), ("words", 3)]) (N := ["self", "first", "last", "words"]) (sc := defScope sPEdits) (by decide +kernel))
    (fun y hy s H _ cl fp => e_edit (ws := y.words) true M FI hr EC.gC (key y hy) (ea_cons (e_name 1) (ea_cons (e_name 2) (ea_cons (e_name 3) ea_nil)))) (szl (by rw [List.length_reverse]; omega))
theorem scPCall : FnScope ["self", "words", "found", "start", "first", "last", "new"] ["self", "words"] (defScope sPCall) := ⟨rfl, rfl, rfl, by decide +kernel, rfl, by decide +kernel, by decide +kernel⟩
def fsPCall (CP : Addr) : FS (Pa × Bool × List Str) := { args := fun i => [sPa CP i.1, sWs i.2.1 i.2.2], pre := fun i => i.1.fits i.2.2, res := fun i => sLst sStr (i.1.run i.2.2) }
theorem el_ws {X : Cx} {δ : List (Option Slot)} {O O1 O2 O3 O4 : List Own} {e : Expr} {lo hi : Option Expr} {l u : Option Int} {es : List Expr} {ys ws : List Str} {p p2 pos : Pos} (tup : Bool) (he : E X δ O e (sWs tup ws) O1) (hl : PoE X δ O1 lo l O2) (hu : PoE X δ O2 hi u O3) (hr : EL X δ O3 sStr es ys O4) :
    EL X δ O sStr (.Starred (.Subscript e (.Slice lo hi none p2) pos) p :: es) (cutA ws l u ++ ys) O4 := by
  cases tup with
  | false => exact el_star (e_lst (ew_slice he hl hu)) hr
  | true => exact el_starT (e_sliceT he hl hu) hr
theorem ok_pcall {f fK : Addr} {fd : FuncData} (F : Fun K "__call__" "Patch.__call__" sPCall f fd) (b : Binds K fd ["self", "words"] []) (T : Bt mg) (PC : PaC K mg CP) (gK : mg "check_words" = some (.ref fK)) (FK : DefOk P w K mg base 3 fK [.bl false, .int 200] fsCheck) : DefOk P w K mg base 4 f [] (fsPCall CP) := by
  refine fn_ok F scPCall b .nil (fun _ => rfl) fun ⟨p, tup, ws⟩ cdv A outer s G H D EE hr hp hf hn => ?_
  have hp : p.fits ws := hp
  have hl := hp.1.2.1
  have hws := hp.2.2.1
  have hcw : ∀ c ∈ p.changes, c.words.length ≤ 1000 := fun c hc => (hp.1.1.all c hc).2.1
  have len : CallE (cxD P w K mg base ["self", "words", "found", "start", "first", "last", "new"] "Patch.__call__" sPCall f cdv A outer s H EE) (.builtin "len") [sWs tup ws] (sInt ws.length) := by
    cases tup with
    | false => exact c_len
    | true => exact c_lenT
  refine j_expr (O1 := []) (e_call (O2 := []) (S := fsCheck) (tup, ws) FK hr gK (ea_cons (e_name 1) ea_nil) ⟨hp.2.1, hp.2.2.1⟩) ?_
  refine j_if (O1 := []) (u := false) (t_eq (t_cmp o_lt (e_callB len T.len PySem.boot_len (ea_cons (e_name 1) ea_nil)) (e_fld 1 PC.cl PC.nL (e_name 0))) (decide_eq_false (by have := hp.2.2.2; show ¬ (ws.length : Int) < p.least; omega))) (fun h => nomatch h) (fun _ => j_on ?_)
  refine j_parW1 (O1 := []) (s2 := sInt 0) 2 3 (ew_lst (R := sStr) (as := []) el_nil (szl (by simp))) (fun r => e_int) (fun fr hfr => ?_) scPCall.nd
  refine j_for (O1 := [oLst fr sStr []]) (R := sCh) (as := p.changes) (fun n (g : Nat) => g = n) (fun g => [some (sPa CP p), some (sWs tup ws), some (sRef fr), some (sInt (runAt p.changes ws g).2), none, none, none]) (fun g => [oLst fr sStr (runAt p.changes ws g).1]) (fun c => [(4, sInt c.first), (5, sInt c.last), (6, sTupl sStr c.words)])
    (it_tupl (e_fld 0 PC.cl PC.nC (e_name 0))) (tg_tup3 (r1 := fun c : Ch => sInt c.first) (r2 := fun c : Ch => sInt c.last) (r3 := fun c : Ch => sTupl sStr c.words) 4 5 6 scPCall.nd) ⟨0, rfl, fun _ _ _ _ h => h⟩ ?_ ?_
  · rintro B1 n c g hB hy rfl
    have hg : g < p.changes.length := (List.getElem?_eq_some_iff.mp hy).1
    have h1 := runAt_len hcw hws g (by omega)
    have h2 := cutA_len ws (some (runAt p.changes ws g).2) (some c.first)
    have h3 := hcw c (List.mem_of_getElem? hy)
    refine j_expr (e_extend (q := fr) (as := (runAt p.changes ws g).1) (bs := cutA ws (some (runAt p.changes ws g).2) (some c.first) ++ c.words) (R := sStr) 0 (e_name 2) (e_lst (ew_lst (el_ws tup (e_name 1) (po_s (e_name 3)) (po_s (e_name 4)) (el_starT1 (e_name 6))) (szl (by rw [List.length_append]; omega)))) (by rw [List.length_append]; exact Nat.le_trans (show _ ≤ 1300000 by omega) (by decide))) ?_
    refine j_set 3 (O1 := [oLst fr sStr ((runAt p.changes ws g).1 ++ (cutA ws (some (runAt p.changes ws g).2) (some c.first) ++ c.words))]) (e_name 5) (j_nil fun σ G H st => ⟨g + 1, G, rfl, ?_⟩) scPCall.nd
    show Sta K B1 [_, _, _, some (sInt (runAt p.changes ws (g + 1)).2), _, _, _] [oLst fr sStr (runAt p.changes ws (g + 1)).1] σ G H
    rw [runAt_succ hy]
    exact st.wk (.same (.same (.same (.same (.skip (.skip (.skip .nil)))))))
  · rintro g rfl
    have h1 := runAt_len hcw hws p.changes.length (Nat.le_refl _)
    have h2 := cutA_len ws (some (runAt p.changes ws p.changes.length).2) none
    refine j_freeze 2 (s := sLst sStr (runAt p.changes ws p.changes.length).1) rfl hfr (fun K G o => frz_lst K G fr o) ?_
    refine j_ret (O1 := []) (s := sLst sStr (p.run ws)) (e_lst (ew_lst ?_ ?_)) (fin_ret hf (fun w hw => nomatch hw) fun G v hv => hv)
    · show EL _ _ _ sStr _ ((runAt p.changes ws p.changes.length).1 ++ cutA ws (some (runAt p.changes ws p.changes.length).2) none) _
      rw [← List.append_nil (cutA ws (some (runAt p.changes ws p.changes.length).2) none)]
      exact el_star (e_name 2) (el_ws tup (e_name 1) (po_s (e_name 3)) po_n el_nil)
    · show ((runAt p.changes ws p.changes.length).1 ++ cutA ws (some (runAt p.changes ws p.changes.length).2) none).length ≤ sizeLine
      rw [List.length_append]
      exact Nat.le_trans (show _ ≤ 1300000 by omega) (by decide)
end
end K51

namespace K51
open PySem L2 Gd
abbrev sQInit : Stmt := inClass (top 25) 0
abbrev sQCut : Stmt := inClass (top 25) 1
abbrev sQSize : Stmt := inClass (top 25) 2
abbrev sQParted : Stmt := inClass (top 25) 3
abbrev sQEdit : Stmt := inClass (top 25) 4
abbrev sQTold : Stmt := inClass (top 25) 5
/-- a row: old words from a to b (none: to the end), or a new word -/
inductive Rw where
  | gap (a : Int) (b : Option Int)
  | word (t : Str)
  deriving DecidableEq
def sRw : Rw → Slot
  | .gap a b => sTup [sInt a, sOpt sInt b]
  | .word t => sTup [sStr t, sNon]
def sizeV : Rw → Option Int
  | .gap a (some b) => some (b - a)
  | .gap _ none => none
  | .word _ => some 1
structure Ps where
  rows : List Rw
  least : Int
structure QC (K : Fg) (mg : Str → Option Value) (CQ : Addr) : Prop where
  cl : Cls K CQ
  nR : NoAttr K CQ "rows"
  nL : NoAttr K CQ "least"
  gQ : mg "Pieces" = some (.ref CQ)
abbrev qTab (r : Addr) (least : Int) : List (Str × Slot) := [("rows", sRef r), ("least", sInt least)]
def oQ (CQ x r : Addr) (q : Ps) : List Own := [oIns x CQ (qTab r q.least), oLst r sRw q.rows]
theorem max2 (a b : Int) : ∃ m, m ∈ [a, b] ∧ (∀ y ∈ [a, b], y ≤ m) ∧ m = max a b := by
  rcases Int.le_total a b with h | h
  · exact ⟨b, by simp, by simp [h], by omega⟩
  · exact ⟨a, by simp, by simp [h], by omega⟩
theorem c_max2 {X : Cx} {a b : Int} (hc : X.calm = true := by rfl) : CallE X (.builtin "max") [sLst sInt [a, b]] (sInt (max a b)) := by
  obtain ⟨m, h1, h2, h3⟩ := max2 a b
  rw [← h3]
  exact c_max h1 h2 hc
section
variable {P : Program} {w : World} {K : Fg} {mg : Str → Option Value} {base : Heap} {C CP CQ : Addr}
theorem scQInit : FnScope ["self"] ["self"] (defScope sQInit) := ⟨rfl, rfl, rfl, by decide +kernel, rfl, by decide +kernel, by decide +kernel⟩
def fsQInit (CQ : Addr) : FSX Addr Addr := { args := fun x => [sRef x], own := fun x => [oIns x CQ []], res := fun _ _ => sNon, own' := fun x r => oQ CQ x r ⟨[.gap 0 none], 0⟩ }
theorem ok_qinit {f : Addr} {fd : FuncData} (F : Fun K "__init__" "Pieces.__init__" sQInit f fd) (b : Binds K fd ["self"] []) (Q : QC K mg CQ) : DefOkX P w K mg base 1 f [] (fsQInit CQ) := by
  refine fn_okX F scQInit b .nil (fun _ => rfl) fun x cdv A outer s G H D EE hr hp hf hn => ?_
  refine j_fldW (O1 := [oIns x CQ []]) (O2 := [oIns x CQ []]) 0 (ew_lst (R := sRw) (as := [.gap 0 none]) (el_cons (e_tup (ea_cons e_int (ea_cons e_non ea_nil)) (szl (by simp))) el_nil) (szl (by simp))) (fun r => e_name 0) Q.cl Q.nR (fun r => ?_)
  refine j_swap ?_
  refine j_fld (O1 := [oIns x CQ [("rows", sRef r)], oLst r sRw [.gap 0 none]]) (O2 := [oIns x CQ [("rows", sRef r)], oLst r sRw [.gap 0 none]]) 0 e_int (e_name 0) Q.cl Q.nL ?_
  exact fin_endX r hf hn rfl
theorem scQSize : FnScope ["self", "row"] ["self", "row"] (defScope sQSize) := ⟨rfl, rfl, rfl, by decide +kernel, rfl, by decide +kernel, by decide +kernel⟩
def fsQSize : FS (Addr × Rw) := { args := fun i => [sRef i.1, sRw i.2], pre := fun _ => True, res := fun i => sOpt sInt (sizeV i.2) }
theorem ok_qsize {f : Addr} {fd : FuncData} (F : Fun K "size" "Pieces.size" sQSize f fd) (b : Binds K fd ["self", "row"] []) (Cc : Cs K mg) : DefOk P w K mg base 1 f [] fsQSize := by
  refine fn_ok F scQSize b .nil (fun _ => rfl) fun ⟨x, row⟩ cdv A outer s G H D EE hr hp hf hn => ?_
  cases row with
  | word t =>
    refine j_if (O1 := []) (u := true) (t_val (e_callB (c_isi (n := "str") (k := true) ty_str (kit_ty (by decide +kernel))) Cc.isi (by decide +kernel) (ea_cons (e_ix (i_tup (ss := [sStr t, sNon]) 0 rfl rfl) (e_name (s := sTup [sStr t, sNon]) 1) e_int) (ea_cons (e_ty "str" Cc.str (by decide +kernel)) ea_nil)))) (fun _ => ?_) (fun h => nomatch h)
    exact j_ret (O1 := []) (s := sInt 1) e_int (fin_ret hf (fun w hw => hw) fun G v hv => hv)
  | gap a bb =>
    refine j_if (O1 := []) (u := false) (t_val (e_callB (c_isi (n := "str") (k := false) ty_int (kit_ty (by decide +kernel))) Cc.isi (by decide +kernel) (ea_cons (e_ix (i_tup (ss := [sInt a, sOpt sInt bb]) 0 rfl rfl) (e_name (s := sTup [sInt a, sOpt sInt bb]) 1) e_int) (ea_cons (e_ty "str" Cc.str (by decide +kernel)) ea_nil)))) (fun h => nomatch h) (fun _ => j_on ?_)
    cases bb with
    | none =>
      exact j_ret (O1 := []) (s := sNon) (e_ife (φ := fun _ => sNon) (u := true) (t_cmp (o_isN (k := true) (s := sNon) fun K G v q => decide_eq_true q) (e_ix (i_tup (ss := [sInt a, sNon]) 1 rfl rfl) (e_name (s := sTup [sInt a, sNon]) 1) e_int) e_non) (fun _ => e_non) (fun h => nomatch h)) (fin_ret hf (fun w hw => hw) fun G v hv => hv)
    | some z =>
      exact j_ret (O1 := []) (s := sInt (z - a)) (e_ife (φ := fun _ => sNon) (u := false) (t_cmp o_isI (e_ix (i_tup (ss := [sInt a, sInt z]) 1 rfl rfl) (e_name (s := sTup [sInt a, sInt z]) 1) e_int) e_non) (fun h => nomatch h) (fun _ => e_bin o_sub (e_ix (i_tup (ss := [sInt a, sInt z]) 1 rfl rfl) (e_name (s := sTup [sInt a, sInt z]) 1) e_int) (e_ix (i_tup (ss := [sInt a, sInt z]) 0 rfl rfl) (e_name (s := sTup [sInt a, sInt z]) 1) e_int))) (fin_ret hf (fun w hw => hw) fun G v hv => hv)
theorem scQParted : FnScope ["self", "row", "many"] ["self", "row", "many"] (defScope sQParted) := ⟨rfl, rfl, rfl, by decide +kernel, rfl, by decide +kernel, by decide +kernel⟩
structure PtI where
  x : Addr
  r : Addr
  least : Int
  a : Int
  b : Option Int
  m : Int
def fsQParted (CQ : Addr) : FS PtI := { args := fun i => [sRef i.x, sRw (.gap i.a i.b), sInt i.m], own := fun i => [oIns i.x CQ (qTab i.r i.least)], res := fun i => sLst sRw [.gap i.a (some (i.a + i.m)), .gap (i.a + i.m) i.b], own' := fun i => [oIns i.x CQ (qTab i.r (max i.least (i.a + i.m)))] }
theorem ok_qparted {f : Addr} {fd : FuncData} (F : Fun K "parted" "Pieces.parted" sQParted f fd) (b : Binds K fd ["self", "row", "many"] []) (zm : mg "max" = none) (Q : QC K mg CQ) : DefOk P w K mg base 1 f [] (fsQParted CQ) := by
  refine fn_ok F scQParted b .nil (fun _ => rfl) fun ⟨x, r, least, a, bb, m⟩ cdv A outer s G H D EE hr hp hf hn => ?_
  refine j_fldX (s := sInt (max least (a + m))) (O1 := [oIns x CQ (qTab r least)]) (O2 := [oIns x CQ (qTab r least)]) 0 1 (e_callB c_max2 zm (by decide +kernel) (ea_cons (e_lst (ew_lst (R := sInt) (el_cons (e_fldO 1 0 Q.cl Q.nL (e_name 0)) (el_cons (e_bin o_add (e_ix (i_tup (ss := [sInt a, sOpt sInt bb]) 0 rfl rfl) (e_name (s := sTup [sInt a, sOpt sInt bb]) 1) e_int) (e_name 2)) el_nil)) (szl (by simp)))) ea_nil)) (e_name 0) Q.cl Q.nL ?_
  exact j_ret (O1 := [oIns x CQ (qTab r (max least (a + m)))]) (e_lst (ew_lst (R := sRw) (as := [.gap a (some (a + m)), .gap (a + m) bb]) (el_cons (e_tup (ss := [sInt a, sInt (a + m)]) (ea_cons (e_ix (i_tup (ss := [sInt a, sOpt sInt bb]) 0 rfl rfl) (e_name (s := sTup [sInt a, sOpt sInt bb]) 1) e_int) (ea_cons (e_bin o_add (e_ix (i_tup (ss := [sInt a, sOpt sInt bb]) 0 rfl rfl) (e_name (s := sTup [sInt a, sOpt sInt bb]) 1) e_int) (e_name 2)) ea_nil)) (szl (by simp)))
    (el_cons (e_tup (ss := [sInt (a + m), sOpt sInt bb]) (ea_cons (e_bin o_add (e_ix (i_tup (ss := [sInt a, sOpt sInt bb]) 0 rfl rfl) (e_name (s := sTup [sInt a, sOpt sInt bb]) 1) e_int) (e_name 2)) (ea_cons (e_ix (i_tup (ss := [sInt a, sOpt sInt bb]) 1 rfl rfl) (e_name (s := sTup [sInt a, sOpt sInt bb]) 1) e_int) ea_nil)) (szl (by simp))) el_nil)) (szl (by simp)))) (fin_ret hf (fun w hw => hw) fun G v hv => hv)
end
end K51

namespace K51
open PySem L2 Gd
def splitRw (row : Rw) (m : Int) : List Rw := match row with | .gap a b => [.gap a (some (a + m)), .gap (a + m) b] | .word t => [.word t]
def bump (row : Rw) (m l : Int) : Int := match row with | .gap a _ => max l (a + m) | .word _ => l
structure CutR where
  rows : List Rw
  least : Int
  idx : Nat
def cutGo (pre : List Rw) (place least : Int) : List Rw → Int → CutR
  | [], _ => ⟨pre, least, pre.length⟩
  | row :: rest, at_ => if place = at_ then ⟨pre ++ row :: rest, least, pre.length⟩ else
    match sizeV row with
    | none => ⟨pre ++ splitRw row (place - at_) ++ rest, bump row (place - at_) least, pre.length + 1⟩
    | some z => if place < at_ + z then ⟨pre ++ splitRw row (place - at_) ++ rest, bump row (place - at_) least, pre.length + 1⟩ else cutGo (pre ++ [row]) place least rest (at_ + z)
def cutV (q : Ps) (place : Int) : CutR := cutGo [] place q.least q.rows 0
section
variable {P : Program} {w : World} {K : Fg} {mg : Str → Option Value} {base : Heap} {C CP CQ : Addr}
theorem scQCut : FnScope ["self", "place", "at", "number", "row", "size"] ["self", "place"] (defScope sQCut) := ⟨rfl, rfl, rfl, by decide +kernel, rfl, by decide +kernel, by decide +kernel⟩
structure CtI where
  x : Addr
  r : Addr
  q : Ps
  place : Int
def fsQCut (CQ : Addr) : FS CtI := { args := fun i => [sRef i.x, sInt i.place], own := fun i => oQ CQ i.x i.r i.q, pre := fun i => 0 ≤ i.place ∧ i.q.rows.length ≤ 100000, res := fun i => sInt ((cutV i.q i.place).idx : Nat), own' := fun i => oQ CQ i.x i.r ⟨(cutV i.q i.place).rows, (cutV i.q i.place).least⟩ }
theorem ok_qcut {f fS fP : Addr} {fd : FuncData} (F : Fun K "cut" "Pieces.cut" sQCut f fd) (b : Binds K fd ["self", "place"] []) (T : Bt mg) (zl : mg "list" = none) (ze : mg "enumerate" = none) (Q : QC K mg CQ) (mS : Meth K CQ "size" fS) (FS : DefOk P w K mg base 1 fS [] fsQSize) (mP : Meth K CQ "parted" fP) (FP : DefOk P w K mg base 1 fP [] (fsQParted CQ)) : DefOk P w K mg base 2 f [] (fsQCut CQ) := by
  refine fn_ok F scQCut b .nil (fun _ => rfl) fun ⟨x, r, ⟨rows, least⟩, place⟩ cdv A outer s G H D EE hr hp hf hn => ?_
  have hp : 0 ≤ place ∧ rows.length ≤ 100000 := hp
  refine j_set 2 (O1 := oQ CQ x r ⟨rows, least⟩) e_int ?_ scQCut.nd
  refine j_for (O1 := oQ CQ x r ⟨rows, least⟩) (R := fun y : Rw × Nat => sTup [sInt (y.2 : Nat), sRw y.1]) (as := rows.zipIdx) (fun n (g : Int) => cutV ⟨rows, least⟩ place = cutGo (rows.take n) place least (rows.drop n) g ∧ g ≤ place) (fun g => [some (sRef x), some (sInt place), some (sInt g), none, none, none]) (fun _ => oQ CQ x r ⟨rows, least⟩) (fun y => [(3, sInt (y.2 : Nat)), (4, sRw y.1)])
    (it_enum ze (e_lst (ew_listO 1 zl (e_fldO (q := x) (tab := qTab r least) 0 0 Q.cl Q.nR (e_name 0))))) (tg_tup2 (r1 := fun y : Rw × Nat => sInt (y.2 : Nat)) (r2 := fun y : Rw × Nat => sRw y.1) 3 4 scQCut.nd) ⟨0, ⟨rfl, hp.1⟩, fun _ _ _ _ h => h⟩ ?_ ?_
  · rintro B1 n ⟨row, k⟩ g hB hy ⟨hcut, hg⟩
    have hyr : rows[n]? = some row ∧ k = n := by
      rw [List.getElem?_zipIdx] at hy
      cases z : rows[n]? with
      | none => rw [z] at hy; cases hy
      | some w => rw [z] at hy; cases hy; exact ⟨rfl, by simp⟩
    obtain ⟨hrow, rfl⟩ := hyr
    have hk : k < rows.length := (List.getElem?_eq_some_iff.mp hrow).1
    have hdrop : rows.drop k = row :: rows.drop (k + 1) := by
      rw [List.getElem?_eq_getElem hk] at hrow
      rw [← Option.some.inj hrow, ← List.drop_eq_getElem_cons hk]
    have htk : (rows.take k).length = k := by rw [List.length_take]; omega
    have hall : rows.take k ++ row :: rows.drop (k + 1) = rows := by rw [← hdrop, List.take_append_drop]
    rw [hdrop] at hcut
    unfold cutGo at hcut
    refine j_set 5 (O1 := oQ CQ x r ⟨rows, least⟩) (s := sOpt sInt (sizeV row)) (e_methO (S := fsQSize) (tab := qTab r least) (q := x) (O1 := oQ CQ x r ⟨rows, least⟩) (O2 := oQ CQ x r ⟨rows, least⟩) (x, row) 0 FS hr Q.cl mS (e_name 0) (ea_cons (e_name 4) ea_nil) trivial) ?_ scQCut.nd
    refine j_if (O1 := oQ CQ x r ⟨rows, least⟩) (t_cmp o_eq (e_name 1) (e_name 2)) (fun h => ?_) (fun h => j_on ?_)
    · have h : place = g := by simpa using h
      rw [if_pos h, hall, htk] at hcut
      refine j_ret (O1 := oQ CQ x r ⟨rows, least⟩) (e_name 3) (fin_ret (D := D) (hf.le hB) ?_ fun G v hv => ?_)
      · show ∀ w ∈ oQ CQ x r ⟨(cutV ⟨rows, least⟩ place).rows, (cutV ⟨rows, least⟩ place).least⟩, _
        rw [hcut]
        exact fun w hw => hw
      · show v = V.int ((cutV ⟨rows, least⟩ place).idx : Nat)
        rw [hcut]
        exact hv
    · have h : ¬ place = g := by simpa using h
      rw [if_neg h] at hcut
      have at_next : ∀ z, sizeV row = some z → ¬ place < g + z → cutV ⟨rows, least⟩ place = cutGo (rows.take (k + 1)) place least (rows.drop (k + 1)) (g + z) := by
        intro z hz hlt
        rw [hz] at hcut
        dsimp only at hcut
        rw [if_neg hlt] at hcut
        rw [hcut, take_succ hrow]
      cases row with
      | word t =>
        have hlt : ¬ place < g + 1 := by omega
        refine j_if (O1 := oQ CQ x r ⟨rows, least⟩) (u := false) (t_eq (t_w (tw_or2 (t_cmp o_isI (e_name (s := sInt 1) 5) e_non) (tw_or1 (t_cmp o_lt (e_name 1) (e_bin o_add (e_name 2) (e_name (s := sInt 1) 5)))))) (by simp [hlt])) (fun h => nomatch h) (fun _ => j_on ?_)
        refine j_aug 2 (m := 1) (O1 := oQ CQ x r ⟨rows, least⟩) rfl (e_name (s := sInt 1) 5) (j_nil fun σ G H st => ⟨g + 1, G, ⟨at_next 1 rfl hlt, by omega⟩, ?_⟩) scQCut.nd
        exact st.wk (.same (.same (.same (.skip (.skip (.skip .nil))))))
      | gap a bb =>
        refine j_if (O1 := oQ CQ x r ⟨rows, least⟩) (u := (match bb with | none => true | some z => decide (place < g + (z - a)))) ?_ (fun h => ?_) (fun h => j_on ?_)
        · cases bb with
          | none => exact t_w (tw_orT (t_cmp (o_isN (k := true) (s := sNon) fun K G v q => decide_eq_true q) (e_name (s := sNon) 5) e_non))
          | some z => exact t_eq (t_w (tw_or2 (t_cmp o_isI (e_name (s := sInt (z - a)) 5) e_non) (tw_or1 (t_cmp o_lt (e_name 1) (e_bin o_add (e_name 2) (e_name (s := sInt (z - a)) 5)))))) (by simp)
        · have hc : cutV ⟨rows, least⟩ place = ⟨rows.take k ++ splitRw (.gap a bb) (place - g) ++ rows.drop (k + 1), bump (.gap a bb) (place - g) least, (rows.take k).length + 1⟩ := by
            cases bb with
            | none => exact hcut
            | some z =>
              have h : place < g + (z - a) := by simpa using h
              have hcut : cutV ⟨rows, least⟩ place = if place < g + (z - a) then _ else _ := hcut
              rw [hcut, if_pos h]
          refine j_setSl (q := r) (as := rows) (bs := [.gap a (some (a + (place - g))), .gap (a + (place - g)) bb]) (R := sRw) (i := (k : Nat)) (j := (k : Nat) + 1) (O1 := [oIns x CQ (qTab r (max least (a + (place - g)))), oLst r sRw rows]) (O2 := [oIns x CQ (qTab r (max least (a + (place - g)))), oLst r sRw rows]) (O3 := [oIns x CQ (qTab r (max least (a + (place - g)))), oLst r sRw rows]) (O4 := [oIns x CQ (qTab r (max least (a + (place - g)))), oLst r sRw rows]) 1
            (e_methO (S := fsQParted CQ) (tab := qTab r least) (q := x) (O1 := oQ CQ x r ⟨rows, least⟩) (O2 := [oLst r sRw rows]) ⟨x, r, least, a, bb, place - g⟩ 0 FP hr Q.cl mP (e_name 0) (ea_cons (e_name 4) (ea_cons (e_bin o_sub (e_name 1) (e_name 2)) ea_nil)) trivial)
            (e_fldO (q := x) (tab := qTab r (max least (a + (place - g)))) 0 0 Q.cl Q.nR (e_name 0)) (e_name 3) (e_bin o_add (e_name 3) e_int) (by omega) (by omega) (by omega) (Nat.le_trans (show _ ≤ 100002 by simp; omega) (by decide)) ?_
          refine j_ret (O1 := oQ CQ x r ⟨rows.take ((k : Nat) : Int).toNat ++ [.gap a (some (a + (place - g))), .gap (a + (place - g)) bb] ++ rows.drop (((k : Nat) : Int) + 1).toNat, max least (a + (place - g))⟩) (e_bin o_add (e_name 3) e_int) (fin_ret (D := D) (hf.le hB) ?_ fun G v hv => ?_)
          · show ∀ w ∈ oQ CQ x r ⟨(cutV ⟨rows, least⟩ place).rows, (cutV ⟨rows, least⟩ place).least⟩, _
            rw [hc, Int.toNat_natCast, show (((k : Nat) : Int) + 1).toNat = k + 1 by omega]
            exact fun w hw => hw
          · show v = V.int ((cutV ⟨rows, least⟩ place).idx : Nat)
            rw [hc, htk]
            have hv : v = V.int (((k : Nat) : Int) + 1) := hv
            rw [hv]
            rfl
        · cases bb with
          | none => cases h
          | some z =>
            have h : ¬ place < g + (z - a) := by simpa using h
            refine j_aug 2 (m := z - a) (O1 := oQ CQ x r ⟨rows, least⟩) rfl (e_name (s := sInt (z - a)) 5) (j_nil fun σ G H st => ⟨g + (z - a), G, ⟨at_next (z - a) rfl h, by omega⟩, ?_⟩) scQCut.nd
            exact st.wk (.same (.same (.same (.skip (.skip (.skip .nil))))))
  · rintro g ⟨hcut, hg⟩
    rw [List.length_zipIdx, List.take_length, List.drop_length] at hcut
    refine j_ret (O1 := oQ CQ x r ⟨rows, least⟩) (e_lenO (q := r) (as := rows) (R := sRw) 1 T.len (e_fldO (q := x) (tab := qTab r least) 0 0 Q.cl Q.nR (e_name 0))) (fin_ret hf ?_ fun G v hv => ?_)
    · show ∀ w ∈ oQ CQ x r ⟨(cutV ⟨rows, least⟩ place).rows, (cutV ⟨rows, least⟩ place).least⟩, _
      rw [hcut]
      exact fun w hw => hw
    · show v = V.int ((cutV ⟨rows, least⟩ place).idx : Nat)
      rw [hcut]
      exact hv
end
end K51

namespace K51
open PySem L2 Gd
def cut1 (q : Ps) (e : Ed) : Ps := ⟨(cutV q e.first).rows, (cutV q e.first).least⟩
def cut2 (q : Ps) (e : Ed) : Ps := ⟨(cutV (cut1 q e) e.last).rows, (cutV (cut1 q e) e.last).least⟩
def editQ (q : Ps) (e : Ed) : Ps := ⟨(cut2 q e).rows.take (cutV q e.first).idx ++ e.words.map Rw.word ++ (cut2 q e).rows.drop (cutV (cut1 q e) e.last).idx, (cut2 q e).least⟩
/-- the two places lie in order, the rows are few -/
structure EdQ (q : Ps) (e : Ed) : Prop where
  ok : e.ok
  w : e.words.length ≤ 1000
  l0 : q.rows.length ≤ 100000
  l1 : (cut1 q e).rows.length ≤ 100000
  l2 : (cut2 q e).rows.length ≤ 100000
  o1 : (cutV q e.first).idx ≤ (cutV (cut1 q e) e.last).idx
  o2 : (cutV (cut1 q e) e.last).idx ≤ (cut2 q e).rows.length
def toldStep (s : Option Int × List Ch × List Str) (row : Rw) : Option Int × List Ch × List Str :=
  match row with
  | .word t => (s.1, s.2.1, s.2.2 ++ [t])
  | .gap a b => (b, (if s.2.2 ≠ [] ∨ s.1.getD 0 < a then s.2.1 ++ [⟨s.1.getD 0, a, s.2.2⟩] else s.2.1), [])
def toldAt (rows : List Rw) (n : Nat) : Option Int × List Ch × List Str := (rows.take n).foldl toldStep (some 0, [], [])
theorem toldAt_succ {rows : List Rw} {n : Nat} {row : Rw} (h : rows[n]? = some row) : toldAt rows (n + 1) = toldStep (toldAt rows n) row := by
  unfold toldAt
  rw [take_succ h, List.foldl_append]
  rfl
def toldV (rows : List Rw) : List Ch := joinedV (toldAt rows rows.length).2.1
section
variable {P : Program} {w : World} {K : Fg} {mg : Str → Option Value} {base : Heap} {C CP CQ : Addr}
theorem scQEdit : FnScope ["self", "edit", "start", "end", "word"] ["self", "edit"] (defScope sQEdit) := ⟨rfl, rfl, rfl, by decide +kernel, rfl, by decide +kernel, by decide +kernel⟩
structure EdI where
  x : Addr
  r : Addr
  q : Ps
  e : Ed
def fsQEdit (C CQ : Addr) : FS EdI := { args := fun i => [sRef i.x, sEd C i.e], own := fun i => oQ CQ i.x i.r i.q, pre := fun i => EdQ i.q i.e, res := fun _ => sNon, own' := fun i => oQ CQ i.x i.r (editQ i.q i.e) }
theorem ok_qedit {f fC : Addr} {fd : FuncData} (F : Fun K "edit" "Pieces.edit" sQEdit f fd) (b : Binds K fd ["self", "edit"] []) (EC : EdC K mg C) (Q : QC K mg CQ) (mC : Meth K CQ "cut" fC) (FC : DefOk P w K mg base 2 fC [] (fsQCut CQ)) : DefOk P w K mg base 3 f [] (fsQEdit C CQ) := by
  refine fn_ok F scQEdit b .nil (fun _ => rfl) fun ⟨x, r, q, e⟩ cdv A outer s G H D EE hr hp hf hn => ?_
  have hp : EdQ q e := hp
  have h0 := hp.ok.1.1
  have h1 := hp.ok.1.2
  refine j_set 2 (s := sInt ((cutV q e.first).idx : Nat)) (O1 := oQ CQ x r (cut1 q e)) (e_methO (S := fsQCut CQ) (tab := qTab r q.least) (q := x) (O1 := oQ CQ x r q) (O2 := []) ⟨x, r, q, e.first⟩ 0 FC hr Q.cl mC (e_name 0) (ea_cons (e_fld 0 EC.cl EC.nF (e_name 1)) ea_nil) ⟨h0, hp.l0⟩) ?_ scQEdit.nd
  refine j_set 3 (s := sInt ((cutV (cut1 q e) e.last).idx : Nat)) (O1 := oQ CQ x r (cut2 q e)) (e_methO (S := fsQCut CQ) (tab := qTab r (cut1 q e).least) (q := x) (O1 := oQ CQ x r (cut1 q e)) (O2 := []) ⟨x, r, cut1 q e, e.last⟩ 0 FC hr Q.cl mC (e_name 0) (ea_cons (e_fld 1 EC.cl EC.nL (e_name 1)) ea_nil) ⟨by show 0 ≤ e.last; omega, hp.l1⟩) ?_ scQEdit.nd
  have o1 := hp.o1
  have o2 := hp.o2
  have l2 := hp.l2
  have lw := hp.w
  refine j_setSl (q := r) (as := (cut2 q e).rows) (bs := e.words.map Rw.word) (R := sRw) (i := ((cutV q e.first).idx : Nat)) (j := ((cutV (cut1 q e) e.last).idx : Nat)) (O1 := oQ CQ x r (cut2 q e)) (O2 := oQ CQ x r (cut2 q e)) (O3 := oQ CQ x r (cut2 q e)) (O4 := oQ CQ x r (cut2 q e)) 1
    (e_lst (ew_map (R := sStr) (S := sRw) (as := e.words) 4 Rw.word scQEdit.nd (it_tupl (e_fld 2 EC.cl EC.nW (e_name 1))) (blkOk_by (own := [("word", 4)]) (N := ["self", "edit", "start", "end", "word"]) (sc := defScope sQEdit) (by decide +kernel)) (fun y hy s H _ cl fp => e_tup (ss := [sStr y, sNon]) (ea_cons (e_name 4) (ea_cons e_non ea_nil)) (szl (by simp))) (szl (by omega))))
    (e_fldO (q := x) (tab := qTab r (cut2 q e).least) 0 0 Q.cl Q.nR (e_name 0)) (e_name 2) (e_name 3) (by omega) (by omega) (by omega) (Nat.le_trans (show _ ≤ 101000 by rw [List.length_map]; omega) (by decide)) ?_
  rw [Int.toNat_natCast, Int.toNat_natCast]
  exact fin_end hf hn fun w hw => hw
theorem scQTold : FnScope ["self", "found", "at", "new", "row"] ["self"] (defScope sQTold) := ⟨rfl, rfl, rfl, by decide +kernel, rfl, by decide +kernel, by decide +kernel⟩
/-- the pieces, done: nobody changes them any more -/
abbrev sQ (CQ : Addr) (q : Ps) : Slot := sIns CQ [("rows", sLst sRw q.rows), ("least", sInt q.least)]
/-- words are right ones, and only the last row has no end -/
structure RwsOk (rows : List Rw) : Prop where
  few : rows.length ≤ 1000
  ws : ∀ t, Rw.word t ∈ rows → okStrs [t]
  end_ : ∀ n, n < rows.length → (toldAt rows n).1 ≠ none
def fsQTold (CQ : Addr) : FS Ps := { args := fun q => [sQ CQ q], pre := fun q => RwsOk q.rows, res := fun q => sTupl sCh (toldV q.rows) }
theorem toldAt_ok {rows : List Rw} (h : ∀ t, Rw.word t ∈ rows → okStrs [t]) : ∀ n, n ≤ rows.length → (∀ c ∈ (toldAt rows n).2.1, okStrs c.words) ∧ okStrs (toldAt rows n).2.2 ∧ wsum (toldAt rows n).2.1 + (toldAt rows n).2.2.length ≤ n ∧ (toldAt rows n).2.1.length ≤ n
  | 0, _ => ⟨(fun c hc => by cases hc), (fun t ht => by cases ht), by simp [toldAt, wsum], by simp [toldAt]⟩
  | n + 1, hn => by
    obtain ⟨i1, i2, i3, i4⟩ := toldAt_ok h n (by omega)
    have hrow := List.getElem?_eq_getElem (show n < rows.length from hn)
    have hm := List.mem_of_getElem? hrow
    rw [toldAt_succ hrow]
    generalize rows[n] = row at hm
    cases row with
    | word t =>
      refine ⟨i1, fun z hz => ?_, ?_, Nat.le_succ_of_le i4⟩
      · rcases List.mem_append.mp hz with hz | hz
        · exact i2 z hz
        · exact h t hm z hz
      · show wsum (toldAt rows n).2.1 + ((toldAt rows n).2.2 ++ [t]).length ≤ _
        rw [List.length_append]
        simp
        omega
    | gap a bb =>
      by_cases hc : (toldAt rows n).2.2 ≠ [] ∨ (toldAt rows n).1.getD 0 < a
      · have e : toldStep (toldAt rows n) (.gap a bb) = (bb, (toldAt rows n).2.1 ++ [⟨(toldAt rows n).1.getD 0, a, (toldAt rows n).2.2⟩], []) := by
          unfold toldStep
          dsimp only
          rw [if_pos hc]
        rw [e]
        refine ⟨fun c hcm => ?_, (fun t ht => by cases ht), ?_, ?_⟩
        · rcases List.mem_append.mp hcm with hcm | hcm
          · exact i1 c hcm
          · simp at hcm
            subst hcm
            exact i2
        · rw [wsum_append]
          simp [wsum] at i3 ⊢
          omega
        · rw [List.length_append]
          simp
          omega
      · have e : toldStep (toldAt rows n) (.gap a bb) = (bb, (toldAt rows n).2.1, []) := by
          unfold toldStep
          dsimp only
          rw [if_neg hc]
        rw [e]
        exact ⟨i1, (fun t ht => by cases ht), by simp; omega, Nat.le_succ_of_le i4⟩
theorem ok_qtold {f fJ : Addr} {fd : FuncData} (F : Fun K "told" "Pieces.told" sQTold f fd) (b : Binds K fd ["self"] []) (Cc : Cs K mg) (Q : QC K mg CQ) (gJ : mg "joined" = some (.ref fJ)) (FJ : DefOk P w K mg base 1 fJ [] fsJoined) : DefOk P w K mg base 2 f [] (fsQTold CQ) := by
  refine fn_ok F scQTold b .nil (fun _ => rfl) fun ⟨rows, least⟩ cdv A outer s G H D EE hr hp hf hn => ?_
  have hp : RwsOk rows := hp
  have few := hp.few
  refine j_par3W (s2 := sInt 0) (O1 := []) (O2 := []) 1 2 3 (ew_lst (R := sCh) (as := []) el_nil (szl (by simp))) (fun r => e_int) (fun r => by exact ew_lst (R := sStr) (as := []) el_nil (szl (by simp))) (fun fr nr hfr hnr => ?_) scQTold.nd
  refine j_for (γ := Nat × Addr) (O1 := [oLst nr sStr [], oLst fr sCh []]) (R := sRw) (as := rows) (fun n (g : Nat × Addr) => g.1 = n) (fun g => [some (sQ CQ ⟨rows, least⟩), some (sRef fr), some (sOpt sInt (toldAt rows g.1).1), some (sRef g.2), none]) (fun g => [oLst g.2 sStr (toldAt rows g.1).2.2, oLst fr sCh (toldAt rows g.1).2.1]) (fun y => [(4, sRw y)])
    (it_lst (e_fld 0 Q.cl Q.nR (e_name 0))) (tg_name 4 scQTold.nd) ⟨(0, nr), rfl, fun _ _ _ _ h => h⟩ ?_ ?_
  · rintro B1 n row ⟨g, nr'⟩ hB hy hg
    have hg : g = n := hg
    subst hg
    have hn1 : g < rows.length := (List.getElem?_eq_some_iff.mp hy).1
    obtain ⟨i1, i2, i3, i4⟩ := toldAt_ok hp.ws g (by omega)
    have hend := hp.end_ g hn1
    have next := toldAt_succ hy
    show J _ _ [some (sQ CQ ⟨rows, least⟩), some (sRef fr), some (sOpt sInt (toldAt rows g).1), some (sRef nr'), some (sRw row)] [oLst nr' sStr (toldAt rows g).2.2, oLst fr sCh (toldAt rows g).2.1] _ _
    generalize toldAt rows g = st0 at i1 i2 i3 i4 hend next
    obtain ⟨at_, fo, nw⟩ := st0
    have i3 : wsum fo + nw.length ≤ g := i3
    have i4 : fo.length ≤ g := i4
    cases at_ with
    | none => exact absurd rfl hend
    | some at_ =>
      cases row with
      | word t =>
        refine j_if (O1 := [oLst nr' sStr nw, oLst fr sCh fo]) (u := true) (t_val (e_callB (c_isi (n := "str") (k := true) ty_str (kit_ty (by decide +kernel))) Cc.isi (by decide +kernel) (ea_cons (e_ix (i_tup (ss := [sStr t, sNon]) 0 rfl rfl) (e_name (s := sTup [sStr t, sNon]) 4) e_int) (ea_cons (e_ty "str" Cc.str (by decide +kernel)) ea_nil)))) (fun _ => ?_) (fun h => nomatch h)
        refine j_expr (e_append (q := nr') (as := nw) (R := sStr) (y := t) 0 (e_name 3) (e_ix (i_tup (ss := [sStr t, sNon]) 0 rfl rfl) (e_name (s := sTup [sStr t, sNon]) 4) e_int) (Nat.lt_of_le_of_lt (show nw.length ≤ 100000 by omega) (by decide))) (j_on (j_nil fun σ G H st => ⟨(g + 1, nr'), G, rfl, ?_⟩))
        show Sta K B1 [_, _, some (sOpt sInt (toldAt rows (g + 1)).1), _, _] [oLst nr' sStr (toldAt rows (g + 1)).2.2, oLst fr sCh (toldAt rows (g + 1)).2.1] σ G H
        rw [next]
        exact st.wk (.same (.same (.same (.same (.skip .nil)))))
      | gap a bb =>
        refine j_if (O1 := [oLst nr' sStr nw, oLst fr sCh fo]) (u := false) (t_val (e_callB (c_isi (n := "str") (k := false) ty_int (kit_ty (by decide +kernel))) Cc.isi (by decide +kernel) (ea_cons (e_ix (i_tup (ss := [sInt a, sOpt sInt bb]) 0 rfl rfl) (e_name (s := sTup [sInt a, sOpt sInt bb]) 4) e_int) (ea_cons (e_ty "str" Cc.str (by decide +kernel)) ea_nil)))) (fun h => nomatch h) (fun _ => ?_)
        refine j_if (O1 := [oLst nr' sStr nw, oLst fr sCh fo]) (u := (!nw.isEmpty || decide (at_ < a))) (t_w (tw_or2 (t_neNil (q := nr') (as := nw) (R := sStr) (d := PyData.str) 0 hr (fun z => isD_str) (e_name 3) (shaped_lst (canAll_strs i2) (by rw [depthAll_strs]; decide))) (tw_or1 (t_cmp o_gt (e_ix (i_tup (ss := [sInt a, sOpt sInt bb]) 0 rfl rfl) (e_name (s := sTup [sInt a, sOpt sInt bb]) 4) e_int) (e_name (s := sInt at_) 2))))) (fun h => ?_) (fun h => j_on ?_)
        · have hc : nw ≠ [] ∨ at_ < a := by
            cases nw <;> simp_all
          have e : toldAt rows (g + 1) = (bb, fo ++ [⟨at_, a, nw⟩], []) := by
            rw [next]
            unfold toldStep
            dsimp only [Option.getD_some]
            rw [if_pos hc]
          refine j_expr (e_append (q := fr) (as := fo) (R := sCh) (y := ⟨at_, a, nw⟩) 1 (e_name 1) (e_tup (ss := [sInt at_, sInt a, sTupl sStr nw]) (ea_cons (e_name (s := sInt at_) 2) (ea_cons (e_ix (i_tup (ss := [sInt a, sOpt sInt bb]) 0 rfl rfl) (e_name (s := sTup [sInt a, sOpt sInt bb]) 4) e_int) (ea_cons (e_tupleO (q := nr') (as := nw) (R := sStr) 0 Cc.tuple (e_name 3)) ea_nil))) (szl (by simp))) (Nat.lt_of_le_of_lt (show fo.length ≤ 100000 by omega) (by decide))) (j_on ?_)
          refine j_parW (O1 := [oLst nr' sStr nw, oLst fr sCh (fo ++ [⟨at_, a, nw⟩])]) (s1 := sOpt sInt bb) 2 3 (e_ix (i_tup (ss := [sInt a, sOpt sInt bb]) 1 rfl rfl) (e_name (s := sTup [sInt a, sOpt sInt bb]) 4) e_int) (ew_lst (R := sStr) (as := []) el_nil (szl (by simp))) (fun nr2 hnr2 => ?_) scQTold.nd
          refine j_on (j_nil fun σ G H st => ⟨(g + 1, nr2), G, rfl, ?_⟩)
          show Sta K B1 [_, _, some (sOpt sInt (toldAt rows (g + 1)).1), _, _] [oLst nr2 sStr (toldAt rows (g + 1)).2.2, oLst fr sCh (toldAt rows (g + 1)).2.1] σ G H
          rw [e]
          exact (st.wk (.same (.same (.same (.same (.skip .nil)))))).drop2
        · have hc : ¬ (nw ≠ [] ∨ at_ < a) := by
            cases nw <;> simp_all
          have e : toldAt rows (g + 1) = (bb, fo, []) := by
            rw [next]
            unfold toldStep
            dsimp only [Option.getD_some]
            rw [if_neg hc]
          refine j_parW (O1 := [oLst nr' sStr nw, oLst fr sCh fo]) (s1 := sOpt sInt bb) 2 3 (e_ix (i_tup (ss := [sInt a, sOpt sInt bb]) 1 rfl rfl) (e_name (s := sTup [sInt a, sOpt sInt bb]) 4) e_int) (ew_lst (R := sStr) (as := []) el_nil (szl (by simp))) (fun nr2 hnr2 => ?_) scQTold.nd
          refine j_on (j_nil fun σ G H st => ⟨(g + 1, nr2), G, rfl, ?_⟩)
          show Sta K B1 [_, _, some (sOpt sInt (toldAt rows (g + 1)).1), _, _] [oLst nr2 sStr (toldAt rows (g + 1)).2.2, oLst fr sCh (toldAt rows (g + 1)).2.1] σ G H
          rw [e]
          exact (st.wk (.same (.same (.same (.same (.skip .nil)))))).drop2
  · rintro ⟨g, nr'⟩ hg
    have hg : g = rows.length := hg
    subst hg
    obtain ⟨i1, i2, i3, i4⟩ := toldAt_ok hp.ws rows.length (Nat.le_refl _)
    refine j_drop ?_
    refine j_freeze 1 (s := sLst sCh (toldAt rows rows.length).2.1) rfl hfr (fun K G o => frz_lst K G fr o) ?_
    exact j_ret (O1 := []) (e_call (S := fsJoined) (O2 := []) (toldAt rows rows.length).2.1 FJ hr gJ (ea_cons (e_name 1) ea_nil) ⟨i1, by omega, by omega⟩) (fin_ret hf (fun w hw => nomatch hw) fun G v hv => hv)
end
end K51

namespace K51
open PySem L2 Gd
abbrev sCheckEdits : Stmt := top 21
abbrev sPatch : Stmt := top 26
abbrev sCheckPatch : Stmt := top 27
abbrev sBehind : Stmt := top 28
/-- edits, in a list or a tuple -/
def sEs (C : Addr) (tup : Bool) (es : List Ed) : Slot := if tup then sTupl (sEd C) es else sLst (sEd C) es
def qAt (es : List Ed) (n : Nat) : Ps := (es.take n).foldl editQ ⟨[.gap 0 none], 0⟩
theorem qAt_succ {es : List Ed} {n : Nat} {e : Ed} (h : es[n]? = some e) : qAt es (n + 1) = editQ (qAt es n) e := by
  unfold qAt
  rw [take_succ h, List.foldl_append]
  rfl
def patchV (es : List Ed) : Pa := ⟨toldV (qAt es es.length).rows, (qAt es es.length).least⟩
structure PatchOk (es : List Ed) : Prop where
  few : es.length ≤ 60
  ed : ∀ n e, es[n]? = some e → EdQ (qAt es n) e
  rws : RwsOk (qAt es es.length).rows
  ok : (patchV es).ok
section
variable {P : Program} {w : World} {K : Fg} {mg : Str → Option Value} {base : Heap} {C CP CQ : Addr}
theorem scCheckEdits : FnScope ["edits", "edit"] ["edits"] (defScope sCheckEdits) := ⟨rfl, rfl, rfl, by decide +kernel, rfl, by decide +kernel, by decide +kernel⟩
def fsCheckEdits (C : Addr) : FS (Bool × List Ed) := { args := fun i => [sEs C i.1 i.2], pre := fun i => i.2.length ≤ 60, res := fun _ => sNon }
theorem ok_checkEdits {f : Addr} {fd : FuncData} {t : Tok} (F : Fun K "check_edits" "check_edits" sCheckEdits f fd) (b : Binds K fd ["edits"] []) (T : Bt mg) (Cc : Cs K mg) (EC : EdC K mg C) (CI : ClsI K C) (gM : mg "MOST_EDITS" = some (.int 60 t)) : DefOk P w K mg base 1 f [] (fsCheckEdits C) := by
  refine fn_ok F scCheckEdits b .nil (fun _ => rfl) fun ⟨tup, es⟩ cdv A outer s G H D EE hr hp hf hn => ?_
  have hp : es.length ≤ 60 := hp
  have isl : CallE (cxD P w K mg base ["edits", "edit"] "check_edits" sCheckEdits f cdv A outer s H EE) (.builtin "isinstance") [sEs C tup es, sTupX [sVal (.ty "list"), sVal (.ty "tuple")]] (sBl true) := by
    cases tup with
    | false => exact c_isi2 ty_lst (kitAny_cons (b := true) (kit_ty (by decide +kernel)) (fun h => nomatch h) fun _ => rfl)
    | true => exact c_isi2 ty_tupl (kitAny_cons (b := false) (kit_ty (by decide +kernel)) (fun _ => kitAny_cons (b := true) (kit_ty (by decide +kernel)) (fun h => nomatch h) fun _ => rfl) fun h => nomatch h)
  have len : CallE (cxD P w K mg base ["edits", "edit"] "check_edits" sCheckEdits f cdv A outer s H EE) (.builtin "len") [sEs C tup es] (sInt es.length) := by
    cases tup with
    | false => exact c_len
    | true => exact c_lenT
  refine j_if (O1 := []) (u := false) (t_eq (t_w (tw_or2 (t_not (t_val (e_callB isl Cc.isi (by decide +kernel) (ea_cons (e_name 0) (ea_cons (e_tupX (ea_cons (e_ty "list" Cc.list (by decide +kernel)) (ea_cons (e_ty "tuple" Cc.tuple (by decide +kernel)) ea_nil)) (by decide)) ea_nil)))))
    (tw_or1 (t_cmp o_gt (e_callB len T.len PySem.boot_len (ea_cons (e_name 0) ea_nil)) (e_gint gM))))) (by simp; omega)) (fun h => nomatch h) (fun _ => j_on ?_)
  refine j_if (O1 := []) (u := false) (t_eq (t_not (t_val (e_callB c_all Cc.all (by decide +kernel) (ea_cons (e_lst (ew_map (R := sEd C) (S := sBl) (as := es) 1 (fun _ => true) scCheckEdits.nd (by
      cases tup with
      | false => exact it_lst (e_name 0)
      | true => exact it_tupl (e_name 0)) (blkOk_by (own := [("edit", 1)]) (N := ["edits", "edit"]) (sc := defScope sCheckEdits) (by decide +kernel))
    (fun y hy s H _ cl fp => e_callB (c_isiC (k := true) (ty_ins CI) kit_self) Cc.isi (by decide +kernel) (ea_cons (e_name 1) (ea_cons (e_gref EC.gC) ea_nil))) (szl (by omega)))) ea_nil)))) (by
    have : (List.map (fun _ => true) es).all id = true := by simp
    rw [this]
    rfl)) (fun h => nomatch h) (fun _ => j_on ?_)
  exact fin_end hf hn fun w hw => hw
/-- Patch(cs, n): a frozen patch -/
theorem e_patch {X : Cx} {δ : List (Option Slot)} {O O1 : List Own} {a1 a2 : Expr} {f : Addr} {p pos : Pos} (pa : Pa) (M : Mk X.K CP f) (FI : DefX X 4 f [] (fsPInit CP)) (hr : Room 5 X.A) (gP : X.mg "Patch" = some (.ref CP)) (hp : pa.ok)
    (ha : EA X δ O [a1, a2] [sTupl sCh pa.changes, sInt pa.least] O1) (hg : Gl X "Patch" := by rfl) (h1 : noStar a1 = true := by rfl) (h2 : noStars [a2] = true := by rfl) : E X δ O (.Call (.Name "Patch" p) [a1, a2] [] pos) (sPa CP pa) O1 :=
  e_ins (ew_make (S := fsPInit CP) (fun q => (q, pa)) M FI hr gP ha (fun q => hp) (fun _ => rfl) (fun _ => rfl) (fun _ => rfl) (fun _ => rfl) (fun _ => rfl) hg (by decide) h1 h2)
theorem scPatch : FnScope ["edits", "pieces", "edit"] ["edits"] (defScope sPatch) := ⟨rfl, rfl, rfl, by decide +kernel, rfl, by decide +kernel, by decide +kernel⟩
def fsPatch (C CP : Addr) : FS (Bool × List Ed) := { args := fun i => [sEs C i.1 i.2], pre := fun i => PatchOk i.2, res := fun i => sPa CP (patchV i.2) }
theorem ok_patch {f fK fI fQ fE fT : Addr} {fd : FuncData} (F : Fun K "patch" "patch" sPatch f fd) (b : Binds K fd ["edits"] []) (PC : PaC K mg CP) (Q : QC K mg CQ) (gK : mg "check_edits" = some (.ref fK)) (FK : DefOk P w K mg base 1 fK [] (fsCheckEdits C)) (MQ : Mk K CQ fQ) (FQ : DefOkX P w K mg base 1 fQ [] (fsQInit CQ))
    (mE : Meth K CQ "edit" fE) (FE : DefOk P w K mg base 3 fE [] (fsQEdit C CQ)) (mT : Meth K CQ "told" fT) (FT : DefOk P w K mg base 2 fT [] (fsQTold CQ)) (MP : Mk K CP fI) (FI : DefOk P w K mg base 4 fI [] (fsPInit CP)) : DefOk P w K mg base 6 f [] (fsPatch C CP) := by
  refine fn_ok F scPatch b .nil (fun _ => rfl) fun ⟨tup, es⟩ cdv A outer s G H D EE hr hp hf hn => ?_
  have hp : PatchOk es := hp
  (have hr1 : Room 1 _ := hr.mono (by decide))
  (have hr2 : Room 2 _ := hr.mono (by decide))
  have hr3 : Room 3 _ := hr.mono (by decide)
  refine j_expr (O1 := []) (e_call (O2 := []) (S := fsCheckEdits C) (tup, es) FK hr1 gK (ea_cons (e_name 0) ea_nil) (by exact hp.few)) ?_
  refine j_make0 1 (S := fsQInit CQ) (fun x => x) MQ FQ hr2 Q.gQ (fun _ => trivial) (fun x r hx => ?_) scPatch.nd
  show J _ _ [some (sEs C tup es), some (sRef x), none] (oQ CQ x r ⟨[.gap 0 none], 0⟩) _ _
  refine j_sta fun ⟨σ0, G0, H0, st0⟩ => ?_
  have hbr := st0.new (oLst r sRw [.gap 0 none]) (by simp [oQ])
  have hbr : H r = none := by
    rcases hbr with z | z
    · cases z
    · exact z
  refine j_for (O1 := oQ CQ x r ⟨[.gap 0 none], 0⟩) (R := sEd C) (as := es) (fun n (g : Nat) => g = n) (fun _ => [some (sEs C tup es), some (sRef x), none]) (fun g => oQ CQ x r (qAt es g)) (fun e => [(2, sEd C e)]) (by
      cases tup with
      | false => exact it_lst (e_name 0)
      | true => exact it_tupl (e_name 0)) (tg_name 2 scPatch.nd) ⟨0, rfl, fun _ _ _ _ h => h⟩ ?_ ?_
  · rintro B1 n e g hB hy rfl
    refine j_expr (s := sNon) (O1 := oQ CQ x r (qAt es (g + 1))) ?_ (j_nil fun σ G H st => ⟨g + 1, G, rfl, st.wk (.same (.same (.skip .nil)))⟩)
    rw [qAt_succ hy]
    exact e_methO (S := fsQEdit C CQ) (tab := qTab r (qAt es g).least) (q := x) (O1 := oQ CQ x r (qAt es g)) (O2 := []) ⟨x, r, qAt es g, e⟩ 0 FE hr3 Q.cl mE (e_name 1) (ea_cons (e_name 2) ea_nil) (hp.ed g e hy)
  · rintro g rfl
    have hrw := hp.rws
    have hok := hp.ok
    unfold patchV at hok
    have hres : (fsPatch C CP).res (tup, es) = sPa CP ⟨toldV (qAt es es.length).rows, (qAt es es.length).least⟩ := rfl
    generalize qAt es es.length = q at hrw hok hres
    obtain ⟨rows, least⟩ := q
    refine j_swap ?_
    refine j_freezeT (r := r) (q := x) (tab := qTab r least) (f' := "rows") (O := []) 0 hbr ?_
    refine j_freeze 1 (s := sQ CQ ⟨rows, least⟩) rfl hx (fun K G o => frz_ins K G x o) ?_
    exact j_ret (O1 := []) (e_patch ⟨toldV rows, least⟩ MP FI hr PC.gP hok (ea_cons (e_meth0 (S := fsQTold CQ) (O2 := []) ⟨rows, least⟩ FT hr2 Q.cl mT (e_name 1) hrw) (ea_cons (e_fld 1 Q.cl Q.nL (e_name 1)) ea_nil))) (fin_ret hf (fun w hw => hw) fun G v hv => by rw [hres]; exact hv)
end
end K51

namespace K51
open PySem L2 Gd
abbrev sWordsD : Stmt := top 44
def six : List Str := ["a", "b", "c", "let", ";", "="]
def pickV (ws : List Str) (ns : List Int) (c : Int) : Str := ws.getD (nextV ns c ws.length).toNat ""
theorem pick_some {ws : List Str} {ns : List Int} {c : Int} (h : 0 < ws.length) : ws[(nextV ns c ws.length).toNat]? = some (pickV ws ns c) := by
  have h1 : nextV ns c ws.length < ws.length := nextV_hi (by omega)
  have h0 : 0 ≤ nextV ns c ws.length := nextV_lo (by omega)
  unfold pickV
  rw [List.getD_eq_getElem?_getD, List.getElem?_eq_getElem (by omega)]
  rfl
theorem pick_mem {ws : List Str} {ns : List Int} {c : Int} (h : 0 < ws.length) : pickV ws ns c ∈ ws := List.mem_of_getElem? (pick_some h)
theorem ok_six : okWords six := by
  have h : (six.all fun t => isToken t && decide (t.length ≤ 100000)) = true := by decide +kernel
  intro t ht
  have := List.all_eq_true.mp h t ht
  simpa using this
/-- drawn words -/
def wordsV (ns : List Int) (c : Int) (many : Int) : List Str := (List.range many.toNat).map fun k : Nat => pickV six ns (c + k)
theorem wordsV_len {ns : List Int} {c many : Int} : (wordsV ns c many).length = many.toNat := by
  unfold wordsV
  (rw [List.length_map, List.length_range])
theorem wordsV_six {ns : List Int} {c many : Int} : ∀ t ∈ wordsV ns c many, t ∈ six := fun t ht => by
  obtain ⟨k, _, rfl⟩ := List.mem_map.mp ht
  exact pick_mem (by decide)
theorem wordsV_ok {ns : List Int} {c many : Int} : okWords (wordsV ns c many) := fun t ht => ok_six t (wordsV_six t ht)
section
variable {X : Cx}
theorem c_min22 {a b : Int} (hc : X.calm = true := by rfl) : CallE X (.builtin "min") [sInt a, sInt b] (sInt (min a b)) :=
  ⟨_, call_min2 hc, fun B δ O σ G H Q xs st h k => by
    obtain ⟨v, u, rfl, hv, hu⟩ := alls2 h
    have hv : v = V.int a := hv
    have hu : u = V.int b := hu
    subst hv hu
    refine ⟨a, b, rfl, k _ G H (Same.refl _) st ?_⟩
    show V.int (if b < a then b else a) = V.int (min a b)
    congr 1
    split <;> omega⟩
theorem ew_mapN {δ : List (Option Slot)} {O : List Own} {x : Str} {px pos : Pos} {elt iter : Expr} {scope : Scope} {own : List (Str × Nat)} {α β : Type} {R : α → Slot} {S : β → Slot} {as : List α} (i n : Nat) (Ωs : Nat → List Own) (f : Nat → β) (hn : as.length = n) (hN : X.N.Nodup) (hi : IT X δ O (.Name x px) iter R as (Ωs 0)) (ok : BlkOk X.N X.env.scope scope own)
    (helt : ∀ k y, as[k]? = some y → ∀ s H C cl fp, E (Blk X scope s H C cl fp) ((wipeD δ (own.map (·.2))).set i (some (R y))) (Ωs k) elt (S (f k)) (Ωs (k + 1))) (hz : n ≤ sizeLine)
    (hin : i ∈ own.map (·.2) := by decide) (hix : X.N[i]? = some x := by rfl) (hx : ∀ s H C cl fp, Loc (Blk X scope s H C cl fp).env.scope x := by intro _ _ _ _ _; first | exact Or.inl rfl | exact Or.inr rfl)
    (hf : ∀ s H C cl fp, (Blk X scope s H C cl fp).fn x = true ∨ (Blk X scope s H C cl fp).env.scope.names.lookup x = some .local := by intro _ _ _ _ _; first | exact .inl rfl | exact .inr rfl)
    (hc : X.calm = true := by rfl) (hs : noSet iter = true := by rfl) :
    EW X δ O (.ListComp elt [⟨.Name x px, iter, [], 0⟩] scope pos) (fun p => oLst p S ((List.range n).map f)) (Ωs n) := by
  subst hn
  exact ew_mapO i Ωs f hN hi ok helt hz hin hix hx hf hc hs
end
section
variable {P : Program} {w : World} {K : Fg} {mg : Str → Option Value} {base : Heap} {C : Addr}
theorem scWordsD : FnScope ["_law_draw_here", "_law_many", "_law_turn"] ["_law_draw_here", "_law_many"] (defScope sWordsD) := ⟨rfl, rfl, rfl, by decide +kernel, rfl, by decide +kernel, by decide +kernel⟩
structure DrI where
  dr : Addr
  ns : List Int
  c : Int
  many : Int
def fsWordsD : FS DrI := { args := fun i => [sRef i.dr, sInt i.many], own := fun i => [dO i.dr i.ns i.c], pre := fun i => 0 ≤ i.c ∧ 0 ≤ i.many ∧ i.many ≤ 100000, res := fun i => sLst sStr (wordsV i.ns i.c i.many), own' := fun i => [dO i.dr i.ns (i.c + (i.many.toNat : Nat))] }
theorem ok_wordsD {f fP : Addr} {fd : FuncData} (F : Fun K "_law_words" "_law_words" sWordsD f fd) (b : Binds K fd ["_law_draw_here", "_law_many"] []) (T : Bt mg)
    (gP : mg "_law_pick" = some (.ref fP)) (FP : DefOk P w K mg base 4 fP [] (fsPick sStr)) : DefOk P w K mg base 5 f [] fsWordsD := by
  refine fn_ok F scWordsD b .nil (fun _ => rfl) fun ⟨dr, ns, c, many⟩ cdv A outer s G H D EE hr hp hf hn => ?_
  have hp : 0 ≤ c ∧ 0 ≤ many ∧ many ≤ 100000 := hp
  have hlr : (List.range many.toNat).length = many.toNat := List.length_range
  refine j_ret (O1 := [dO dr ns (c + (many.toNat : Nat))]) (s := sLst sStr (wordsV ns c many)) (e_lst ?_) (fin_ret hf (fun w hw => hw) fun G v hv => hv)
  exact ew_mapN (S := sStr) (R := fun k : Nat => sInt k) (as := List.range many.toNat) 2 many.toNat (fun k => [dO dr ns (c + k)]) (fun k => pickV six ns (c + k)) hlr scWordsD.nd
    (it_range (O1 := [dO dr ns (c + (0 : Nat))]) T.range (by show E _ _ [dO dr ns c] _ _ [dO dr ns (c + 0)]; rw [Int.add_zero]; exact e_name 1) (by omega) (by omega))
    (blkOk_by (own := [("_law_turn", 2)]) (N := ["_law_draw_here", "_law_many", "_law_turn"]) (sc := defScope sWordsD) (by decide +kernel))
    (fun k y hy s H _ cl fp => e_callR (S := fsPick sStr) (O2 := []) (dr, ns, c + k, six, pickV six ns (c + k)) FP hr gP (ea_cons (e_name 0) (ea_cons (e_lst (ew_lst (R := sStr) (el_cons e_str (el_cons e_str (el_cons e_str (el_cons e_str (el_cons e_str (el_cons e_str el_nil)))))) (szl (by simp)))) ea_nil)) (by
      show 0 ≤ c + (k : Int) ∧ _
      exact ⟨by omega, pick_some (ws := six) (by decide)⟩) rfl (by
      show [dO dr ns (c + k + 1)] = [dO dr ns (c + ((k + 1 : Nat) : Int))]
      rw [Int.natCast_add, Int.add_assoc]
      rfl)) (szl (by omega))
end
end K51

namespace K51
open PySem L2 Gd
/-- a word of a text behind edits: an old one, by its place, or a new one -/
inductive Tk where
  | old (i : Int)
  | new (t : Str)
  deriving DecidableEq
def seg (a b : Int) : List Tk := (List.range (b - a).toNat).map fun k : Nat => Tk.old (a + k)
theorem seg_len (a b : Int) : (seg a b).length = (b - a).toNat := by simp [seg]
theorem seg_nil {a b : Int} (h : b ≤ a) : seg a b = [] := by
  unfold seg
  rw [show (b - a).toNat = 0 by omega]
  rfl
theorem seg_cons {a b : Int} (h : a < b) : seg a b = .old a :: seg (a + 1) b := by
  unfold seg
  obtain ⟨n, hn⟩ := Int.eq_ofNat_of_zero_le (show 0 ≤ b - a - 1 by omega)
  rw [show (b - a).toNat = n + 1 by omega, show (b - (a + 1)).toNat = n by omega, List.range_succ_eq_map, List.map_cons, List.map_map]
  simp only [Int.natCast_zero, Int.add_zero]
  congr 1
  (refine List.map_congr_left fun k _ => ?_)
  show Tk.old (a + ((k + 1 : Nat) : Int)) = Tk.old (a + 1 + (k : Int))
  congr 1
  omega
theorem seg_append {a b c : Int} (h1 : a ≤ b) (h2 : b ≤ c) : seg a b ++ seg b c = seg a c := by
  obtain ⟨n, hn⟩ := Int.eq_ofNat_of_zero_le (show 0 ≤ b - a by omega)
  induction n generalizing a with
  | zero =>
    have : a = b := by omega
    subst this
    rw [seg_nil (Int.le_refl a)]
    rfl
  | succ n ih =>
    rw [seg_cons (show a < b by omega), seg_cons (show a < c by omega), List.cons_append, ih (by omega) (by omega)]
/-- rows without the last one -/
def wfI : Int → List Rw → Int → Prop
  | s, [], e => s ≤ e
  | s, .gap a (some b) :: r, e => s ≤ a ∧ a < b ∧ wfI b r e
  | _, .gap _ none :: _, _ => False
  | s, .word t :: r, e => okWords [t] ∧ wfI s r e
theorem wfI.le : ∀ {s : Int} {r : List Rw} {e : Int}, wfI s r e → s ≤ e
  | _, [], _, h => h
  | _, .gap a (some b) :: r, _, h => by have := h.2.2.le; have := h.1; have := h.2.1; omega
  | _, .word t :: r, _, h => h.2.le
theorem wfI.mono : ∀ {s s' : Int} {r : List Rw} {e e' : Int}, wfI s r e → s' ≤ s → e ≤ e' → wfI s' r e'
  | _, _, [], _, _, h, h1, h2 => Int.le_trans h1 (Int.le_trans h h2)
  | _, _, .gap a (some b) :: r, _, _, h, h1, h2 => ⟨Int.le_trans h1 h.1, h.2.1, h.2.2.mono (Int.le_refl _) h2⟩
  | _, _, .word t :: r, _, _, h, h1, h2 => ⟨h.1, h.2.mono h1 h2⟩
theorem wfI.app : ∀ {s m : Int} {r1 r2 : List Rw} {e : Int}, wfI s r1 m → wfI m r2 e → wfI s (r1 ++ r2) e
  | _, _, [], _, _, h1, h2 => h2.mono h1 (Int.le_refl _)
  | _, _, .gap a (some b) :: r, _, _, h1, h2 => ⟨h1.1, h1.2.1, h1.2.2.app h2⟩
  | _, _, .word t :: r, _, _, h1, h2 => ⟨h1.1, h1.2.app h2⟩
theorem wfI_words {s e : Int} (h : s ≤ e) : ∀ {ws : List Str}, okWords ws → wfI s (ws.map Rw.word) e
  | [], _ => h
  | t :: ws, ho => ⟨fun u hu => by simp at hu; subst hu; exact ho u List.mem_cons_self, wfI_words h fun u hu => ho u (List.mem_cons_of_mem _ hu)⟩
/-- how many words the rows have -/
def lenI : List Rw → Int
  | [] => 0
  | .gap a (some b) :: r => (b - a) + lenI r
  | .gap _ none :: r => lenI r
  | .word _ :: r => 1 + lenI r
theorem lenI_app : ∀ (r1 r2 : List Rw), lenI (r1 ++ r2) = lenI r1 + lenI r2
  | [], r2 => by simp [lenI]
  | .gap a (some b) :: r, r2 => by
    have := lenI_app r r2
    simp only [List.cons_append, lenI, this]
    omega
  | .gap a none :: r, r2 => by
    have := lenI_app r r2
    simp only [List.cons_append, lenI, this]
  | .word t :: r, r2 => by
    have := lenI_app r r2
    simp only [List.cons_append, lenI, this]
    omega
theorem lenI_words (ws : List Str) : lenI (ws.map Rw.word) = ws.length := by
  induction ws with
  | nil => rfl
  | cons t ws ih =>
    simp only [List.map_cons, lenI, ih, List.length_cons]
    omega
/-- the words that rows are, of so many words at first -/
def semR (N : Int) : Rw → List Tk
  | .gap a (some b) => seg a b
  | .gap a none => seg a N
  | .word t => [.new t]
def sem (N : Int) (rows : List Rw) : List Tk := rows.flatMap (semR N)
theorem sem_nil (N : Int) : sem N [] = [] := rfl
theorem sem_cons (N : Int) (r : Rw) (rs : List Rw) : sem N (r :: rs) = semR N r ++ sem N rs := rfl
theorem sem_app (N : Int) (r1 r2 : List Rw) : sem N (r1 ++ r2) = sem N r1 ++ sem N r2 := by simp [sem, List.flatMap_append]
theorem sem_words (N : Int) (ws : List Str) : sem N (ws.map Rw.word) = ws.map Tk.new := by
  induction ws with
  | nil => rfl
  | cons t ws ih => rw [List.map_cons, sem_cons, ih]; rfl
theorem sem_len {N : Int} : ∀ {s : Int} {r : List Rw} {e : Int}, wfI s r e → ((sem N r).length : Int) = lenI r
  | _, [], _, _ => rfl
  | _, .gap a (some b) :: r, _, h => by
    have i := sem_len (N := N) h.2.2
    have := h.2.1
    rw [sem_cons, List.length_append]
    show ((((seg a b).length + (sem N r).length : Nat)) : Int) = (b - a) + lenI r
    rw [seg_len]
    omega
  | _, .word t :: r, _, h => by
    have i := sem_len (N := N) h.2
    rw [sem_cons, List.length_append]
    show (((1 + (sem N r).length : Nat)) : Int) = 1 + lenI r
    omega
theorem lenI_nn {s : Int} {r : List Rw} {e : Int} (h : wfI s r e) : 0 ≤ lenI r := by
  rw [← sem_len (N := 0) h]
  omega
/-- what a cut does to the rows from the one that begins at at_ -/
structure CutOk (rest : List Rw) (least at_ place : Int) (s : Int) (r1 i2 : List Rw) (l : Int) : Prop where
  l_eq : l = max least (least + (place - at_ - lenI rest))
  len : lenI r1 = place - at_
  wf : ∃ m, wfI s r1 m ∧ wfI m i2 l
  sm : ∀ N, l ≤ N → sem N (r1 ++ (i2 ++ [.gap l none])) = sem N (rest ++ [.gap least none])
  few : r1.length + i2.length ≤ rest.length + 1
  gr : lenI r1 + lenI i2 - l = lenI rest - least
theorem cut_spec (pre : List Rw) {place least : Int} : ∀ {s : Int} (rest : List Rw) {at_ : Int}, wfI s rest least → at_ ≤ place → ∃ r1 i2 l, CutOk rest least at_ place s r1 i2 l ∧ ∀ pre : List Rw, cutGo pre place least (rest ++ [.gap least none]) at_ = ⟨pre ++ (r1 ++ (i2 ++ [.gap l none])), l, pre.length + r1.length⟩
  | s, [], at_, hw, hle => by
    by_cases h : place = at_
    · refine ⟨[], [], least, ⟨?_, ?_, ⟨s, Int.le_refl _, hw⟩, fun N _ => rfl, by simp, by simp [lenI]⟩, fun pre => ?_⟩
      · simp [lenI]; omega
      · simp [lenI]; omega
      · simp [cutGo, h]
    · have hlt : at_ < place := by omega
      have hw : s ≤ least := hw
      refine ⟨[.gap least (some (least + (place - at_)))], [], least + (place - at_), ⟨?_, ?_, ⟨least + (place - at_), ⟨hw, by omega, Int.le_refl _⟩, Int.le_refl _⟩, fun N hN => ?_, by simp, ?_⟩, fun pre => ?_⟩
      · simp [lenI]; omega
      · simp [lenI]; omega
      · rw [List.singleton_append, List.nil_append, List.nil_append, sem_cons, sem_cons, sem_cons, sem_nil, List.append_nil, List.append_nil]
        exact seg_append (by omega) hN
      · simp [lenI]; omega
      · simp [cutGo, h, sizeV, splitRw, bump]
        omega
  | s, .word t :: rest, at_, hw, hle => by
    by_cases h : place = at_
    · refine ⟨[], .word t :: rest, least, ⟨?_, ?_, ⟨s, Int.le_refl _, hw⟩, fun N _ => rfl, by simp, by simp [lenI]⟩, fun pre => ?_⟩
      · have := lenI_nn hw
        omega
      · simp [lenI]; omega
      · simp [cutGo, h]
    · have hlt : at_ + 1 ≤ place := by omega
      obtain ⟨r1, i2, l, ⟨c1, c2, ⟨m, c3, c4⟩, c5, c6, c7⟩, hc⟩ := cut_spec pre rest hw.2 hlt
      refine ⟨.word t :: r1, i2, l, ⟨?_, ?_, ⟨m, ⟨hw.1, c3⟩, c4⟩, fun N hN => ?_, ?_, ?_⟩, fun pre => ?_⟩
      · simp only [lenI]; omega
      · simp only [lenI]; omega
      · rw [List.cons_append, sem_cons, c5 N hN]
        rfl
      · (simp only [List.length_cons]; omega)
      · simp only [lenI]; omega
      · have hn : ¬ place < at_ + 1 := by omega
        have e : cutGo pre place least ((.word t :: rest) ++ [.gap least none]) at_ = cutGo (pre ++ [.word t]) place least (rest ++ [.gap least none]) (at_ + 1) := by
          rw [List.cons_append]
          conv => lhs; unfold cutGo
          rw [if_neg h]
          dsimp only [sizeV]
          rw [if_neg hn]
        rw [e, hc]
        simp only [List.append_assoc, List.length_append, List.length_cons, List.length_nil, List.cons_append, List.nil_append, CutR.mk.injEq, true_and]
        omega
  | s, .gap a (some b) :: rest, at_, hw, hle => by
    by_cases h : place = at_
    · refine ⟨[], .gap a (some b) :: rest, least, ⟨?_, ?_, ⟨s, Int.le_refl _, hw⟩, fun N _ => rfl, by simp, by simp [lenI]⟩, fun pre => ?_⟩
      · have := lenI_nn hw
        omega
      · simp [lenI]; omega
      · simp [cutGo, h]
    · by_cases hlt : place < at_ + (b - a)
      · have hl := hw.2.2.le
        have hn := lenI_nn hw.2.2
        refine ⟨[.gap a (some (a + (place - at_)))], .gap (a + (place - at_)) (some b) :: rest, least, ⟨?_, ?_, ⟨a + (place - at_), ⟨hw.1, by omega, Int.le_refl _⟩, ⟨Int.le_refl _, by omega, hw.2.2⟩⟩, fun N hN => ?_, ?_, ?_⟩, fun pre => ?_⟩
        · simp only [lenI]; omega
        · simp only [lenI]; omega
        · rw [List.singleton_append, List.cons_append, List.cons_append, sem_cons, sem_cons, sem_cons, ← List.append_assoc]
          congr 1
          exact seg_append (by omega) (by omega)
        · simp only [List.length_cons, List.length_nil]; omega
        · simp only [lenI]; omega
        · rw [List.cons_append]
          unfold cutGo
          rw [if_neg h]
          dsimp only [sizeV]
          rw [if_pos hlt]
          dsimp only [splitRw, bump]
          simp only [List.append_assoc, List.length_cons, List.length_nil, List.cons_append, List.nil_append, CutR.mk.injEq, true_and, and_true]
          omega
      · have hlt' : at_ + (b - a) ≤ place := by omega
        obtain ⟨r1, i2, l, ⟨c1, c2, ⟨m, c3, c4⟩, c5, c6, c7⟩, hc⟩ := cut_spec pre rest hw.2.2 hlt'
        refine ⟨.gap a (some b) :: r1, i2, l, ⟨?_, ?_, ⟨m, ⟨hw.1, hw.2.1, c3⟩, c4⟩, fun N hN => ?_, ?_, ?_⟩, fun pre => ?_⟩
        · simp only [lenI]; omega
        · simp only [lenI]; omega
        · rw [List.cons_append, sem_cons, c5 N hN]
          rfl
        · (simp only [List.length_cons]; omega)
        · simp only [lenI]; omega
        · have e : cutGo pre place least ((.gap a (some b) :: rest) ++ [.gap least none]) at_ = cutGo (pre ++ [.gap a (some b)]) place least (rest ++ [.gap least none]) (at_ + (b - a)) := by
            rw [List.cons_append]
            conv => lhs; unfold cutGo
            rw [if_neg h]
            dsimp only [sizeV]
            rw [if_neg hlt]
          rw [e, hc]
          simp only [List.append_assoc, List.length_append, List.length_cons, List.length_nil, List.cons_append, List.nil_append, CutR.mk.injEq, true_and]
          omega
/-- rows that end ahead of a place are passed over -/
theorem cut_skip {place least : Int} {tl : List Rw} : ∀ {s : Int} {r1 : List Rw} {e : Int} {at_ : Int} (pre : List Rw), wfI s r1 e → at_ + lenI r1 ≤ place → cutGo pre place least (r1 ++ tl) at_ = cutGo (pre ++ r1) place least tl (at_ + lenI r1)
  | _, [], _, at_, pre, _, _ => by simp [lenI]
  | _, .word t :: r, _, at_, pre, h, hl => by
    have hn := lenI_nn h.2
    simp only [lenI] at hl
    rw [List.cons_append]
    conv => lhs; unfold cutGo
    rw [if_neg (by omega)]
    dsimp only [sizeV]
    rw [if_neg (by omega), cut_skip (pre ++ [Rw.word t]) h.2 (by omega)]
    simp only [lenI, List.append_assoc, List.singleton_append, Int.add_assoc]
  | _, .gap a (some b) :: r, _, at_, pre, h, hl => by
    have hn := lenI_nn h.2.2
    have := h.2.1
    simp only [lenI] at hl
    rw [List.cons_append]
    conv => lhs; unfold cutGo
    rw [if_neg (by omega)]
    dsimp only [sizeV]
    rw [if_neg (by omega), cut_skip (pre ++ [Rw.gap a (some b)]) h.2.2 (by omega)]
    simp only [lenI, List.append_assoc, List.singleton_append, Int.add_assoc]
/-- an edit done on a text -/
def doG {β : Type} (nw : Str → β) (e : Ed) (R : List β) : List β := R.take e.first.toNat ++ e.words.map nw ++ R.drop e.last.toNat
/-- the pieces, with their last row -/
def WfQ (q : Ps) (init : List Rw) : Prop := q.rows = init ++ [.gap q.least none] ∧ wfI 0 init q.least
structure EditOk (q : Ps) (init : List Rw) (e : Ed) (i' : List Rw) : Prop where
  wf : WfQ (editQ q e) i'
  edq : q.rows.length ≤ 90000 → e.words.length ≤ 1000 → EdQ q e
  least : (editQ q e).least = max q.least (e.last - (lenI init - q.least))
  gr : lenI i' - (editQ q e).least = (lenI init - q.least) + Ed.growth e
  few : i'.length ≤ init.length + 2 + e.words.length
  sm : ∀ N, (editQ q e).least ≤ N → sem N (editQ q e).rows = doG Tk.new e (sem N q.rows)
theorem edit_spec {q : Ps} {init : List Rw} {e : Ed} (h : WfQ q init) (he : e.ok) : ∃ i', EditOk q init e i' := by
  obtain ⟨rows, least⟩ := q
  obtain ⟨hr, hw⟩ := h
  have hr : rows = init ++ [.gap least none] := hr
  have hw : wfI 0 init least := hw
  subst hr
  have f0 := he.1.1
  have f1 := he.1.2
  obtain ⟨r1, i2, l, ⟨c1, c2, ⟨m, c3, c4⟩, c5, c6, c7⟩, hc⟩ := cut_spec [] (place := e.first) (at_ := 0) init hw f0
  have c1 : l = max least (least + (e.first - 0 - lenI init)) := c1
  have c7 : lenI r1 + lenI i2 - l = lenI init - least := c7
  have hc := hc []
  rw [List.nil_append] at hc
  have e1 : cutV ⟨init ++ [.gap least none], least⟩ e.first = ⟨r1 ++ (i2 ++ [.gap l none]), l, r1.length⟩ := by
    have : cutV ⟨init ++ [.gap least none], least⟩ e.first = _ := hc
    rw [this]
    simp
  obtain ⟨r1', i2', l', ⟨d1, d2, ⟨m', d3, d4⟩, d5, d6, d7⟩, hd⟩ := cut_spec [] (place := e.last) (at_ := 0 + lenI r1) i2 c4 (by omega)
  have hq1 : cut1 ⟨init ++ [.gap least none], least⟩ e = ⟨r1 ++ (i2 ++ [.gap l none]), l⟩ := by
    unfold cut1
    rw [e1]
  have e2 : cutV (cut1 ⟨init ++ [.gap least none], least⟩ e) e.last = ⟨r1 ++ (r1' ++ (i2' ++ [.gap l' none])), l', r1.length + r1'.length⟩ := by
    rw [hq1]
    show cutGo [] e.last l (r1 ++ (i2 ++ [.gap l none])) 0 = _
    rw [cut_skip [] c3 (by omega), List.nil_append, hd]
  have hq2 : cut2 ⟨init ++ [.gap least none], least⟩ e = ⟨r1 ++ (r1' ++ (i2' ++ [.gap l' none])), l'⟩ := by
    unfold cut2
    rw [e2]
  have heq : editQ ⟨init ++ [.gap least none], least⟩ e = ⟨(r1 ++ e.words.map Rw.word ++ i2') ++ [.gap l' none], l'⟩ := by
    unfold editQ
    rw [hq2, e1, e2]
    dsimp only
    rw [List.take_left, ← List.append_assoc r1 r1', ← List.length_append, List.drop_left]
    simp only [List.append_assoc]
  have hmm := d3.le
  have hnn := lenI_nn d3
  refine ⟨r1 ++ e.words.map Rw.word ++ i2', ?_, fun hl hws => ?_, ?_, ?_, ?_, fun N hN => ?_⟩
  · rw [heq]
    exact ⟨rfl, (c3.app (wfI_words hmm he.2.1)).app d4⟩
  · have hl : (init ++ [Rw.gap least none]).length ≤ 90000 := hl
    rw [List.length_append] at hl
    simp only [List.length_cons, List.length_nil] at hl
    refine ⟨he, hws, ?_, ?_, ?_, ?_, ?_⟩
    · rw [List.length_append]; simp only [List.length_cons, List.length_nil]; omega
    · rw [hq1]; simp only [List.length_append, List.length_cons, List.length_nil]; omega
    · rw [hq2]; simp only [List.length_append, List.length_cons, List.length_nil]; omega
    · rw [e1, e2]; simp only; omega
    · rw [e2, hq2]; simp only [List.length_append, List.length_cons, List.length_nil]; omega
  · rw [heq]
    show l' = max least (e.last - (lenI init - least))
    have e3 : l + (e.last - (0 + lenI r1) - lenI i2) = e.last - (lenI init - least) := by omega
    have hA : least + (e.first - 0 - lenI init) ≤ e.last - (lenI init - least) := by omega
    rw [e3, c1, Int.max_assoc, Int.max_eq_right hA] at d1
    exact d1
  · rw [heq]
    show lenI (r1 ++ e.words.map Rw.word ++ i2') - l' = lenI init - least + Ed.growth e
    rw [lenI_app, lenI_app, lenI_words]
    unfold Ed.growth
    omega
  · rw [List.length_append, List.length_append, List.length_map]
    omega
  · rw [heq] at hN ⊢
    have hN : l' ≤ N := hN
    have hlN : l ≤ N := by omega
    have s1 := c5 N hlN
    have s2 := d5 N hN
    show sem N ((r1 ++ e.words.map Rw.word ++ i2') ++ [.gap l' none]) = doG Tk.new e (sem N (init ++ [.gap least none]))
    have lr1 := sem_len (N := N) c3
    have lr2 := sem_len (N := N) d3
    rw [← s1, sem_app N r1, ← s2, sem_app N r1']
    unfold doG
    rw [List.take_append_of_le_length (by omega), List.take_of_length_le (by omega), ← List.append_assoc (sem N r1), List.drop_append_of_le_length (by rw [List.length_append]; omega), List.drop_of_length_le (by rw [List.length_append]; omega), List.nil_append]
    rw [List.append_assoc, sem_app N (r1 ++ _), sem_app N r1, sem_words]
end K51

namespace K51
open PySem L2 Gd
/-- changes done on the words from a place on -/
def appC (N : Int) : Int → List Ch → List Tk
  | s, [] => seg s N
  | s, c :: r => seg s c.first ++ (c.words.map Tk.new ++ appC N c.last r)
def toldRec : Int → List Str → List Rw → List Ch
  | _, _, [] => []
  | at_, new, .word t :: r => toldRec at_ (new ++ [t]) r
  | at_, new, .gap a b :: r => (if new ≠ [] ∨ at_ < a then [⟨at_, a, new⟩] else []) ++ toldRec (b.getD 0) [] r
theorem toldFold : ∀ (rows : List Rw) (at_ : Option Int) (f : List Ch) (new : List Str), (rows.foldl toldStep (at_, f, new)).2.1 = f ++ toldRec (at_.getD 0) new rows
  | [], at_, f, new => by simp [toldRec]
  | .word t :: r, at_, f, new => by
    rw [List.foldl_cons]
    exact toldFold r at_ f (new ++ [t])
  | .gap a b :: r, at_, f, new => by
    rw [List.foldl_cons]
    have := toldFold r b (if new ≠ [] ∨ at_.getD 0 < a then f ++ [⟨at_.getD 0, a, new⟩] else f) []
    refine this.trans ?_
    simp only [toldRec]
    split <;> simp
theorem goodFrom.mono {e e' : Int} {cs : List Ch} (h : goodFrom e cs) (h1 : e' ≤ e) : goodFrom e' cs := by
  cases cs with
  | nil => trivial
  | cons c r => exact ⟨by have := h.1; omega, h.2⟩
theorem appC_seg {N a b : Int} (h : a ≤ b) {cs : List Ch} (hg : goodFrom (b - 1) cs) (hN : b ≤ N) : appC N a cs = seg a b ++ appC N b cs := by
  cases cs with
  | nil => exact (seg_append h hN).symm
  | cons c r =>
    have := hg.1
    show seg a c.first ++ _ = seg a b ++ (seg b c.first ++ _)
    rw [← List.append_assoc (seg a b), seg_append h (by omega)]
def newLen (new : List Str) (rows : List Rw) : Prop := new.length + rows.length ≤ 1000
theorem okWords_app {a b : List Str} (h1 : okWords a) (h2 : okWords b) : okWords (a ++ b) := fun t ht => (List.mem_append.mp ht).elim (h1 t) (h2 t)
theorem told_spec {least N : Int} (hN : least ≤ N) : ∀ {rest : List Rw} {at_ : Int} {new : List Str}, wfI at_ rest least → okWords new → new.length + rest.length ≤ 1000 →
    appC N at_ (toldRec at_ new (rest ++ [.gap least none])) = new.map Tk.new ++ sem N (rest ++ [.gap least none]) ∧ goodFrom (at_ - 1) (toldRec at_ new (rest ++ [.gap least none])) ∧ ∀ c ∈ toldRec at_ new (rest ++ [.gap least none]), c.last ≤ least
  | [], at_, new, hw, ho, hl => by
    have hw : at_ ≤ least := hw
    simp only [List.nil_append, toldRec, List.append_nil]
    by_cases h : new ≠ [] ∨ at_ < least
    · rw [if_pos h]
      refine ⟨?_, ⟨by show at_ - 1 < at_; omega, hw, ho, by show new.length ≤ 1000; omega, ?_, trivial⟩, fun c hc => ?_⟩
      · show seg at_ at_ ++ (new.map Tk.new ++ seg least N) = new.map Tk.new ++ (seg least N ++ [])
        rw [seg_nil (Int.le_refl _), List.nil_append, List.append_nil]
      · rintro ⟨h1, h2⟩
        have h1 : at_ = least := h1
        rcases h with h | h
        · exact h h2
        · omega
      · simp at hc
        subst hc
        exact Int.le_refl _
    · have h1 : new = [] := by
        by_cases z : new = []
        · exact z
        · exact absurd (Or.inl z) h
      have h2 : at_ = least := by
        have : ¬ at_ < least := fun z => h (Or.inr z)
        omega
      rw [if_neg h]
      subst h1 h2
      refine ⟨?_, trivial, fun c hc => by cases hc⟩
      show seg at_ N = [] ++ (seg at_ N ++ [])
      rw [List.append_nil, List.nil_append]
  | .word t :: r, at_, new, hw, ho, hl => by
    have hl : new.length + (r.length + 1) ≤ 1000 := hl
    have i := told_spec hN (rest := r) (at_ := at_) (new := new ++ [t]) hw.2 (okWords_app ho hw.1) (by rw [List.length_append]; simp only [List.length_cons, List.length_nil]; omega)
    simp only [List.cons_append, toldRec]
    refine ⟨?_, i.2⟩
    rw [i.1, List.map_append, List.append_assoc]
    rfl
  | .gap a (some b) :: r, at_, new, hw, ho, hl => by
    have hl : new.length + (r.length + 1) ≤ 1000 := hl
    have i := told_spec hN (rest := r) (at_ := b) (new := []) hw.2.2 (fun t ht => by cases ht) (by simp only [List.length_nil]; omega)
    have h1 := hw.1
    have h2 := hw.2.1
    have h3 := hw.2.2.le
    have key : appC N a (toldRec b [] (r ++ [.gap least none])) = seg a b ++ sem N (r ++ [.gap least none]) := by
      rw [appC_seg (by omega) i.2.1 (by omega), i.1]
      rfl
    simp only [List.cons_append, toldRec, Option.getD_some]
    by_cases h : new ≠ [] ∨ at_ < a
    · rw [if_pos h]
      refine ⟨?_, ⟨by show at_ - 1 < at_; omega, h1, ho, by show new.length ≤ 1000; omega, ?_, i.2.1.mono (by show a ≤ b - 1; omega)⟩, fun c hc => ?_⟩
      · show seg at_ at_ ++ (new.map Tk.new ++ appC N a (toldRec b [] (r ++ [.gap least none]))) = new.map Tk.new ++ (seg a b ++ sem N (r ++ [.gap least none]))
        rw [seg_nil (Int.le_refl _), List.nil_append, key]
      · rintro ⟨h1, h2⟩
        have h1 : at_ = a := h1
        rcases h with h | h
        · exact h h2
        · omega
      · rcases List.mem_append.mp hc with hc | hc
        · simp at hc
          subst hc
          show a ≤ least
          omega
        · exact i.2.2 c hc
    · have e1 : new = [] := by
        by_cases z : new = []
        · exact z
        · exact absurd (Or.inl z) h
      have e2 : at_ = a := by
        have : ¬ at_ < a := fun z => h (Or.inr z)
        omega
      rw [if_neg h]
      subst e1 e2
      refine ⟨?_, i.2.1.mono (by omega), i.2.2⟩
      show appC N at_ (toldRec b [] (r ++ [.gap least none])) = [] ++ (seg at_ b ++ sem N (r ++ [.gap least none]))
      rw [key, List.nil_append]
theorem joinFold_good : ∀ {cs f : List Ch} {e : Int}, goodFrom e cs → (∀ b, f.getLast? = some b → b.last ≤ e) → cs.foldl joinStep f = f ++ cs
  | [], f, e, _, _ => by simp
  | c :: r, f, e, hg, hf => by
    have hs : joinStep f c = f ++ [c] := by
      unfold joinStep
      cases z : f.getLast? with
      | none =>
        rw [List.getLast?_eq_none_iff] at z
        subst z
        rfl
      | some b =>
        have := hf b z
        have := hg.1
        dsimp only
        rw [if_neg (by omega)]
    rw [List.foldl_cons, hs, joinFold_good (e := c.last) hg.2.2.2.2.2 (fun b hb => by
      rw [List.getLast?_concat] at hb
      cases hb
      exact Int.le_refl _), List.append_assoc]
    rfl
theorem goodFrom.keep : ∀ {cs : List Ch} {e : Int}, goodFrom e cs → ∀ c ∈ cs, keepCh c = true
  | d :: r, e, hg, c, hc => by
    (rcases List.mem_cons.mp hc with rfl | hc)
    · have h1 := hg.2.1
      have h2 := hg.2.2.2.2.1
      unfold keepCh
      by_cases z : c.first < c.last
      · simp [z]
      · have : c.first = c.last := by omega
        have : c.words ≠ [] := fun h => h2 ⟨this, h⟩
        simp [z, this]
    · exact hg.2.2.2.2.2.keep c hc
theorem joined_good {cs : List Ch} {e : Int} (h : goodFrom e cs) : joinedV cs = cs := by
  unfold joinedV
  rw [joinFold_good h (fun b hb => by cases hb), List.nil_append]
  exact List.filter_eq_self.mpr h.keep
theorem told_at : ∀ (rows : List Rw), toldV rows = joinedV (toldRec 0 [] rows) := fun rows => by
  unfold toldV toldAt
  rw [List.take_length, toldFold]
  rfl
theorem lastEnd_le {cs : List Ch} {l : Int} (h0 : 0 ≤ l) (h : ∀ c ∈ cs, c.last ≤ l) : lastEnd cs ≤ l := by
  unfold lastEnd
  cases e : cs.getLast? with
  | none => exact h0
  | some c => exact h c (List.mem_of_getLast? e)
theorem le_lastEnd : ∀ {cs : List Ch} {e : Int}, goodFrom e cs → ∀ c ∈ cs, c.last ≤ lastEnd cs
  | [], e, _, c, hc => by cases hc
  | [d], e, _, c, hc => by
    simp at hc
    subst hc
    exact Int.le_refl _
  | d :: d2 :: r, e, hg, c, hc => by
    have i := le_lastEnd (cs := d2 :: r) (e := d.last) hg.2.2.2.2.2
    have hl : lastEnd (d :: d2 :: r) = lastEnd (d2 :: r) := by
      unfold lastEnd
      rw [List.getLast?_cons_cons]
    rw [hl]
    (rcases List.mem_cons.mp hc with rfl | hc)
    · have := i d2 List.mem_cons_self
      have h1 := hg.2.2.2.2.2.1
      have h2 := hg.2.2.2.2.2.2.1
      omega
    · exact i c hc
theorem toldEnd : ∀ {rest : List Rw} {s e : Int}, wfI s rest e → ∀ (st : Option Int × List Ch × List Str), st.1 ≠ none → ∀ n, n ≤ rest.length → ((rest.take n).foldl toldStep st).1 ≠ none
  | _, _, _, _, st, hst, 0, _ => by simpa using hst
  | .word t :: r, s, e, h, st, hst, n + 1, hn => by
    rw [List.take_succ_cons, List.foldl_cons]
    exact toldEnd h.2 (toldStep st (.word t)) hst n (by simpa using hn)
  | .gap a (some b) :: r, s, e, h, st, hst, n + 1, hn => by
    rw [List.take_succ_cons, List.foldl_cons]
    exact toldEnd h.2.2 (toldStep st (.gap a (some b))) (by intro hh; cases hh) n (by simpa using hn)
theorem wfI_word : ∀ {rest : List Rw} {s e : Int}, wfI s rest e → ∀ t, Rw.word t ∈ rest → okWords [t]
  | .word u :: r, s, e, h, t, hm => by
    (rcases List.mem_cons.mp hm with z | hm)
    · cases z
      exact h.1
    · exact wfI_word h.2 t hm
  | .gap a (some b) :: r, s, e, h, t, hm => by
    (rcases List.mem_cons.mp hm with z | hm)
    · cases z
    · exact wfI_word h.2.2 t hm
theorem wf_rws {q : Ps} {init : List Rw} (h : WfQ q init) (hl : init.length ≤ 900) : RwsOk q.rows := by
  rw [h.1]
  refine ⟨?_, fun t ht => ?_, fun n hn => ?_⟩
  · rw [List.length_append]
    (simp only [List.length_cons, List.length_nil])
    omega
  · rcases List.mem_append.mp ht with ht | ht
    · exact (wfI_word h.2 t ht).str
    · simp at ht
  · rw [List.length_append] at hn
    simp only [List.length_cons, List.length_nil] at hn
    unfold toldAt
    rw [List.take_append_of_le_length (by omega)]
    exact toldEnd h.2 _ (by intro hh; cases hh) n (by omega)
/-- what many edits do -/
def doAll {β : Type} (nw : Str → β) (es : List Ed) (R : List β) : List β := es.foldl (fun R e => doG nw e R) R
def lst : List Ed → Int → Int → Int
  | [], s, _ => s
  | e :: r, s, g => lst r (max s (e.last - g)) (g + e.growth)
def grow (es : List Ed) : Int := (es.map Ed.growth).sum
def wsum' (es : List Ed) : Nat := (es.map fun e => e.words.length).sum
structure QOk (es : List Ed) (n : Nat) (init : List Rw) : Prop where
  wf : WfQ (qAt es n) init
  least : lst (es.drop n) (qAt es n).least (lenI init - (qAt es n).least) = lst es 0 0
  gr : lenI init - (qAt es n).least = grow (es.take n)
  few : init.length ≤ 2 * n + wsum' (es.take n)
  sm : ∀ N, (qAt es n).least ≤ N → sem N (qAt es n).rows = doAll Tk.new (es.take n) (seg 0 N)
theorem lst_le : ∀ (es : List Ed) (s g : Int), s ≤ lst es s g
  | [], s, g => Int.le_refl _
  | e :: r, s, g => by
    have := lst_le r (max s (e.last - g)) (g + e.growth)
    show s ≤ lst r _ _
    omega
theorem sum_take_succ {es : List Ed} {n : Nat} {e : Ed} (h : es[n]? = some e) : grow (es.take (n + 1)) = grow (es.take n) + e.growth ∧ wsum' (es.take (n + 1)) = wsum' (es.take n) + e.words.length := by
  rw [take_succ h]
  unfold grow wsum'
  rw [List.map_append, List.sum_append, List.map_append, List.sum_append]
  simp
theorem q_ok {es : List Ed} (he : ∀ e ∈ es, e.ok) : ∀ n, n ≤ es.length → ∃ init, QOk es n init
  | 0, _ => ⟨[], ⟨⟨rfl, Int.le_refl _⟩, rfl, by simp [lenI, grow, qAt], by simp, fun N hN => by
      show seg 0 N ++ [] = seg 0 N
      rw [List.append_nil]⟩⟩
  | n + 1, hn => by
    obtain ⟨init, h⟩ := q_ok he n (by omega)
    have hy := List.getElem?_eq_getElem (show n < es.length from hn)
    have hd : es.drop n = es[n] :: es.drop (n + 1) := List.drop_eq_getElem_cons hn
    have hm : es[n] ∈ es := List.getElem_mem _
    generalize es[n] = e at hy hd hm
    obtain ⟨i', k⟩ := edit_spec h.wf (he e hm)
    have hq := qAt_succ hy
    have sums := sum_take_succ hy
    have hgr := h.gr
    have hkl := k.least
    have hkg := k.gr
    have hfew := h.few
    have hkf := k.few
    refine ⟨i', ⟨?_, ?_, ?_, ?_, fun N hN => ?_⟩⟩
    · rw [hq]
      exact k.wf
    · rw [hq, ← h.least, hd]
      show lst _ _ _ = lst _ (max _ _) _
      rw [hkg, hkl]
    · rw [hq, sums.1]
      omega
    · rw [sums.2]
      omega
    · rw [hq] at hN ⊢
      rw [k.sm N hN, h.sm N (by omega), take_succ hy]
      unfold doAll
      rw [List.foldl_append]
      rfl
/-- what patch makes of edits -/
structure PatchV (es : List Ed) : Prop where
  good : goodFrom (-1) (patchV es).changes
  ends : ∀ c ∈ (patchV es).changes, c.last ≤ (patchV es).least
  least : (patchV es).least = lst es 0 0
  does : ∀ N, (patchV es).least ≤ N → appC N 0 (patchV es).changes = doAll Tk.new es (seg 0 N)
  few : (patchV es).changes.length ≤ 2 * es.length + wsum' es + 1
  words : wsum (patchV es).changes ≤ 2 * es.length + wsum' es + 1
theorem patch_spec {es : List Ed} (he : ∀ e ∈ es, e.ok) (hl : 2 * es.length + wsum' es ≤ 900) (hw : ∀ e ∈ es, e.words.length ≤ 1000) : PatchV es ∧ (es.length ≤ 60 → PatchOk es) := by
  have htk : ∀ n, n ≤ es.length → wsum' (es.take n) ≤ wsum' es := fun n _ => by
    have : wsum' es = wsum' (es.take n) + wsum' (es.drop n) := by
      conv => lhs; rw [← List.take_append_drop n es]
      unfold wsum'
      rw [List.map_append, List.sum_append]
    omega
  obtain ⟨init, h⟩ := q_ok he es.length (Nat.le_refl _)
  have hf := h.few
  rw [List.take_length] at hf
  have hr := wf_rws h.wf (by omega)
  have hrows := h.wf.1
  have hwf := h.wf.2
  have hlst := h.least
  rw [List.drop_length] at hlst
  have hlst : (qAt es es.length).least = lst es 0 0 := hlst
  have hl0 := hwf.le
  have spec := fun N (hN : (qAt es es.length).least ≤ N) => told_spec hN (rest := init) (at_ := 0) (new := []) hwf (fun t ht => by cases ht) (by simp only [List.length_nil]; omega)
  have s0 := spec _ (Int.le_refl _)
  rw [← hrows] at s0
  have hj : toldV (qAt es es.length).rows = toldRec 0 [] (qAt es es.length).rows := by
    rw [told_at]
    exact joined_good s0.2.1
  have hch : (patchV es).changes = toldRec 0 [] (qAt es es.length).rows := hj
  have ht := toldAt_ok hr.ws (qAt es es.length).rows.length (Nat.le_refl _)
  have hta : (toldAt (qAt es es.length).rows (qAt es es.length).rows.length).2.1 = toldRec 0 [] (qAt es es.length).rows := by
    unfold toldAt
    rw [List.take_length, toldFold]
    rfl
  rw [hta] at ht
  have hrl : (qAt es es.length).rows.length = init.length + 1 := by
    rw [hrows, List.length_append]
    rfl
  have pv : PatchV es := by
    refine ⟨?_, ?_, hlst, fun N hN => ?_, ?_, ?_⟩
    · rw [hch]
      exact s0.2.1
    · rw [hch]
      exact s0.2.2
    · have s1 := (spec N hN).1
      rw [← hrows] at s1
      rw [hch, s1, h.sm N hN, List.take_length]
      rfl
    · rw [hch]
      omega
    · rw [hch]
      omega
  refine ⟨pv, fun h60 => ⟨h60, fun n e hy => ?_, hr, pv.good, ?_, ?_⟩⟩
  · have hn := (List.getElem?_eq_some_iff.mp hy).1
    obtain ⟨i0, h0⟩ := q_ok he n (by omega)
    obtain ⟨i', k⟩ := edit_spec h0.wf (he e (List.mem_of_getElem? hy))
    refine k.edq ?_ (hw e (List.mem_of_getElem? hy))
    have h0f := h0.few
    have := htk n (by omega)
    rw [h0.wf.1, List.length_append]
    (simp only [List.length_cons, List.length_nil])
    omega
  · have := pv.few
    omega
  · exact lastEnd_le hl0 pv.ends
end K51

namespace K51
open PySem L2 Gd
/-! ### a text tells the changes -/
def parse (N : Int) : Int → List Str → List Tk → List Ch
  | at_, new, [] => if new ≠ [] ∨ at_ < N then [⟨at_, N, new⟩] else []
  | at_, new, .new t :: R => parse N at_ (new ++ [t]) R
  | at_, new, .old i :: R => (if new ≠ [] ∨ at_ < i then [⟨at_, i, new⟩] else []) ++ parse N (i + 1) [] R
theorem parse_seg {N s f : Int} (h : s ≤ f) (X : List Tk) : parse N s [] (seg s f ++ X) = parse N f [] X := by
  obtain ⟨n, hn⟩ := Int.eq_ofNat_of_zero_le (show 0 ≤ f - s by omega)
  induction n generalizing s with
  | zero =>
    have : s = f := by omega
    subst this
    rw [seg_nil (Int.le_refl s)]
    rfl
  | succ n ih =>
    rw [seg_cons (show s < f by omega), List.cons_append]
    show (if [] ≠ ([] : List Str) ∨ s < s then _ else _) ++ _ = _
    rw [if_neg (by rintro (h | h); exact h rfl; omega), List.nil_append]
    exact ih (by omega) (by omega)
theorem parse_new {N at_ : Int} (Y : List Tk) : ∀ (ws new : List Str), parse N at_ new (ws.map Tk.new ++ Y) = parse N at_ (new ++ ws) Y
  | [], new => by simp
  | t :: ws, new => by
    rw [List.map_cons, List.cons_append]
    show parse N at_ (new ++ [t]) _ = _
    rw [parse_new Y ws, List.append_assoc]
    rfl
theorem good_nil {e N : Int} {r : List Ch} (h : goodFrom e r) (hl : ∀ c ∈ r, c.last ≤ N) (hN : N ≤ e) : r = [] := by
  cases r with
  | nil => rfl
  | cons c r =>
    have := h.1
    have := h.2.1
    have := hl c List.mem_cons_self
    omega
theorem parse_app {N : Int} : ∀ {cs : List Ch} {s : Int}, goodFrom (s - 1) cs → (∀ c ∈ cs, c.last ≤ N) → s ≤ N → parse N s [] (appC N s cs) = cs
  | [], s, _, _, hs => by
    show parse N s [] (seg s N) = []
    rw [← List.append_nil (seg s N), parse_seg hs]
    show (if [] ≠ ([] : List Str) ∨ N < N then _ else _) = _
    rw [if_neg (by rintro (h | h); exact h rfl; omega)]
  | c :: r, s, hg, hl, hs => by
    have g1 := hg.1
    have g2 := hg.2.1
    have g3 := hg.2.2.2.2.1
    have g4 := hg.2.2.2.2.2
    have cl := hl c List.mem_cons_self
    have hc : c.words ≠ [] ∨ c.first < c.last := by
      by_cases z : c.words = []
      · right
        have : c.first ≠ c.last := fun h => g3 ⟨h, z⟩
        omega
      · exact Or.inl z
    have hr : ∀ d ∈ r, d.last ≤ N := fun d hd => hl d (List.mem_cons_of_mem _ hd)
    show parse N s [] (seg s c.first ++ (c.words.map Tk.new ++ appC N c.last r)) = _
    rw [parse_seg (by omega), parse_new, List.nil_append]
    by_cases hN : c.last < N
    · rw [appC_seg (a := c.last) (b := c.last + 1) (by omega) (g4.mono (by omega)) (by omega), seg_cons (show c.last < c.last + 1 by omega), seg_nil (Int.le_refl _)]
      show (if c.words ≠ [] ∨ c.first < c.last then ([⟨c.first, c.last, c.words⟩] : List Ch) else []) ++ parse N (c.last + 1) [] (appC N (c.last + 1) r) = _
      rw [if_pos hc, parse_app (g4.mono (by omega)) hr (by omega)]
      rfl
    · have e : c.last = N := by omega
      have er : r = [] := good_nil g4 hr (by omega)
      subst er
      show parse N c.first c.words (seg c.last N) = _
      rw [seg_nil (by omega)]
      show (if c.words ≠ [] ∨ c.first < N then ([⟨c.first, N, c.words⟩] : List Ch) else []) = _
      rw [if_pos (by rw [← e]; exact hc), ← e]
theorem appC_inj {N : Int} {cs ds : List Ch} (h1 : goodFrom (-1) cs) (h2 : goodFrom (-1) ds) (l1 : ∀ c ∈ cs, c.last ≤ N) (l2 : ∀ c ∈ ds, c.last ≤ N) (hN : 0 ≤ N) (h : appC N 0 cs = appC N 0 ds) : cs = ds := by
  rw [← parse_app (s := 0) (by exact h1) l1 hN, h, parse_app (s := 0) (by exact h2) l2 hN]
/-! ### edits on any texts -/
section
variable {β γ : Type}
theorem doG_map (f : β → γ) (nw : Str → β) (e : Ed) (R : List β) : (doG nw e R).map f = doG (fun t => f (nw t)) e (R.map f) := by
  unfold doG
  simp [List.map_take, List.map_drop, Function.comp_def]
theorem doAll_map (f : β → γ) (nw : Str → β) : ∀ (es : List Ed) (R : List β), (doAll nw es R).map f = doAll (fun t => f (nw t)) es (R.map f)
  | [], R => rfl
  | e :: r, R => by
    show (doAll nw r (doG nw e R)).map f = doAll _ r (doG _ e (R.map f))
    rw [doAll_map f nw r, doG_map]
theorem doAll_app (nw : Str → β) (a b : List Ed) (R : List β) : doAll nw (a ++ b) R = doAll nw b (doAll nw a R) := List.foldl_append
/-- what a word of a text behind edits is, on words at hand -/
def look (nw : Str → β) (R : List β) : Tk → β
  | .old i => R.getD i.toNat (nw "")
  | .new t => nw t
theorem look_seg' (nw : Str → β) (R : List β) (n : Nat) : ∀ k, n + k = R.length → (seg n R.length).map (look nw R) = R.drop n := fun k => by
  induction k generalizing n with
  | zero =>
    intro h
    rw [seg_nil (by omega), List.drop_of_length_le (by omega)]
    rfl
  | succ k ih =>
    intro h
    rw [seg_cons (by omega), List.map_cons]
    have := ih (n + 1) (by omega)
    rw [Int.natCast_add] at this
    rw [show (n : Int) + 1 = (n : Int) + ((1 : Nat) : Int) from rfl, this, List.drop_eq_getElem_cons (show n < R.length by omega)]
    congr 1
    show R.getD (n : Int).toNat _ = _
    rw [Int.toNat_natCast, List.getD_eq_getElem?_getD, List.getElem?_eq_getElem (by omega)]
    rfl
theorem look_seg (nw : Str → β) (R : List β) : (seg 0 R.length).map (look nw R) = R := look_seg' nw R 0 R.length (by omega)
theorem doAll_look (nw : Str → β) (es : List Ed) (R : List β) : doAll nw es R = (doAll Tk.new es (seg 0 R.length)).map (look nw R) := by
  rw [doAll_map, look_seg]
  rfl
theorem doG_len {nw : Str → β} {e : Ed} (he : e.ok) {R : List β} (h : e.last ≤ R.length) : ((doG nw e R).length : Int) = R.length + e.growth := by
  have f0 := he.1.1
  have f1 := he.1.2
  unfold doG Ed.growth
  rw [List.length_append, List.length_append, List.length_take, List.length_map, List.length_drop]
  omega
theorem doAll_len {nw : Str → β} : ∀ {es : List Ed}, (∀ e ∈ es, e.ok) → ∀ {R : List β} {s g N : Int}, lst es s g ≤ N → (R.length : Int) = N + g → ((doAll nw es R).length : Int) = N + g + grow es
  | [], _, R, s, g, N, _, hR => by simp [doAll, grow, hR]
  | e :: r, he, R, s, g, N, hl, hR => by
    have hl : lst r (max s (e.last - g)) (g + e.growth) ≤ N := hl
    have h1 := lst_le r (max s (e.last - g)) (g + e.growth)
    have hd := doG_len (nw := nw) (he e List.mem_cons_self) (R := R) (by omega)
    have := doAll_len (nw := nw) (fun d hd => he d (List.mem_cons_of_mem _ hd)) (R := doG nw e R) hl (by omega)
    show ((doAll nw r (doG nw e R)).length : Int) = _
    have hg : grow (e :: r) = e.growth + grow r := by simp [grow]
    rw [this, hg]
    omega
end
theorem appC_len {N : Int} : ∀ {cs : List Ch} {s : Int}, goodFrom (s - 1) cs → (∀ c ∈ cs, c.last ≤ N) → s ≤ N → ((appC N s cs).length : Int) = N - s + grow cs
  | [], s, _, _, hs => by
    show (((seg s N).length : Nat) : Int) = _
    rw [seg_len]
    simp [grow]
    omega
  | c :: r, s, hg, hl, hs => by
    have g1 := hg.1
    have g2 := hg.2.1
    have cl := hl c List.mem_cons_self
    have i := appC_len (s := c.last) (hg.2.2.2.2.2.mono (by omega)) (fun d hd => hl d (List.mem_cons_of_mem _ hd)) cl
    have hgr : grow (c :: r) = Ed.growth c + grow r := by simp [grow]
    show (((seg s c.first ++ (c.words.map Tk.new ++ appC N c.last r)).length : Nat) : Int) = _
    rw [List.length_append, List.length_append, seg_len, List.length_map, hgr]
    unfold Ed.growth
    omega
theorem grow_app (a b : List Ed) : grow (a ++ b) = grow a + grow b := by simp [grow]
theorem grow_rev : ∀ cs : List Ed, grow cs.reverse = grow cs
  | [] => rfl
  | c :: r => by
    rw [List.reverse_cons, grow_app, grow_rev r]
    simp [grow]
    omega
theorem grow_good {L : Int} : ∀ {cs : List Ch} {e : Int}, goodFrom e cs → (∀ c ∈ cs, c.last ≤ L) → e ≤ L → e - L ≤ grow cs
  | [], e, _, _, h => by simp [grow]; omega
  | c :: r, e, hg, hl, h => by
    have g1 := hg.1
    have g2 := hg.2.1
    have cl := hl c List.mem_cons_self
    have i := grow_good hg.2.2.2.2.2 (fun d hd => hl d (List.mem_cons_of_mem _ hd)) cl
    have hgr : grow (c :: r) = Ed.growth c + grow r := by simp [grow]
    rw [hgr]
    unfold Ed.growth
    omega
theorem lst_app : ∀ (a b : List Ed) (s g : Int), lst (a ++ b) s g = lst b (lst a s g) (g + grow a)
  | [], b, s, g => by simp [lst, grow]
  | e :: r, b, s, g => by
    show lst (r ++ b) _ _ = _
    rw [lst_app r b]
    have : grow (e :: r) = e.growth + grow r := by simp [grow]
    rw [this, ← Int.add_assoc]
    rfl
theorem lst_shift (s g : Int) : ∀ (b : List Ed) (s' g' : Int), lst b (max s (s' - g)) (g + g') = max s (lst b s' g' - g)
  | [], s', g' => rfl
  | e :: r, s', g' => by
    show lst r (max (max s (s' - g)) (e.last - (g + g'))) (g + g' + e.growth) = _
    have := lst_shift s g r (max s' (e.last - g')) (g' + e.growth)
    rw [show max (max s (s' - g)) (e.last - (g + g')) = max s (max s' (e.last - g') - g) by omega, Int.add_assoc, this]
    rfl
theorem lst_rev {L : Int} : ∀ {cs : List Ch} {e : Int} (s g : Int), goodFrom e cs → (∀ c ∈ cs, c.last ≤ L) → lst cs.reverse s g ≤ max s (L - g)
  | [], e, s, g, _, _ => by
    show s ≤ _
    omega
  | c :: r, e, s, g, hg, hl => by
    have cl := hl c List.mem_cons_self
    have hr : ∀ d ∈ r, d.last ≤ L := fun d hd => hl d (List.mem_cons_of_mem _ hd)
    have i := lst_rev (cs := r) (e := c.last) s g hg.2.2.2.2.2 hr
    have k := grow_good hg.2.2.2.2.2 hr cl
    rw [List.reverse_cons, lst_app, grow_rev]
    show max (lst r.reverse s g) (c.last - (g + grow r)) ≤ _
    omega
theorem rev_do {N : Int} : ∀ {cs : List Ch} {s : Int} (X : List Tk), goodFrom (s - 1) cs → (∀ c ∈ cs, c.last ≤ N) → 0 ≤ s → s ≤ N → (X.length : Int) = s → doAll Tk.new cs.reverse (X ++ seg s N) = X ++ appC N s cs
  | [], s, X, _, _, _, _, _ => rfl
  | c :: r, s, X, hg, hl, h0, hs, hX => by
    have g1 := hg.1
    have g2 := hg.2.1
    have cl := hl c List.mem_cons_self
    have hseg : seg s N = seg s c.last ++ seg c.last N := (seg_append (by omega) cl).symm
    have l1 := seg_len s c.last
    have l2 := seg_len s c.first
    have i := rev_do (cs := r) (s := c.last) (X ++ seg s c.last) (hg.2.2.2.2.2.mono (by omega)) (fun d hd => hl d (List.mem_cons_of_mem _ hd)) (by omega) cl (by rw [List.length_append]; omega)
    rw [List.reverse_cons, doAll_app, hseg, ← List.append_assoc, i]
    show doG Tk.new c _ = X ++ (seg s c.first ++ (c.words.map Tk.new ++ appC N c.last r))
    unfold doG
    rw [List.drop_append_of_le_length (by rw [List.length_append]; omega), List.drop_of_length_le (by rw [List.length_append]; omega), List.nil_append]
    rw [← seg_append (show s ≤ c.first by omega) g2, ← List.append_assoc, List.append_assoc, List.append_assoc (X ++ seg s c.first), List.take_append_of_le_length (by rw [List.length_append]; omega), List.take_of_length_le (by rw [List.length_append]; omega)]
    simp only [List.append_assoc]
theorem rev_do0 {N : Int} {cs : List Ch} (hg : goodFrom (-1) cs) (hl : ∀ c ∈ cs, c.last ≤ N) (hN : 0 ≤ N) : doAll Tk.new cs.reverse (seg 0 N) = appC N 0 cs := by
  have := rev_do (N := N) (cs := cs) (s := 0) [] hg hl (Int.le_refl _) hN rfl
  simpa using this
theorem pv_nn {es : List Ed} (h : PatchV es) : 0 ≤ (patchV es).least := by
  rw [h.least]
  exact lst_le es 0 0
theorem pv_growth {es : List Ed} (h : PatchV es) (he : ∀ e ∈ es, e.ok) : (patchV es).growth = grow es := by
  have h0 := pv_nn h
  have a := appC_len (N := (patchV es).least) (cs := (patchV es).changes) (s := 0) h.good h.ends h0
  have b := doAll_len (nw := Tk.new) he (R := seg 0 (patchV es).least) (s := 0) (g := 0) (N := (patchV es).least) (by rw [h.least]; exact Int.le_refl _) (by rw [seg_len]; omega)
  rw [h.does _ (Int.le_refl _), b] at a
  have : (patchV es).growth = grow (patchV es).changes := rfl
  omega
/-- the edits of a patch do what it does -/
theorem pv_edits {es : List Ed} (h : PatchV es) (hr : PatchV (patchV es).changes.reverse) : (patchV (patchV es).changes.reverse).changes = (patchV es).changes := by
  have h1 := pv_nn h
  have h2 := pv_nn hr
  refine appC_inj (N := max (patchV es).least (patchV (patchV es).changes.reverse).least) hr.good h.good (fun c hc => ?_) (fun c hc => ?_) (by omega) ?_
  · have := hr.ends c hc; omega
  · have := h.ends c hc; omega
  · rw [hr.does _ (by omega), rev_do0 h.good (fun c hc => by have := h.ends c hc; omega) (by omega)]
theorem pv_least {a b : List Ed} (ha : PatchV a) (hb : PatchV b) (hw : PatchV (a ++ b)) (oa : ∀ e ∈ a, e.ok) : (patchV (a ++ b)).least = max (patchV a).least ((patchV b).least - grow a) := by
  have g0 := doAll_len (nw := Tk.new) oa (R := seg 0 (patchV a).least) (s := 0) (g := 0) (N := (patchV a).least) (by rw [ha.least]; exact Int.le_refl _) (by rw [seg_len]; have := pv_nn ha; omega)
  rw [hw.least, lst_app, ← ha.least, hb.least, Int.zero_add]
  have := lst_shift (patchV a).least (grow a) b 0 0
  rw [Int.add_zero] at this
  rw [← this]
  congr 1
  omega
/-- one patch behind another one -/
def behindV (p q : Pa) : Pa := ⟨(patchV (p.changes.reverse ++ q.changes.reverse)).changes, max (max (patchV (p.changes.reverse ++ q.changes.reverse)).least p.least) (q.least - p.growth)⟩
theorem behind_spec {a b : List Ed} (ha : PatchV a) (hb : PatchV b) (hw : PatchV (a ++ b)) (hc : PatchV ((patchV a).changes.reverse ++ (patchV b).changes.reverse)) (oa : ∀ e ∈ a, e.ok) : behindV (patchV a) (patchV b) = patchV (a ++ b) := by
  have n1 := pv_nn ha
  have n2 := pv_nn hb
  have n3 := pv_nn hw
  have n4 := pv_nn hc
  have hl := pv_least ha hb hw oa
  have hgr := pv_growth ha oa
  have e1 : (patchV ((patchV a).changes.reverse ++ (patchV b).changes.reverse)).changes = (patchV (a ++ b)).changes := by
    generalize hN : max (patchV (a ++ b)).least (patchV ((patchV a).changes.reverse ++ (patchV b).changes.reverse)).least = N
    refine appC_inj (N := N) hc.good hw.good (fun c h => ?_) (fun c h => ?_) (by omega) ?_
    · have := hc.ends c h; omega
    · have := hw.ends c h; omega
    · rw [hc.does N (by omega), hw.does N (by omega), doAll_app, doAll_app, rev_do0 ha.good (fun c h => by have := ha.ends c h; omega) (by omega), ha.does N (by omega)]
      have lR := doAll_len (nw := Tk.new) oa (R := seg 0 N) (s := 0) (g := 0) (N := N) (by rw [← ha.least]; omega) (by rw [seg_len]; omega)
      generalize doAll Tk.new a (seg 0 N) = R at lR
      rw [doAll_look, doAll_look (es := b), rev_do0 hb.good (fun c h => by have := hb.ends c h; omega) (by omega), hb.does _ (by omega)]
  have e2 : (patchV ((patchV a).changes.reverse ++ (patchV b).changes.reverse)).least ≤ max (patchV a).least ((patchV b).least - grow a) := by
    rw [hc.least, lst_app, grow_rev]
    have r1 := lst_rev (L := (patchV a).least) 0 0 ha.good ha.ends
    have r2 := lst_rev (L := (patchV b).least) (lst (patchV a).changes.reverse 0 0) (0 + grow (patchV a).changes) hb.good hb.ends
    have : grow (patchV a).changes = grow a := hgr
    omega
  unfold behindV
  rw [e1, hgr]
  have : max (max (patchV ((patchV a).changes.reverse ++ (patchV b).changes.reverse)).least (patchV a).least) ((patchV b).least - grow a) = (patchV (a ++ b)).least := by omega
  rw [this]
end K51

namespace K51
open PySem L2 Gd
/-! ### changes of two hands: plain laws -/
/-- a change that may stand in a row of changes -/
structure Ne1 (c : Ch) : Prop where
  le : c.first ≤ c.last
  ok : okWords c.words
  few : c.words.length ≤ 1000
  real : ¬ (c.first = c.last ∧ c.words = [])
/-- changes in order, that may touch -/
def wk : Int → List Ch → Prop
  | _, [] => True
  | s, c :: r => s ≤ c.first ∧ Ne1 c ∧ wk c.last r
theorem wk.mono {s s' : Int} {cs : List Ch} (h : wk s cs) (h1 : s' ≤ s) : wk s' cs := by
  cases cs with
  | nil => trivial
  | cons c r => exact ⟨by have := h.1; omega, h.2⟩
theorem goodFrom.wk : ∀ {cs : List Ch} {s : Int}, goodFrom (s - 1) cs → wk s cs
  | [], _, _ => trivial
  | c :: r, s, h => ⟨by have := h.1; omega, ⟨h.2.1, h.2.2.1, h.2.2.2.1, h.2.2.2.2.1⟩, goodFrom.wk (h.2.2.2.2.2.mono (by omega))⟩
theorem wk.filter (p : Ch → Bool) : ∀ {cs : List Ch} {s : Int}, wk s cs → wk s (cs.filter p)
  | [], _, _ => trivial
  | c :: r, s, h => by
    have i := (h.2.2).filter p
    rw [List.filter_cons]
    split
    · exact ⟨h.1, h.2.1, i⟩
    · exact i.mono (by have := h.1; have := h.2.1.le; omega)
theorem appC_segW {N a b : Int} (h : a ≤ b) {cs : List Ch} (hg : wk b cs) (hN : b ≤ N) : appC N a cs = seg a b ++ appC N b cs := by
  cases cs with
  | nil => exact (seg_append h hN).symm
  | cons c r =>
    have := hg.1
    show seg a c.first ++ _ = seg a b ++ (seg b c.first ++ _)
    rw [← List.append_assoc (seg a b), seg_append h (by omega)]
/-- a part of a row, looked up -/
theorem seg_part {R p q r : List Tk} {a b : Int} (hR : R = p ++ (q ++ r)) (ha : (p.length : Int) = a) (hb : (p.length : Int) + q.length = b) : (seg a b).map (look Tk.new R) = q := by
  have l1 : R.length = p.length + (q.length + r.length) := by rw [hR]; simp
  have h1 := look_seg' Tk.new R p.length (q.length + r.length) (by omega)
  have h2 := look_seg' Tk.new R (p.length + q.length) r.length (by omega)
  have e1 : R.drop p.length = q ++ r := by rw [hR, List.drop_left]
  have e2 : R.drop (p.length + q.length) = r := by rw [← List.drop_drop, e1, List.drop_left]
  rw [e1] at h1
  rw [e2] at h2
  have hb' : ((p.length + q.length : Nat) : Int) = b := by omega
  rw [hb'] at h2
  rw [ha, ← seg_append (show a ≤ b by omega) (show b ≤ (R.length : Int) by omega), List.map_append, h2] at h1
  exact List.append_cancel_right h1
theorem look_news (R : List Tk) (ws : List Str) : (ws.map Tk.new).map (look Tk.new R) = ws.map Tk.new := by
  rw [List.map_map]
  rfl
def shiftC (g : Int) (c : Ch) : Ch := ⟨c.first + g, c.last + g, c.words⟩
/-- the changes not in A, behind those in A -/
def shiftB (inA : Ch → Bool) : Int → List Ch → List Ch
  | _, [] => []
  | g, c :: r => if inA c = true then shiftB inA (g + c.growth) r else shiftC g c :: shiftB inA g r
theorem growth_eq (c : Ch) : c.growth = c.words.length - (c.last - c.first) := rfl
theorem shift_wk (inA : Ch → Bool) : ∀ {M : List Ch} {s g : Int}, wk s M → wk (s + g) (shiftB inA g M)
  | [], _, _, _ => trivial
  | c :: r, s, g, h => by
    have h1 := h.1
    have h2 := h.2.1.le
    have h3 := growth_eq c
    unfold shiftB
    split
    · exact (shift_wk inA (g := g + c.growth) h.2.2).mono (by omega)
    · exact ⟨by show s + g ≤ c.first + g; omega, ⟨by show c.first + g ≤ c.last + g; omega, h.2.1.ok, h.2.1.few, fun z => h.2.1.real ⟨by have := z.1; have : c.first + g = c.last + g := this; omega, z.2⟩⟩, shift_wk inA h.2.2⟩
theorem grow_cons (c : Ch) (r : List Ch) : grow (c :: r) = c.growth + grow r := by simp [grow]
theorem shift_ends (inA : Ch → Bool) {N : Int} : ∀ {M : List Ch} {s g : Int}, wk s M → (∀ c ∈ M, c.last ≤ N) → s ≤ N → s + g ≤ N + g + grow (M.filter inA) ∧ ∀ c ∈ shiftB inA g M, c.last ≤ N + g + grow (M.filter inA)
  | [], s, g, _, _, hs => ⟨by simp [grow]; omega, fun c hc => by cases hc⟩
  | c :: r, s, g, h, hl, hs => by
    have h1 := h.1
    have h2 := h.2.1.le
    have h3 := growth_eq c
    have h4 := hl c List.mem_cons_self
    have hr : ∀ d ∈ r, d.last ≤ N := fun d hd => hl d (List.mem_cons_of_mem _ hd)
    by_cases z : inA c = true
    · have i := shift_ends inA (g := g + c.growth) h.2.2 hr h4
      rw [List.filter_cons, if_pos z, grow_cons]
      refine ⟨by omega, fun d hd => ?_⟩
      rw [shiftB, if_pos z] at hd
      have := i.2 d hd
      omega
    · have i := shift_ends inA (g := g) h.2.2 hr h4
      rw [List.filter_cons, if_neg z]
      refine ⟨by omega, fun d hd => ?_⟩
      rw [shiftB, if_neg z] at hd
      (rcases List.mem_cons.mp hd with rfl | hd)
      · show c.last + g ≤ _
        omega
      · exact i.2 d hd
theorem appC_lenW {N : Int} : ∀ {cs : List Ch} {s : Int}, wk s cs → (∀ c ∈ cs, c.last ≤ N) → s ≤ N → ((appC N s cs).length : Int) = N - s + grow cs
  | [], s, _, _, hs => by
    show ((seg s N).length : Int) = _
    have := seg_len s N
    have : grow [] = 0 := rfl
    omega
  | c :: r, s, h, hl, hs => by
    have h1 := h.1
    have h2 := h.2.1.le
    have h3 := growth_eq c
    have h4 := hl c List.mem_cons_self
    have i := appC_lenW (cs := r) h.2.2 (fun d hd => hl d (List.mem_cons_of_mem _ hd)) h4
    rw [grow_cons]
    show ((seg s c.first ++ (c.words.map Tk.new ++ appC N c.last r)).length : Int) = _
    have := seg_len s c.first
    rw [List.length_append, List.length_append, List.length_map]
    omega
/-- doing the rest behind A does all -/
theorem shift_sem {N : Int} (inA : Ch → Bool) (R : List Tk) : ∀ {M : List Ch} {s g : Int} (pre : List Tk), wk s M → (∀ c ∈ M, c.last ≤ N) → s ≤ N → R = pre ++ appC N s (M.filter inA) → (pre.length : Int) = s + g →
    (appC R.length (s + g) (shiftB inA g M)).map (look Tk.new R) = appC N s M
  | [], s, g, pre, _, _, hs, hR, hp => by
    have l := seg_len s N
    show (seg (s + g) R.length).map _ = seg s N
    have hR' : R = pre ++ (seg s N ++ []) := by rw [List.append_nil]; exact hR
    refine seg_part hR' hp ?_
    have := congrArg List.length hR'
    rw [List.length_append, List.length_append] at this
    simp only [List.length_nil] at this
    omega
  | c :: r, s, g, pre, h, hl, hs, hR, hp => by
    have h1 := h.1
    have h2 := h.2.1.le
    have h3 := growth_eq c
    have h4 := hl c List.mem_cons_self
    have hr : ∀ d ∈ r, d.last ≤ N := fun d hd => hl d (List.mem_cons_of_mem _ hd)
    have l1 := seg_len s c.first
    have l2 := seg_len c.first c.last
    have hsub : ∀ d ∈ r.filter inA, d.last ≤ N := fun d hd => hr d (List.mem_filter.mp hd).1
    by_cases z : inA c = true
    · rw [List.filter_cons, if_pos z] at hR
      have hR1 : R = pre ++ ((seg s c.first ++ c.words.map Tk.new) ++ appC N c.last (r.filter inA)) := by
        rw [hR, List.append_assoc]
        rfl
      have hR2 : R = (pre ++ (seg s c.first ++ c.words.map Tk.new)) ++ appC N c.last (r.filter inA) := by rw [hR1]; simp only [List.append_assoc]
      have hlen : (R.length : Int) = pre.length + (seg s c.first).length + c.words.length + (appC N c.last (r.filter inA)).length := by
        rw [hR1, List.length_append, List.length_append, List.length_append, List.length_map]
        omega
      have i := shift_sem inA R (g := g + c.growth) (pre ++ (seg s c.first ++ c.words.map Tk.new)) h.2.2 hr h4 hR2 (by
        rw [List.length_append, List.length_append, List.length_map]
        omega)
      rw [shiftB, if_pos z, appC_segW (show s + g ≤ c.last + (g + c.growth) by omega) (shift_wk inA h.2.2) (by omega), List.map_append, i]
      rw [seg_part hR1 hp (by rw [List.length_append, List.length_map]; omega), List.append_assoc]
      rfl
    · rw [List.filter_cons, if_neg z] at hR
      have hw := (h.2.2).filter inA
      rw [appC_segW (show s ≤ c.last by omega) hw h4, ← seg_append h1 h2] at hR
      have hR1 : R = pre ++ (seg s c.first ++ (seg c.first c.last ++ appC N c.last (r.filter inA))) := by rw [hR]; simp only [List.append_assoc]
      have hR2 : R = (pre ++ (seg s c.first ++ seg c.first c.last)) ++ appC N c.last (r.filter inA) := by rw [hR]; simp only [List.append_assoc]
      have i := shift_sem inA R (g := g) (pre ++ (seg s c.first ++ seg c.first c.last)) h.2.2 hr h4 hR2 (by
        rw [List.length_append, List.length_append]
        omega)
      rw [shiftB, if_neg z]
      show (seg (s + g) (c.first + g) ++ (c.words.map Tk.new ++ appC R.length (c.last + g) (shiftB inA g r))).map _ = _
      rw [List.map_append, List.map_append, i, look_news, seg_part hR1 hp (by omega)]
      rfl
/-! ### joined -/
theorem good_snoc : ∀ {f : List Ch} {e : Int} {b c : Ch}, goodFrom e (f ++ [b]) → b.last < c.first → Ne1 c → goodFrom e (f ++ [b] ++ [c])
  | [], e, b, c, h, hl, hc => ⟨h.1, h.2.1, h.2.2.1, h.2.2.2.1, h.2.2.2.2.1, hl, hc.le, hc.ok, hc.few, hc.real, trivial⟩
  | d :: f, e, b, c, h, hl, hc => ⟨h.1, h.2.1, h.2.2.1, h.2.2.2.1, h.2.2.2.2.1, good_snoc h.2.2.2.2.2 hl hc⟩
theorem good_last : ∀ {f : List Ch} {e : Int} {b c : Ch}, goodFrom e (f ++ [b]) → c.first = b.first → Ne1 c → goodFrom e (f ++ [c])
  | [], e, b, c, h, hl, hc => ⟨by have := h.1; omega, hc.le, hc.ok, hc.few, hc.real, trivial⟩
  | d :: f, e, b, c, h, hl, hc => ⟨h.1, h.2.1, h.2.2.1, h.2.2.2.1, h.2.2.2.2.1, good_last h.2.2.2.2.2 hl hc⟩
theorem good_end : ∀ {f : List Ch} {e : Int} {b : Ch}, goodFrom e (f ++ [b]) → Ne1 b
  | [], _, _, h => ⟨h.2.1, h.2.2.1, h.2.2.2.1, h.2.2.2.2.1⟩
  | d :: f, _, _, h => good_end h.2.2.2.2.2
def preC : Int → List Ch → List Tk
  | _, [] => []
  | s, c :: r => seg s c.first ++ (c.words.map Tk.new ++ preC c.last r)
def endC : Int → List Ch → Int
  | s, [] => s
  | _, c :: r => endC c.last r
theorem appC_pre (N : Int) (b : List Ch) : ∀ (a : List Ch) (s : Int), appC N s (a ++ b) = preC s a ++ appC N (endC s a) b
  | [], s => rfl
  | c :: r, s => by
    show seg s c.first ++ (c.words.map Tk.new ++ appC N c.last (r ++ b)) = _
    rw [appC_pre N b r c.last]
    simp [preC, endC, List.append_assoc]
theorem joinStep_at (f : List Ch) (b c : Ch) : joinStep (f ++ [b]) c = if b.last = c.first then f ++ [⟨b.first, c.last, b.words ++ c.words⟩] else f ++ [b] ++ [c] := by
  unfold joinStep
  rw [List.getLast?_concat]
  dsimp only
  rw [List.dropLast_concat]
theorem join_wk : ∀ {cs : List Ch} {f : List Ch} {e : Int} {b : Ch}, goodFrom e (f ++ [b]) → wk b.last cs → wsum (f ++ [b]) + wsum cs ≤ 1000 →
    goodFrom e (cs.foldl joinStep (f ++ [b])) ∧ (∀ N s, appC N s (cs.foldl joinStep (f ++ [b])) = appC N s (f ++ [b] ++ cs)) ∧ (∀ L, (∀ c ∈ f ++ [b], c.last ≤ L) → (∀ c ∈ cs, c.last ≤ L) → ∀ c ∈ cs.foldl joinStep (f ++ [b]), c.last ≤ L)
  | [], f, e, b, hg, _, _ => ⟨hg, fun N s => by rw [List.append_nil]; rfl, fun L h _ => h⟩
  | c :: r, f, e, b, hg, hw, hz => by
    have h1 := hw.1
    have hb := good_end hg
    have hwc : wsum (c :: r) = c.words.length + wsum r := by simp [wsum]
    have hwf : wsum (f ++ [b]) = wsum f + b.words.length := by simp [wsum]
    rw [List.foldl_cons, joinStep_at]
    by_cases z : b.last = c.first
    · rw [if_pos z]
      have hn : Ne1 ⟨b.first, c.last, b.words ++ c.words⟩ := ⟨by show b.first ≤ c.last; have := hb.le; have := hw.2.1.le; omega, okWords_app hb.ok hw.2.1.ok, by show (b.words ++ c.words).length ≤ 1000; rw [List.length_append]; omega, fun q => by
        have q1 : b.first = c.last := q.1
        have q2 : b.words ++ c.words = [] := q.2
        have := hb.le
        have := hw.2.1.le
        exact hb.real ⟨by omega, (List.append_eq_nil_iff.mp q2).1⟩⟩
      obtain ⟨i1, i2, i3⟩ := join_wk (f := f) (b := ⟨b.first, c.last, b.words ++ c.words⟩) (good_last hg rfl hn) hw.2.2 (by
        have : wsum (f ++ [(⟨b.first, c.last, b.words ++ c.words⟩ : Ch)]) = wsum f + (b.words ++ c.words).length := by simp [wsum]
        rw [this, List.length_append]
        omega)
      refine ⟨i1, fun N s => ?_, fun L hL hc => i3 L (fun d hd => ?_) fun d hd => hc d (List.mem_cons_of_mem _ hd)⟩
      · rw [i2 N s, List.append_assoc, List.append_assoc, appC_pre N _ f, appC_pre N _ f]
        congr 1
        show seg _ b.first ++ ((b.words ++ c.words).map Tk.new ++ appC N c.last r) = seg _ b.first ++ (b.words.map Tk.new ++ (seg b.last c.first ++ (c.words.map Tk.new ++ appC N c.last r)))
        rw [z, seg_nil (Int.le_refl _), List.nil_append, List.map_append, List.append_assoc]
      · rcases List.mem_append.mp hd with hd | hd
        · exact hL d (List.mem_append_left _ hd)
        · rw [List.mem_singleton] at hd
          subst hd
          exact hc c List.mem_cons_self
    · rw [if_neg z]
      obtain ⟨i1, i2, i3⟩ := join_wk (f := f ++ [b]) (b := c) (good_snoc hg (by omega) hw.2.1) hw.2.2 (by
        have : wsum (f ++ [b] ++ [c]) = wsum (f ++ [b]) + c.words.length := by rw [wsum_append]; simp [wsum]
        rw [this]
        omega)
      refine ⟨i1, fun N s => by rw [i2 N s, List.append_assoc _ [c] r]; rfl, fun L hL hc => i3 L (fun d hd => ?_) fun d hd => hc d (List.mem_cons_of_mem _ hd)⟩
      rcases List.mem_append.mp hd with hd | hd
      · exact hL d hd
      · rw [List.mem_singleton] at hd
        subst hd
        exact hc _ List.mem_cons_self
theorem joined_wk {cs : List Ch} {s : Int} (h : wk s cs) (hz : wsum cs ≤ 1000) : goodFrom (s - 1) (joinedV cs) ∧ (∀ N t, appC N t (joinedV cs) = appC N t cs) ∧ (∀ L, (∀ c ∈ cs, c.last ≤ L) → ∀ c ∈ joinedV cs, c.last ≤ L) := by
  cases cs with
  | nil => exact ⟨trivial, fun N t => rfl, fun L _ c hc => by cases hc⟩
  | cons c r =>
    have hwc : wsum (c :: r) = c.words.length + wsum r := by simp [wsum]
    have h0 : wsum ([] ++ [c]) = c.words.length := by simp [wsum]
    obtain ⟨i1, i2, i3⟩ := join_wk (cs := r) (f := []) (e := s - 1) (b := c) ⟨by have := h.1; omega, h.2.1.le, h.2.1.ok, h.2.1.few, h.2.1.real, trivial⟩ h.2.2 (by omega)
    have e : joinedV (c :: r) = r.foldl joinStep ([] ++ [c]) := by
      unfold joinedV
      rw [List.foldl_cons]
      exact List.filter_eq_self.mpr i1.keep
    rw [e]
    refine ⟨i1, i2, fun L hL => i3 L (fun d hd => ?_) fun d hd => hL d (List.mem_cons_of_mem _ hd)⟩
    have : d ∈ [c] := hd
    rw [List.mem_singleton] at this
    subst this
    exact hL _ List.mem_cons_self
end K51

/-! Dicts whose keys are tuples: owned ones and ones that nobody changes any more -/
namespace Gd
open PySem L2 PySem.Spec PyProof.Rows
/-- the object at d: a dict with the entries xs -/
def DRaw (w : World) (d : Addr) (xs : List (NestedKey × Addr × Value)) (o : Obj) (h : Heap) : Prop :=
  ∃ es ep, h.get? d = some o ∧ o.ExactDict ∧ o.data = .dict es ep ∧ es.toList = xs.map (fun x => (⟨x.1.hash w, .ref x.2.1, x.2.2⟩ : DictEntry)) ∧ (xs.map (·.1)).Nodup ∧ (d == sysModules) = false
def dO (w : World) (d : Addr) (xs : List (NestedKey × Addr × Value)) (o : Obj) : HO := .ext (DRaw w d xs o)
theorem dO_new {P : Program} {w : World} {H : Hp} {h : Heap} {d : Addr} {xs : List (NestedKey × Addr × Value)} {o : Obj} (r : DRaw w d xs o h) : ObjOk P w H h d (dO w d xs o) := by
  obtain ⟨es, ep, e, r'⟩ := id r
  refine ⟨r, ⟨o, e⟩, ?_⟩
  rintro h1 h2 ⟨es, ep, e, r⟩ k
  exact ⟨es, ep, k _ e, r⟩
/-- what stands at q is the key k, in every heap that holds G -/
def KeyAt (K : Fg) (G : Hp) (k : NestedKey) (q : Addr) : Prop :=
  ∀ (X : Cx) (pins : List (Addr × Obj)) (σ : SS) (H : Hp) (s : Shared), X.K = K → Same G H → Inv X pins σ H s → (nestedKind X.prog X.w).is s.heap k q
theorem KeyAt.mono {K : Fg} {G G' : Hp} {k : NestedKey} {q : Addr} (e : Same G G') (h : KeyAt K G k q) : KeyAt K G' k q := fun X pins σ H s hk sg I => h X pins σ H s hk (e.trans sg) I
section
variable {X : Cx} {pins : List (Addr × Obj)} {σ : SS} {G H : Hp} {s : Shared} {d : Addr} {xs : List (NestedKey × Addr × Value)}
theorem dof {ob : Obj} (I : Inv X pins σ H s) (e : H d = some (dO X.w d xs ob)) (sg : Same G H) (hk : ∀ x ∈ xs, KeyAt X.K G x.1 x.2.1) : s.heap.DictOfH (nestedKind X.prog X.w) d xs ∧ (d == sysModules) = false := by
  obtain ⟨⟨es, ep, e1, e2, e3, e4, e5, e6⟩, _⟩ := I.hok d _ e
  exact ⟨⟨ob, es, ep, e1, e2, e3, e4, fun x hx => hk x hx X pins σ H s rfl sg I, e5⟩, e6⟩
theorem dof_raw {h : Heap} (x : h.DictOfH (nestedKind X.prog X.w) d xs) (hd : (d == sysModules) = false) : ∃ o, DRaw X.w d xs o h := by
  obtain ⟨o, es, ep, e1, e2, e3, e4, e5, e6⟩ := x
  exact ⟨o, es, ep, e1, e2, e3, e4, e6, hd⟩
end
/-! ### the data -/
section
variable {α β : Type}
inductive DP (K : Fg) (G : Hp) (N : α → NestedKey) (R : α → Slot) (fv : β → V) : List (NestedKey × Addr × Value) → List (α × β) → Prop
  | nil : DP K G N R fv [] []
  | cons {q : Addr} {u : Value} {a : α} {b : β} {xs : List (NestedKey × Addr × Value)} {m : List (α × β)} : (KeyAt K G (N a) q ∧ (R a).ok K G (.ref q)) → RelV (fv b) u → DP K G N R fv xs m → DP K G N R fv ((N a, q, u) :: xs) ((a, b) :: m)
variable {K : Fg} {G G' : Hp} {N : α → NestedKey} {R : α → Slot} {fv : β → V}
theorem DP.mono (e : Same G G') : ∀ {xs : List (NestedKey × Addr × Value)} {m : List (α × β)}, DP K G N R fv xs m → DP K G' N R fv xs m
  | _, _, .nil => .nil
  | _, _, .cons (a := a) h1 h2 t => .cons ⟨h1.1.mono e, (R a).mono e h1.2⟩ h2 (t.mono e)
theorem DP.length : ∀ {xs : List (NestedKey × Addr × Value)} {m : List (α × β)}, DP K G N R fv xs m → xs.length = m.length
  | _, _, .nil => rfl
  | _, _, .cons _ _ t => by simp [t.length]
theorem DP.keys : ∀ {xs : List (NestedKey × Addr × Value)} {m : List (α × β)}, DP K G N R fv xs m → xs.map (·.1) = m.map fun e => N e.1
  | _, _, .nil => rfl
  | _, _, .cons _ _ t => by simp [t.keys]
theorem DP.key : ∀ {xs : List (NestedKey × Addr × Value)} {m : List (α × β)}, DP K G N R fv xs m → ∀ x ∈ xs, KeyAt K G x.1 x.2.1
  | _, _, .nil => fun x hx => by cases hx
  | _, _, .cons h1 _ t => fun x hx => by
    (rcases List.mem_cons.mp hx with rfl | hx)
    · exact h1.1
    · exact t.key x hx
theorem DP.append : ∀ {xs ys : List (NestedKey × Addr × Value)} {m n : List (α × β)}, DP K G N R fv xs m → DP K G N R fv ys n → DP K G N R fv (xs ++ ys) (m ++ n)
  | _, _, _, _, .nil, h => h
  | _, _, _, _, .cons h1 h2 t, h => .cons h1 h2 (t.append h)
variable [DecidableEq α]
def look (m : List (α × β)) (a : α) : Option β := (m.find? fun e => decide (e.1 = a)).map (·.2)
def put (m : List (α × β)) (a : α) (b : β) : List (α × β) := if (look m a).isSome then m.map fun e => if e.1 = a then (e.1, b) else e else m ++ [(a, b)]
theorem look_cons (e : α × β) (m : List (α × β)) (a : α) : look (e :: m) a = if e.1 = a then some e.2 else look m a := by
  unfold look
  rw [List.find?_cons]
  by_cases h : e.1 = a <;> simp [h]
theorem look_nil (a : α) : look ([] : List (α × β)) a = none := rfl
theorem look_append (m n : List (α × β)) (a : α) : look (m ++ n) a = (look m a).or (look n a) := by
  induction m with
  | nil => simp [look_nil]
  | cons e m ih =>
    rw [List.cons_append, look_cons, look_cons, ih]
    split <;> simp
theorem look_put (m : List (α × β)) (a c : α) (b : β) : look (put m a b) c = if c = a then some b else look m c := by
  unfold put
  by_cases h : (look m a).isSome
  · rw [if_pos h]
    have key : ∀ n : List (α × β), look (n.map fun e => if e.1 = a then (e.1, b) else e) c = if c = a then (look n a).map (fun _ => b) else look n c := by
      intro n
      induction n with
      | nil => simp [look_nil]
      | cons e n ih =>
        rw [List.map_cons, look_cons, ih, look_cons, look_cons]
        by_cases h1 : e.1 = a
        · by_cases h2 : c = a
          · simp [h1, h2]
          · have : ¬ a = c := fun z => h2 z.symm
            simp [h1, h2, this]
        · by_cases h2 : c = a
          · subst h2
            simp [h1]
          · simp [h1, h2]
    rw [key]
    split
    · cases q : look m a with
      | none => rw [q] at h; cases h
      | some v => rfl
    · rfl
  · rw [if_neg h, look_append, look_cons, look_nil]
    by_cases h2 : c = a
    · subst h2
      have : look m c = none := by
        cases q : look m c with
        | none => rfl
        | some v => rw [q] at h; exact absurd rfl h
      simp [this]
    · have : ¬ a = c := fun z => h2 z.symm
      simp [h2, this]
theorem put_len (m : List (α × β)) (a : α) (b : β) : (put m a b).length ≤ m.length + 1 := by
  unfold put
  split
  · simp
  · simp
theorem put_new {m : List (α × β)} {a : α} {b : β} (h : look m a = none) : put m a b = m ++ [(a, b)] := by
  unfold put
  rw [h]
  rfl
theorem mem_look {m : List (α × β)} {a : α} {b : β} (h : look m a = some b) : (a, b) ∈ m := by
  induction m with
  | nil => cases h
  | cons e m ih =>
    rw [look_cons] at h
    by_cases h1 : e.1 = a
    · rw [if_pos h1] at h
      cases h
      subst h1
      exact List.mem_cons_self
    · rw [if_neg h1] at h
      (exact List.mem_cons_of_mem _ (ih h))
theorem look_mem {m : List (α × β)} {a : α} {b : β} (h : (a, b) ∈ m) : (look m a).isSome := by
  induction m with
  | nil => cases h
  | cons e m ih =>
    rw [look_cons]
    by_cases h1 : e.1 = a
    · rw [if_pos h1]; rfl
    · rw [if_neg h1]
      (rcases List.mem_cons.mp h with rfl | h)
      · exact absurd rfl h1
      · exact ih h
variable (hN : ∀ a b, N a = N b → a = b)
include hN
theorem DP.at : ∀ {xs : List (NestedKey × Addr × Value)} {m : List (α × β)} (a : α), DP K G N R fv xs m → (∀ b, look m a = some b → ∃ q u, atKey xs (N a) = some (q, u) ∧ RelV (fv b) u) ∧ (look m a = none → atKey xs (N a) = none)
  | _, _, a, .nil => ⟨(fun b h => by cases h), fun _ => rfl⟩
  | _, _, a, .cons (q := q) (u := u) (a := a') (b := b') (xs := xs) (m := m) h1 h2 t => by
    obtain ⟨i1, i2⟩ := DP.at a t
    have e1 : atKey ((N a', q, u) :: xs) (N a) = if N a' = N a then some (q, u) else atKey xs (N a) := by
      unfold atKey
      rw [List.find?_cons]
      by_cases z : N a' = N a <;> simp [z]
    rw [e1, look_cons]
    by_cases z : a' = a
    · subst z
      rw [if_pos rfl, if_pos rfl]
      exact ⟨(fun b h => by cases h; exact ⟨q, u, rfl, h2⟩), (fun h => by cases h)⟩
    · have z' : ¬ N a' = N a := fun e => z (hN _ _ e)
      rw [if_neg z, if_neg z']
      exact ⟨i1, i2⟩
theorem DP.some {xs : List (NestedKey × Addr × Value)} {m : List (α × β)} (h : DP K G N R fv xs m) (a : α) : (atKey xs (N a)).isSome = (look m a).isSome := by
  obtain ⟨i1, i2⟩ := h.at hN a
  cases e : look m a with
  | none => rw [i2 e]; rfl
  | some b =>
    obtain ⟨q, u, e1, _⟩ := i1 b e
    rw [e1]; rfl
theorem DP.put {xs : List (NestedKey × Addr × Value)} {m : List (α × β)} {a : α} {b : β} {q : Addr} {u : Value} (h : DP K G N R fv xs m) (hk : KeyAt K G (N a) q ∧ (R a).ok K G (.ref q)) (hv : RelV (fv b) u) : DP K G N R fv (storedH xs (N a) q u) (put m a b) := by
  unfold storedH Gd.put
  rw [h.some hN a]
  split
  · have key : ∀ {xs : List (NestedKey × Addr × Value)} {m : List (α × β)}, DP K G N R fv xs m → DP K G N R fv (xs.map (putAt (N a) u)) (m.map fun e => if e.1 = a then (e.1, b) else e) := by
      intro xs m h
      induction h with
      | nil => exact .nil
      | @cons q' u' a' b' xs m h1 h2 t ih =>
        (rw [List.map_cons, List.map_cons])
        by_cases z : a' = a
        · subst z
          rw [if_pos rfl]
          have : putAt (N a') u (N a', q', u') = (N a', q', u) := by simp [putAt]
          rw [this]
          exact .cons h1 hv ih
        · have z' : ¬ N a' = N a := fun e => z (hN _ _ e)
          rw [if_neg z]
          have : putAt (N a) u (N a', q', u') = (N a', q', u') := by simp [putAt, z']
          rw [this]
          exact .cons h1 h2 ih
    exact key h
  · exact h.append (.cons hk hv .nil)
end
/-! ### owned, frozen -/
section
variable {α β : Type}
def oDic (w : World) (p : Addr) (N : α → NestedKey) (R : α → Slot) (fv : β → V) (m : List (α × β)) : Own :=
  ⟨p, fun K G o => ∃ xs ob, o = dO w p xs ob ∧ DP K G N R fv xs m, fun e ⟨xs, ob, h, r⟩ => ⟨xs, ob, h, r.mono e⟩⟩
def sDic (w : World) (N : α → NestedKey) (R : α → Slot) (fv : β → V) (m : List (α × β)) : Slot :=
  ⟨fun K G v => ∃ p xs ob, v = .ref p ∧ G p = some (dO w p xs ob) ∧ DP K G N R fv xs m, fun e ⟨p, xs, ob, h, q, r⟩ => ⟨p, xs, ob, h, e _ _ q, r.mono e⟩⟩
variable {N : α → NestedKey} {R : α → Slot} {fv : β → V} {m : List (α × β)} {w : World}
theorem frz_dic (K : Fg) (G : Hp) (p : Addr) (o : HO) (h : (oDic w p N R fv m).φ K G o) (g : G p = none) : (sDic w N R fv m).ok K (upd G p o) (.ref p) := by
  obtain ⟨xs, ob, rfl, r⟩ := h
  exact ⟨p, xs, ob, rfl, upd_same, r.mono (same_new g)⟩
/-- the things of which R tells are keys -/
def KeyS (R : α → Slot) (N : α → NestedKey) : Prop := ∀ (a : α) (K : Fg) (G : Hp) (v : V), (R a).ok K G v → ∃ q, v = .ref q ∧ KeyAt K G (N a) q
end
section
variable {X : Cx} {B B1 : Bs} {δ δ' : List (Option Slot)} {O O1 O2 O3 : List Own} {a b c e o : Expr} {es : List Expr} {x : Str} {p pos apos : Pos} {s s1 s2 s3 : Slot} {ss : List Slot} {α β : Type} {R : α → Slot} {D : Ends} {rest sts : List Stmt} {u : Bool} {q d : Addr} {k : Nat}
  {N : α → NestedKey} {fv : β → V} {m : List (α × β)}
theorem nroom (hr : Room k X.A) : (nestedKind X.prog X.w).room X.A.in1 := by
  have := hr.units
  show X.A.in1.units + 8 < cLine
  have e : X.A.in1.units = X.A.units + 1 := rfl
  rw [e]
  have : cLine = cLine := rfl
  omega
/-- what a dict is known by at a state -/
def DK (X : Cx) (H : Hp) (d : Addr) (xs : List (NestedKey × Addr × Value)) (k : NestedKey) (q : Addr) : Prop := (∃ ob, H d = some (dO X.w d xs ob)) ∧ ∃ G, Same G H ∧ (∀ x ∈ xs, KeyAt X.K G x.1 x.2.1) ∧ KeyAt X.K G k q
theorem DK.of {pins : List (Addr × Obj)} {σ : SS} {H : Hp} {s : Shared} {xs : List (NestedKey × Addr × Value)} {k : NestedKey} (h : DK X H d xs k q) (I : Inv X pins σ H s) : s.heap.DictOfH (nestedKind X.prog X.w) d xs ∧ (d == sysModules) = false ∧ (nestedKind X.prog X.w).is s.heap k q := by
  obtain ⟨⟨ob, e⟩, G, sg, h1, h2⟩ := h
  obtain ⟨i1, i2⟩ := dof I e sg h1
  exact ⟨i1, i2, h2 X pins σ H s rfl sg I⟩
/-- k in d, k not in d -/
def rDIn (X : Cx) (neg : Bool) : R2 := fun x y H Q => ∃ d xs k q, x = .ref q ∧ y = .ref d ∧ DK X H d xs k q ∧ Q (.bl (if neg then !(atKey xs k).isSome else (atKey xs k).isSome)) H
theorem or_din (hr : Room k X.A) : OpR X (compareOp .In) (rDIn X false) := by
  (intro pins s σ H x y v u Q I rx ry h)
  obtain ⟨d, xs, k, q, rfl, rfl, h, hq⟩ := h
  cases rx
  cases ry
  obtain ⟨h1, h2, h3⟩ := h.of I
  exact wpAny_in_heap (nroom hr) h3 h2 h1 ⟨.bl (atKey xs k).isSome, H, I.tok _, rfl, hq⟩
theorem or_dnotin (hr : Room k X.A) : OpR X (compareOp .NotIn) (rDIn X true) := by
  (intro pins s σ H x y v u Q I rx ry h)
  obtain ⟨d, xs, k, q, rfl, rfl, h, hq⟩ := h
  cases rx
  cases ry
  obtain ⟨h1, h2, h3⟩ := h.of I
  show wpAny _ _ (do return Value.bool (!(← contains (.ref d) (.ref q)))) _ _ _
  exact wpAny_bind (wpAny_contains_heap (nroom hr) h3 h2 h1 (wpAny_pure ⟨.bl (!(atKey xs k).isSome), H, I.tok _, rfl, hq⟩))
/-- d[k] -/
def rDIx (X : Cx) : R2 := fun x y H Q => ∃ d xs k q z v, x = .ref d ∧ y = .ref q ∧ DK X H d xs k q ∧ atKey xs k = some z ∧ RelV v z.2 ∧ Q v H
theorem ix_dic (hr : Room k X.A) : IxR X (rDIx X) := by
  (intro value slice pins s σ H x y v u Q I rx ry h hs)
  obtain ⟨d, xs, k, q, z, w, rfl, rfl, h, hz, rw_, hq⟩ := h
  cases rx
  cases ry
  obtain ⟨h1, h2, h3⟩ := h.of I
  exact tail_any (ops := [.ref d, .ref q]) h1.typeIs (PySem.F.slot_dict_getitem.lookup) (wpAny_getItem_heap (nroom hr) h3 h1 hz ⟨w, H, I.tok _, rw_, hq⟩) hs
/-- d[k] = v -/
def rDSet (X : Cx) : V → V → V → Hp → (Hp → Prop) → Prop := fun o i v H Q => ∃ d xs k q, o = .ref d ∧ i = .ref q ∧ DK X H d xs k q ∧ xs.length ≤ sizeLine ∧ ∀ u ob, RelV v u → Q (upd H d (dO X.w d (storedH xs k q u) ob))
theorem set_dic (hr : Room k X.A) : PSet X (rDSet X) := by
  (intro pins s σ H o i v ov iv u Q I ro ri rv h)
  obtain ⟨d, xs, k, q, rfl, rfl, h, hz, hq⟩ := h
  cases ro
  cases ri
  obtain ⟨h1, h2, h3⟩ := h.of I
  refine wpAny_setItem_heap (hsz := hz) (nroom hr) h3 h1 fun h' hm hs => ?_
  obtain ⟨ob, new⟩ := dof_raw (X := X) hm h2
  have he : ∃ o, h'.get? d = some o := by
    obtain ⟨_, _, e, _⟩ := new
    exact ⟨ob, e⟩
  obtain ⟨ob0, h0⟩ := h.1
  exact ⟨_, I.write (x := d) (e := d) (o := dO X.w d (storedH xs k q u) ob) (by rw [h0]; exact True.intro) (.inl rfl) (fun b o hb e => (hs.2 b hb).trans e) he (dO_new new), hq u ob rv⟩
/-- d.get(k, x) -/
def rDGet2 (X : Cx) : V → List V → Hp → VK → Prop := fun x vs H Q => ∃ d xs k q z v, x = .ref d ∧ vs = [.ref q, z] ∧ DK X H d xs k q ∧ (match atKey xs k with | some t => RelV v t.2 | none => v = z) ∧ Q v H
theorem mt_dget2 (hr : Room k X.A) : MtR X "dict.get" (rDGet2 X) := by
  intro pins s σ H x vs v us Q I rx rvs h
  obtain ⟨d, xs, k, q, z, v', rfl, rfl, h, hz, hq⟩ := h
  cases rx
  cases rvs with
  | cons r1 r2 =>
    cases r2 with
    | cons r2 r3 =>
      cases r3
      cases r1
      rename_i uz
      obtain ⟨h1, h2, h3⟩ := h.of I
      refine getOr_keyed (knd := nestedKind X.prog X.w) (kvs := pairsH xs) (nroom hr) h3 h2 ⟨xs, h1, rfl⟩ ?_
      refine ⟨v', H, I.tok _, ?_, hq⟩
      rw [valueAt_pairsH]
      cases e : atKey xs k with
      | none =>
        rw [e] at hz
        subst hz
        exact r2
      | some t =>
        rw [e] at hz
        exact hz
end
end Gd

/-! Dicts whose keys are tuples: the rules -/
namespace Gd
open PySem L2 PySem.Spec PyProof.Rows
section
variable {X : Cx} {B B1 : Bs} {δ δ' : List (Option Slot)} {O O1 O2 O3 : List Own} {a b c e o : Expr} {es : List Expr} {x : Str} {p pos apos : Pos} {s s1 s2 s3 : Slot} {ss : List Slot} {α β : Type} {R : α → Slot} {D : Ends} {rest sts : List Stmt} {u : Bool} {q d : Addr} {k : Nat}
  {N : α → NestedKey} {fv : β → V} {m : List (α × β)} {y : α} {z : β}
theorem own_dic {K : Fg} {σ : SS} {G H : Hp} {w : World} {jw : Nat} (st : Sta K B δ O σ G H) (hw : O[jw]? = some (oDic w d N R fv m)) : ∃ xs ob, H d = some (dO w d xs ob) ∧ G d = none ∧ DP K G N R fv xs m := by
  obtain ⟨o1, h1, h2, xs, ob, rfl, r⟩ := st.own _ (List.mem_of_getElem? hw)
  exact ⟨xs, ob, h1, h2, r⟩
/-- {} -/
theorem ew_dic0 (N : α → NestedKey) (R : α → Slot) (fv : β → V) : EW X δ O (.Dict [] [] pos) (fun p => oDic X.w p N R fv ([] : List (α × β))) O := by
  intro B σ G H Q st k
  refine e_of (t := fun _ H Q => ∀ p ob, H p = none → Q (.ref p) (upd H p (dO X.w p [] ob))) ⟨fun pins s σ H Q I h => ?_⟩ fun p ob hp => ?_
  · have hlo : (s.heap.objs.size == sysModules) = false := beq_eq_false_iff_ne.mpr (Nat.ne_of_gt I.big)
    have hx : (s.heap.push { cls := .type "dict", data := .dict #[] }).DictOfH (nestedKind X.prog X.w) s.heap.objs.size [] := Heap.DictOfH.new s.heap
    obtain ⟨ob, new⟩ := dof_raw (X := X) hx hlo
    exact wpAny_Dict_empty ⟨.ref s.heap.objs.size, _, I.laid (a := s.heap.objs.size) (o := dO X.w s.heap.objs.size [] ob) (t' := s.toks) (fun _ _ q => Heap.get?_push_of_some _ q) (Nat.le_refl _) (dO_new new), rfl, h _ _ (I.hok.fresh (Nat.le_refl _))⟩
  · exact k p G _ (none_of st hp) (Same.refl _) (st.freshO (w := oDic X.w p N R fv []) hp rfl ⟨[], ob, rfl, .nil⟩)
variable [DecidableEq α] (hN : ∀ a b, N a = N b → a = b)
include hN
/-- k not in d, d owned -/
theorem t_niO (jw : Nat) (hr : Room k X.A) (hK : KeyS R N) (ha : E X δ O a (R y) O1) (hb : E X δ O1 b (sRef d) O2) (hw : O2[jw]? = some (oDic X.w d N R fv m) := by rfl) (hm : noSet b = true := by rfl) : T X δ O (.Compare a [.NotIn] [b] pos) (!(look m y).isSome) O2 := by
  intro B σ G H Q st k
  refine t_of (pt_cmpR (or_dnotin hr) pe_w pe_w (marks_plain hm)) ?_
  refine ha B σ G H _ st fun v G1 H1 m1 st1 hv => hb B σ G1 H1 _ st1 fun v2 G2 H2 m2 st2 hv2 => ?_
  cases hv2
  obtain ⟨xs, ob, h1, _, r⟩ := own_dic st2 hw
  obtain ⟨q, rfl, hk⟩ := hK y X.K G2 v ((R y).mono m2 hv)
  refine ⟨d, xs, N y, q, rfl, rfl, ⟨⟨ob, h1⟩, G2, st2.stp.gh, r.key, hk⟩, _, rfl, ?_⟩
  rw [if_pos rfl, r.some hN y]
  exact k G2 H2 (m1.trans m2) st2
/-- the same, d frozen -/
theorem o_niD (hr : Room k X.A) (hK : KeyS R N) : OpE X (compareOp .NotIn) (R y) (sDic X.w N R fv m) (sBl (!(look m y).isSome)) :=
  ⟨_, or_dnotin hr, fun B δ O σ G H Q v w st hv hw k => by
    obtain ⟨d, xs, ob, rfl, h1, r⟩ := hw
    obtain ⟨q, rfl, hk⟩ := hK y X.K G v hv
    refine ⟨d, xs, N y, q, rfl, rfl, ⟨⟨ob, st.stp.gh _ _ h1⟩, G, st.stp.gh, r.key, hk⟩, ?_⟩
    rw [if_pos rfl, r.some hN y]
    exact k _ G H (Same.refl _) st rfl⟩
theorem e_ixD (jw : Nat) (hr : Room k X.A) (hK : KeyS R N) (hz : look m y = some z) (hb : E X δ O b (sRef d) O1) (ha : E X δ O1 a (R y) O2) (hw : O2[jw]? = some (oDic X.w d N R fv m) := by rfl) (hs : noSlice a = true := by rfl) : E X δ O (.Subscript b a pos) (sVal (fv z)) O2 := by
  intro B σ G H Q st k
  refine e_of (pe_ix (ix_dic hr) pe_w pe_w (plainIx_of hs)) ?_
  refine hb B σ G H _ st fun v G1 H1 m1 st1 hv => ha B σ G1 H1 _ st1 fun v2 G2 H2 m2 st2 hv2 => ?_
  cases hv
  obtain ⟨xs, ob, h1, _, r⟩ := own_dic st2 hw
  obtain ⟨q, rfl, hk⟩ := hK y X.K G2 v2 hv2
  obtain ⟨q', t, e, rv⟩ := (r.at hN y).1 z hz
  exact ⟨d, xs, N y, q, (q', t), fv z, rfl, rfl, ⟨⟨ob, h1⟩, G2, st2.stp.gh, r.key, hk⟩, e, rv, k _ G2 H2 (m1.trans m2) st2 rfl⟩
theorem i_dic (hr : Room k X.A) (hK : KeyS R N) (hz : look m y = some z) : IxE X (sDic X.w N R fv m) (R y) (sVal (fv z)) :=
  ⟨_, ix_dic hr, fun B δ O σ G H Q v w st hv hw k => by
    obtain ⟨d, xs, ob, rfl, h1, r⟩ := hv
    obtain ⟨q, rfl, hk⟩ := hK y X.K G w hw
    obtain ⟨q', t, e, rv⟩ := (r.at hN y).1 z hz
    exact ⟨d, xs, N y, q, (q', t), fv z, rfl, rfl, ⟨⟨ob, st.stp.gh _ _ h1⟩, G, st.stp.gh, r.key, hk⟩, e, rv, k _ G H (Same.refl _) st rfl⟩⟩
/-- d[k] = e, d owned -/
theorem j_setD {tp : Pos} (jw : Nat) (hr : Room k X.A) (hK : KeyS R N) (hz : m.length ≤ sizeLine) (he : E X δ O e (sVal (fv z)) O1) (ho : E X δ O1 o (sRef d) O2) (hb : E X δ O2 b (R y) O3)
    (kk : J X B δ (O3.set jw (oDic X.w d N R fv (put m y z))) rest D) (hw : O3[jw]? = some (oDic X.w d N R fv m) := by rfl) (hs : noCompr e = true := by rfl) (hsw : swappedStores [.Subscript o b tp] e X.env = pure none := by rfl)
    (hpl : ∀ v, assign (.Subscript o b tp) X.env v = (do
      let ov ← holding [v] (eval o X.env) -- -
      let iv ← holding [v, ov] (eval b X.env)
      standAt tp
      holding [v, ov, iv] (setItem ov iv v) -- -
      release [v, ov, iv] []) := by intro _; rfl) : J X B δ O (.Assign [.Subscript o b tp] e pos :: rest) D :=
  j_cons fun σ G H st => s_of (ps_asg pe_w (pg_sub pe_w pe_w (set_dic hr) hpl) (sole_plain hs) hsw) (by
    refine he B σ G H _ st fun v G1 H1 m1 st1 hv => ?_
    refine ho B σ G1 H1 _ st1 fun w G2 H2 m2 st2 hw2 => ?_
    refine hb B σ G2 H2 _ st2 fun w3 G3 H3 m3 st3 hw3 => ?_
    cases hv
    cases hw2
    obtain ⟨xs, ob, h1, _, r⟩ := own_dic st3 hw
    obtain ⟨q, rfl, hk⟩ := hK y X.K G3 w3 hw3
    refine ⟨d, xs, N y, q, rfl, rfl, ⟨⟨ob, h1⟩, G3, st3.stp.gh, r.key, hk⟩, by rw [r.length]; exact hz, fun t ob2 rt => ?_⟩
    exact kk σ G3 _ (st3.putI (w' := oDic X.w d N R fv (put m y z)) hw rfl ⟨_, ob2, rfl, r.put hN ⟨hk, hw3⟩ rt⟩))
end
/-! ### d.get(k, x), dict(d) -/
section
variable {X : Cx} {B B1 : Bs} {δ δ' : List (Option Slot)} {O O1 O2 O3 : List Own} {a b c e o f : Expr} {x : Str} {p pos apos : Pos} {s s1 s2 s3 : Slot} {α β : Type} {R : α → Slot} {k : Nat} {d : Addr}
  {N : α → NestedKey} {fv : β → V} {m : List (α × β)} {y : α} {z : β}
theorem e_get2 [DecidableEq α] (hN : ∀ a b, N a = N b → a = b) (hr : Room k X.A) (hK : KeyS R N) (ho : E X δ O o (sDic X.w N R fv m) O1) (ha : EA X δ O1 [a, b] [R y, s] O2) (hs1 : ∀ z, look m y = some z → s1 = sVal (fv z)) (hs2 : look m y = none → s1 = s)
    (hbase : noCall0 o = true := by rfl)
    (hfew : ((backTo pos (starEach [a, b] X.env)).all (fun x => !x.1) && (backToKw pos (keywordEach [] X.env)).all (fun x => x.1.isSome)
      && decide ([a, b].length + ([] : List Keyword).length + (if ([] : List Keyword).isEmpty then 0 else 1) < 30)) = true := by rfl)
    (hline : (apos.endLine == pos.line) = true := by rfl) (h1 : noStar a = true := by rfl) (hplain : (backTo pos (starEach [b] X.env)).any (·.1) = false := by rfl) :
    E X δ O (.Call (.Attribute o "get" apos) [a, b] [] pos) s1 O2 := by
  intro B σ G H Q st kk
  refine e_of (t := fun σ H Q => wE X o σ H fun v H1 => (∃ d xs ob, v = .ref d ∧ H1 d = some (dO X.w d xs ob) ∧ ∃ G, Same G H1 ∧ ∀ x ∈ xs, KeyAt X.K G x.1 x.2.1) ∧ wA X [a, b] σ H1 fun vs H2 => rDGet2 X v vs H2 Q) ⟨fun pins s σ H Q I h => ?_⟩ ?_
  · refine wpAny_Call_method_late (attributeBase_plain hbase) hfew hline rfl (thn (pe_w.run pins s σ H _ I h) fun v s1 ⟨x, H1, I1, r1, ty, q1⟩ => ?_)
    obtain ⟨d, xs, ob, rfl, hd, G, sg, hk⟩ := ty
    obtain ⟨hx, _⟩ := dof I1 hd sg hk
    cases r1
    refine ⟨"dict", "dict.get", PySem.F.plainAttrs_dict, PySem.F.slot_dict_get, PySem.F.type_dict_get, hx.typeIs, fun b e => ?_, ?_⟩
    · cases e
      obtain ⟨o, es, ep, e1, e2, _⟩ := hx
      exact ⟨o, e1, e2.2.1⟩
    · have hA := (pa_w (es := [a, b])).run pos pins s1 σ H1 _ I1 q1
      rw [starEach_plain h1] at hA ⊢
      refine Calls.callWith_builtin (by show (false || (backTo pos (starEach [b] X.env)).any (·.1)) = false; rw [hplain]; rfl) (Calls.evalArgs_plain ?_)
      exact thn hA fun us s2 ⟨vs, H2, I2, r2, q2⟩ => mt_dget2 hr pins s2 σ H2 (.ref d) vs (.ref d) us Q I2 rfl r2 q2
  · refine ho B σ G H _ st fun v G1 H1 m1 st1 hv => ?_
    obtain ⟨d, xs, ob, rfl, h2, r⟩ := hv
    refine ⟨⟨d, xs, ob, rfl, st1.stp.gh _ _ h2, G1, st1.stp.gh, r.key⟩, ?_⟩
    refine ha B σ G1 H1 _ st1 fun vs G2 H2 m2 st2 hvs => ?_
    obtain ⟨v1, v2, rfl, e1, e2⟩ := alls2 hvs
    obtain ⟨q, rfl, hk⟩ := hK y X.K G2 v1 e1
    have r2 := r.mono m2
    cases e : look m y with
    | some z =>
      obtain ⟨q', t, ea, rv⟩ := (r2.at hN y).1 z e
      refine ⟨d, xs, N y, q, v2, fv z, rfl, rfl, ⟨⟨ob, st2.stp.gh _ _ (m2 _ _ h2)⟩, G2, st2.stp.gh, r2.key, hk⟩, by rw [ea]; exact rv, kk _ G2 H2 (m1.trans m2) st2 (by rw [hs1 z e]; rfl)⟩
    | none =>
      have ea := (r2.at hN y).2 e
      refine ⟨d, xs, N y, q, v2, v2, rfl, rfl, ⟨⟨ob, st2.stp.gh _ _ (m2 _ _ h2)⟩, G2, st2.stp.gh, r2.key, hk⟩, by rw [ea], kk _ G2 H2 (m1.trans m2) st2 (by rw [hs2 e]; exact e2)⟩
def rDCopy (X : Cx) : List V → Hp → VK → Prop := fun vs H Q => ∃ d xs G, vs = [.ref d] ∧ (∃ ob, H d = some (dO X.w d xs ob)) ∧ Same G H ∧ (∀ x ∈ xs, KeyAt X.K G x.1 x.2.1) ∧ (xs.map fun x => x.1.hash X.w).Nodup ∧ xs.length ≤ sizeLine ∧ ∀ p ob, H p = none → Q (.ref p) (upd H p (dO X.w p xs ob))
theorem cr_dcopy (hr : Room k X.A) : CallR X (.type "dict") (rDCopy X) := by
  (intro pins s σ H vs us Q I r h)
  obtain ⟨d, xs, G, rfl, ⟨ob, hd⟩, sg, hk, hn, hz, hq⟩ := h
  rw [Vals.ref1 r]
  obtain ⟨h1, h2⟩ := dof I hd sg hk
  have hlo : (s.heap.objs.size == sysModules) = false := beq_eq_false_iff_ne.mpr (Nat.ne_of_gt I.big)
  (refine callType_codes (Q₁ := fun obj s₁ => obj = .ref s.heap.objs.size ∧ s₁ = { s with heap := s.heap.push { cls := .type "dict", data := .dict #[] } }) PySem.F.kt_called_dict (PySem.F.kt_typeCall_dict_1 _) PySem.F.entry_dict_init (kt_code_dict_new _ ⟨rfl, rfl⟩) ?_)
  rintro obj s₁ ⟨rfl, rfl⟩
  have hdo : s.heap.objs.size ≠ d := fun e => absurd (Heap.lt_size h1.choose_spec.choose_spec.choose_spec.1) (by rw [← e]; exact Nat.lt_irrefl _)
  have kp : ∀ b o, s.heap.get? b = some o → (s.heap.push { cls := .type "dict", data := .dict #[] }).get? b = some o := fun b o e => Heap.get?_push_of_some _ e
  have J : Inv X pins σ H { s with heap := s.heap.push { cls := .type "dict", data := .dict #[] } } := I.kept (t' := s.toks) kp
  have n1 : (s.heap.push { cls := .type "dict", data := .dict #[] }).DictOfH (nestedKind X.prog X.w) s.heap.objs.size [] := Heap.DictOfH.new s.heap
  have n2 := (dof J hd sg hk).1
  refine ⟨n1.typeIs, PySem.F.args_dict_init_2 _ _, ?_⟩
  unfold Builtin.«dict.__init__» Builtin.Dict.selfAndRest
  refine wpAny_bind (wpAny_bind (wpAny_notOrdered_dict n1.typeIs ?_))
  show wpAny _ _ (pure (s.heap.objs.size, [Value.ref d])) _ _ _
  refine wpAny_pure ?_
  have hroom : (nestedKind X.prog X.w).room X.A.in1.in1 := by
    have := hr.units
    show X.A.in1.in1.units + 8 < cLine
    have e : X.A.in1.in1.units = X.A.units + 1 + 1 := rfl
    rw [e]
    omega
  refine updateFrom_dictH (A := X.A.in1) .none hroom hdo h2 n1 n2 (.inr ⟨fun x hx => nestedKind_stays.tuple (hk x hx X pins σ H _ rfl sg J), hn⟩) (by simpa using hz) fun h' hd' _ hs' => ?_
  rw [storedAllH_nil_of_nodup xs n2.nodup] at hd'
  obtain ⟨ob2, new⟩ := dof_raw (X := X) hd' hlo
  exact ⟨rfl, .ref s.heap.objs.size, _, I.laid (a := s.heap.objs.size) (o := dO X.w s.heap.objs.size xs ob2) (t' := s.toks) (fun b o e => (hs'.2 b (Nat.ne_of_lt (Heap.lt_size e))).trans (kp b o e)) (Nat.le_refl _) (dO_new new), rfl, hq _ _ (I.hok.fresh (Nat.le_refl _))⟩
theorem c_dcopy (hr : Room k X.A) (hn : (m.map fun e => (N e.1).hash X.w).Nodup) (hz : m.length ≤ sizeLine) : CallE X (.type "dict") [sDic X.w N R fv m] (sDic X.w N R fv m) :=
  ⟨_, cr_dcopy hr, fun B δ O σ G H Q xs st h kk => by
    obtain ⟨v, rfl, d, es, ob, rfl, hd, r⟩ := alls1 h
    have hh : (es.map fun x => x.1.hash X.w) = m.map fun e => (N e.1).hash X.w := by
      have := congrArg (List.map fun n : NestedKey => n.hash X.w) r.keys
      simpa [List.map_map, Function.comp_def] using this
    refine ⟨d, es, G, rfl, ⟨ob, st.stp.gh _ _ hd⟩, st.stp.gh, r.key, by rw [hh]; exact hn, by rw [r.length]; exact hz, fun l ob2 hl => ?_⟩
    have sg : Same G (upd G l (dO X.w l es ob2)) := same_new (gnone st.stp hl)
    exact kk _ _ _ sg (st.freshG hl) ⟨l, es, ob2, rfl, upd_same, r.mono sg⟩⟩
/-- dict(d), a new one -/
theorem c_dcopyW (hr : Room k X.A) (hn : (m.map fun e => (N e.1).hash X.w).Nodup) (hz : m.length ≤ sizeLine) : CallW X (.type "dict") [sDic X.w N R fv m] (fun p => oDic X.w p N R fv m) :=
  ⟨_, cr_dcopy hr, fun B δ O σ G H Q xs st h kk => by
    obtain ⟨v, rfl, d, es, ob, rfl, hd, r⟩ := alls1 h
    have hh : (es.map fun x => x.1.hash X.w) = m.map fun e => (N e.1).hash X.w := by
      have := congrArg (List.map fun n : NestedKey => n.hash X.w) r.keys
      simpa [List.map_map, Function.comp_def] using this
    refine ⟨d, es, G, rfl, ⟨ob, st.stp.gh _ _ hd⟩, st.stp.gh, r.key, by rw [hh]; exact hn, by rw [r.length]; exact hz, fun l ob2 hl => ?_⟩
    exact kk l G _ (none_of st hl) (Same.refl _) (st.freshO (w := oDic X.w l N R fv m) hl rfl ⟨es, ob2, rfl, r⟩)⟩
end
end Gd

/-! sorted(xs) of data, sorted(xs) of tuples of which the first is empty, min(xs) of data -/
namespace Gd
open PySem PySem.W PySem.Calls PySem.SeqAt PyProof.Rows L2
section
variable {prog : Program} {w : World} {A : Around} {s : Shared}
theorem call_tuple_lt {E : Value → Shared → Prop} {Q : Value → Shared → Prop} {l b : Addr} {xs ys : Array Value} {e r : Nat → Bool} (hl : s.heap.IsTuple l xs) (hb : s.heap.IsTuple b ys)
    (he : ∀ j (h1 : j < xs.size) (h2 : j < ys.size), EqAt A.in1 s xs[j] ys[j] (e j)) (hr : ∀ j (h1 : j < xs.size) (h2 : j < ys.size), e j = false → RcLt A.in1 s xs[j] ys[j] (r j))
    (h : Q (.bool (firstLt e r (decide (xs.size < ys.size)) (List.range (min xs.size ys.size)))) s) : wpAny (model prog w) A (call (.builtin "tuple.__lt__") [.ref l, .ref b]) Q E s := by
  obtain ⟨⟨c1, d1, t1, z1⟩, o1, k1, n1, q1⟩ := id hl
  obtain ⟨⟨c2, d2, t2, z2⟩, o2, k2, n2, q2⟩ := id hb
  simp only at k1 q1 k2 q2
  subst k1 q1 k2 q2
  exact call_meets PySem.F.slot_tuple_lt ⟨_, o1, rfl⟩ PySem.F.entry_tuple_lt (PySem.F.args_tuple_lt_2 _ _) (tuple_ltAt l b xs ys n1 n2 d1 d2 z1 z2 e r) ⟨o1, o2, he, hr, h⟩
theorem oneLt_tup {E : Value → Shared → Prop} {xs ys : List PyData} {a b : Value} {as bs : List Addr} {Q : Bool → Shared → Prop} (ra : Reads s.heap a (.tuple xs) as) (rb : Reads s.heap b (.tuple ys) bs) (h : alike (.tuple xs) (.tuple ys) = true)
    (hu : A.units + min (PyData.tuple xs).depth (PyData.tuple ys).depth < cLine) (hq : Q (dataLt (.tuple xs) (.tuple ys)) s) : wpAny (model prog w) A (oneLt' true a b) Q E s := by
  (have hal : alikeAll xs ys = true := by simpa [alike] using h)
  cases ra with
  | @tuple l o vs n _ as₁ h1 h2 h3 h4 => -- -
    cases rb with
    | @tuple l' o' vs' n' _ bs₁ k1 k2 k3 k4 => -- -
      (have n1 : vs.size = xs.length := by simpa using ReadsAll.length _ _ _ h4)
      (have n2 : vs'.size = ys.length := by simpa using ReadsAll.length _ _ _ k4)
      rw [dataLt_tuple, ← firstLt_toks xs ys hal, ← n1, ← n2] at hq
      rw [oneLt'_eq]
      simp only [if_true]
      have room : A.in1.units + min (PyData.depthAll xs) (PyData.depthAll ys) < cLine := by
        have : A.in1.units = A.units + 1 := rfl
        (simp only [PyData.depth] at hu)
        omega
      (refine wpAny_bind (wpAny_cRoomFor (by omega) ?_))
      refine wpAny_bind (wpAny_callSpecialIfBound?_slot (T := "tuple") ⟨_, h1, h2⟩ PySem.F.slot_tuple_lt (call_tuple_lt (e := pairEq xs ys) (r := fun j => dataLt (xs.getD j .none) (ys.getD j .none)) ⟨_, h1, h2, _, h3⟩ ⟨_, k1, k2, _, k3⟩ (fun j j1 j2 => ?_) (fun j j1 j2 hj => ?_) ?_))
      · have := eqAt_alikeAll xs ys A.in1 s vs.toList vs'.toList _ _ h4 k4 hal room j (by simpa using j1) (by simpa using j2)
        simpa using this
      · have := rcLt_alikeAll xs ys A.in1 s vs.toList vs'.toList _ _ h4 k4 hal room j (by simpa using j1) (by simpa using j2) hj
        simpa using this
      · exact wpAny_truthy_bool hq
/-- all are tuples, the first has no item -/
def Sortable0 (ds : List PyData) : Prop := (∃ r, ds = .tuple [] :: r) ∧ ∀ d ∈ ds, ∃ xs, d = .tuple xs
theorem mapM_some {α β : Type} {f : α → Sem β} {M : Model} {E : Value → Shared → Prop} {T : α → β → Prop} : ∀ (l : List α) {Q : List β → Shared → Prop}, (∀ v ∈ l, ∀ (Q' : β → Shared → Prop), (∀ r, T v r → Q' r s) → wpAny M A (f v) Q' E s) → (∀ rs, EachIs T l rs → Q rs s) → wpAny M A (l.mapM f) Q E s
  | [], _, _, h => by rw [List.mapM_nil]; exact wpAny_pure (h _ .nil)
  | x :: l, Q, hf, h => by
    rw [List.mapM_cons]
    exact wpAny_bind (hf x (.head _) _ fun r hr => wpAny_bind (mapM_some l (Q := fun bs s' => wpAny M A (pure (r :: bs)) Q E s') (fun v hv => hf v (.tail _ hv)) fun rs hrs => wpAny_pure (h _ (.cons hr hrs))))
theorem sortsAt0 {vs : List Value} {ds : List PyData} (e : EachIs (fun v d => ∃ as, Reads s.heap v d as) vs ds) (hal : AllAlike ds) (hk : Sortable0 ds) (hu : ∀ d, d ∈ ds → A.units + d.depth < cLine) : SortsAt prog w A s (dataKind s.heap ds) vs := by
  refine ⟨fun v hv => ?_, oneType', ?_, ?_⟩
  · (obtain ⟨d, hd, as, r⟩ := e.left v hv)
    (exact ⟨_, dataKind_some hal hd r⟩)
  · intro E x y a b Q ha hb hq
    (obtain ⟨d, as, hd, ra, rfl⟩ := dataKind_inv ha)
    (obtain ⟨d', as', hd', rb, rfl⟩ := dataKind_inv hb)
    obtain ⟨xs, rfl⟩ := hk.2 d hd
    obtain ⟨ys, rfl⟩ := hk.2 d' hd'
    rw [keyLt'_oneType]
    exact oneLt_tup ra rb (hal _ hd _ hd') (Nat.lt_of_le_of_lt (Nat.add_le_add_left (Nat.min_le_left _ _) _) (hu _ hd)) hq
  · intro h2 E Q hq
    obtain ⟨r, rfl⟩ := hk.1
    cases e with
    | @cons v0 _ vr _ h0 t =>
      obtain ⟨as0, r0⟩ := h0
      (rw [keyKind'_eq, List.mapM_toArray, map_eq_pure_bind])
      have tl : ∀ v ∈ v0 :: vr, Looks (model prog w) s.heap (typeOf v) (Value.type "tuple") := by
        intro v hv
        obtain ⟨d, hd, as, rr⟩ := (EachIs.cons (R := fun v d => ∃ as, Reads s.heap v d as) ⟨as0, r0⟩ t).left v hv
        obtain ⟨xs, rfl⟩ := hk.2 d hd
        exact looks_reads rr
      refine wpAny_bind (wpAny_bind (mapM_some (T := fun v x => v = v0 → x = none) _ (fun v hv Q' hq' => ?_) fun rs hrs => wpAny_pure ?_))
      · rw [kas_first_eq]
        refine wpAny_bind ((tl v hv).here ?_)
        rw [if_neg (by decide)]
        obtain ⟨d, hd, as, rr⟩ := (EachIs.cons (R := fun v d => ∃ as, Reads s.heap v d as) ⟨as0, r0⟩ t).left v hv
        obtain ⟨xs, rfl⟩ := hk.2 d hd
        cases rr with
        | @tuple l o its n _ _ g1 g2 g3 g4 =>
          refine wpAny_bind (listItems_at g1 g3 (wpAny_pure (hq' _ fun ev => ?_)))
          subst ev
          cases r0 with
          | @tuple l' o' its' n' _ _ k1 k2 k3 k4 =>
            rw [g1] at k1
            cases k1
            rw [g3] at k3
            injection k3 with k3 _
            subst k3
            have hsz : its.toList = [] := by
              cases q : its.toList with
              | nil => rfl
              | cons z zs =>
                rw [q] at k4
                cases k4
            rw [← Array.getElem?_toList, hsz]
            rfl
      · cases hrs with
        | @cons _ r1 _ rr hr1 ht1 =>
          have e1 : r1 = none := hr1 rfl
          subst e1
          (rw [if_neg (by simp), if_neg (by simp)])
          (rw [oneTypeOnly'_eq, List.mapM_toArray, map_eq_pure_bind])
          refine wpAny_bind (wpAny_bind (wpAny_bind (kas_mapM (r := Value.type "tuple") _ (fun v hv Q' hq' => (tl v hv).here hq') (wpAny_pure ?_))))
          have a1 : ((List.map (fun _ => Value.type "tuple") (v0 :: vr)).toArray.all fun x => x == Value.type "tuple") = true := by
            (simp only [List.all_toArray, List.all_map, List.all_eq_true])
            intro _ _
            rfl
          have a0 : (List.map (fun _ => Value.type "tuple") (v0 :: vr)).toArray[0]? = some (Value.type "tuple") := by simp
          rw [a0]
          simp only [a1, if_true]
          (exact wpAny_pure (wpAny_pure hq))
end
/-! ### the calls by values -/
section
variable {X : Cx} {α : Type}
/-- sorted(xs): of a list whose things are data; P what is known of them -/
def rSortD (K : PySem.W.Frag) {α : Type} (enc : α → PyData) (P : V → α → Prop) : List V → Hp → VK → Prop := fun vs H Q => ∃ a ys bs, vs = [.ref a] ∧ SqL K H a ys ∧ EachIs P ys bs ∧ DpAll K H ys (bs.map enc) ∧ AllAlike (bs.map enc) ∧ (Sortable (bs.map enc) ∨ Sortable0 (bs.map enc)) ∧ (∀ b ∈ bs, (enc b).depth ≤ 8) ∧ bs.length ≤ sizeLine ∧
  ∀ p zs, H p = none → EachIs P zs (bs.mergeSort (dataLe false enc)) → Q (.ref p) (upd H p (.lst zs))
theorem each_vals {P : V → α → Prop} : ∀ {ys : List V} {us : List Value} {bs : List α}, Vals ys us → EachIs P ys bs → EachIs (fun u b => ∃ v, RelV v u ∧ P v b) us bs
  | _, _, _, .nil, .nil => .nil
  | _, _, _, .cons r t, .cons h q => .cons ⟨_, r, h⟩ (each_vals t q)
theorem vals_each {P : V → α → Prop} : ∀ {us : List Value} {bs : List α}, EachIs (fun u b => ∃ v, RelV v u ∧ P v b) us bs → ∃ zs, Vals zs us ∧ EachIs P zs bs
  | _, _, .nil => ⟨[], .nil, .nil⟩
  | _, _, .cons ⟨v, r, h⟩ t => let ⟨zs, a, b⟩ := vals_each t; ⟨v :: zs, .cons r a, .cons h b⟩
theorem vals_length {zs : List V} {us : List Value} (h : Vals zs us) : zs.length = us.length := h.length
theorem cr_sortD {k : Nat} (hr : Room k X.A) {enc : α → PyData} {P : V → α → Prop} : CallR X (.builtin "sorted") (rSortD X.K enc P) := by
  (intro pins s σ H vs us Q I r h)
  obtain ⟨a, ys, bs, rfl, hs, hP, hd, hal, hso, hdp, hz, q⟩ := h
  (obtain ⟨its, rv, hl, _⟩ := I.list hs)
  rw [Vals.ref1 r]
  obtain ⟨as, hra⟩ := Dp.readsAll I _ _ _ hd rv
  have er : EachIs (fun v b => ∃ as, Reads s.heap v (enc b) as) its bs := readsAll_each enc hra
  have e := each_vals rv hP
  have hu : ∀ b, b ∈ bs → X.A.units + 2 + (enc b).depth < cLine := fun b hb => by
    have := hdp b hb
    have := hr.units
    omega
  have er' : EachIs (fun v b => ∃ as, Reads (sortingHeap (copyHeap s.heap its) (s.heap.objs.size + 1) its) v (enc b) as) its bs := er.mono fun _ _ ⟨as, r⟩ => ⟨as, PyProof.Rows.Reads.keeps (fun _ _ => sorting_copy_old) r⟩
  have em := each_map (R := fun v d => ∃ as, Reads (sortingHeap (copyHeap s.heap its) (s.heap.objs.size + 1) its) v d as) enc er'
  have S : SortsAt X.prog X.w X.A.in1.in1 { s with heap := sortingHeap (copyHeap s.heap its) (s.heap.objs.size + 1) its } (dataKind (sortingHeap (copyHeap s.heap its) (s.heap.objs.size + 1) its) (bs.map enc)) its := by
    rcases hso with z | z
    · exact SortsAt.data (s := { s with heap := sortingHeap (copyHeap s.heap its) (s.heap.objs.size + 1) its }) em hal z (bound_map hu)
    · exact sortsAt0 (s := { s with heap := sortingHeap (copyHeap s.heap its) (s.heap.objs.size + 1) its }) em hal z (bound_map hu)
  refine sorted_vals hl.isList S (by rw [e.length]; exact hz) ?_
  have out := sortVals_data false e er' hal
  obtain ⟨zs, z1, z2⟩ := vals_each out
  obtain ⟨ep, he'⟩ := PyProof.Rows.sortedAll_at s.heap its (sortVals (dataKind (sortingHeap (copyHeap s.heap its) (s.heap.objs.size + 1) its) (bs.map enc)) false its its).toArray
  have hlen : zs.length ≤ sizeLine := by
    rw [vals_length z1, sortVals_length false rfl, e.length]
    exact hz
  exact ⟨.ref _, upd H (s.heap.objs.size + 1) (.lst zs), I.laid (t' := s.toks) (fun _ _ => PyProof.Rows.sortedAll_old) (Nat.le_succ _) ⟨hlen, _, ep, z1, he'⟩, rfl, q _ zs (I.hok.fresh (Nat.le_succ _)) z2⟩
end
section
variable {X : Cx} {α : Type} {R : α → Slot}
theorem each_of_all2 {K : Fg} {G : Hp} : ∀ {vs : List V} {as : List α}, All2 K G R vs as → EachIs (fun v a => (R a).ok K G v) vs as
  | _, _, .nil => .nil
  | _, _, .cons h t => .cons h (each_of_all2 t)
theorem all2_of_each {K : Fg} {G : Hp} : ∀ {vs : List V} {as : List α}, EachIs (fun v a => (R a).ok K G v) vs as → All2 K G R vs as
  | _, _, .nil => .nil
  | _, _, .cons h t => .cons h (all2_of_each t)
def sortB (enc : α → PyData) (as : List α) : List α := as.mergeSort (dataLe false enc)
theorem c_sortD {k : Nat} (hr : Room k X.A) {enc : α → PyData} {as : List α} (hR : ∀ a, IsD (R a) (enc a)) (hal : AllAlike (as.map enc)) (hso : Sortable (as.map enc) ∨ Sortable0 (as.map enc)) (hdp : ∀ b ∈ as, (enc b).depth ≤ 8) (hz : as.length ≤ sizeLine) :
    CallW X (.builtin "sorted") [sLst R as] (fun p => oLst p R (sortB enc as)) := by
  refine ⟨fun vs H Q => ∃ P, rSortD X.K enc P vs H Q, fun pins s σ H vs us Q I r ⟨P, h⟩ => cr_sortD hr pins s σ H vs us Q I r h, fun B δ O σ G H Q xs st h kk => ?_⟩
  obtain ⟨v, rfl, p, ys, rfl, hp, r⟩ := alls1 h
  refine ⟨fun v a => (R a).ok X.K G v, p, ys, as, rfl, SqL.of (st.stp.gh _ _ hp), each_of_all2 r, dpAll_up st.stp.gh (dpAll hR r), hal, hso, hdp, hz, fun l zs hl hzs => ?_⟩
  exact kk l G _ (none_of st hl) (Same.refl _) (st.freshO (w := oLst l R (sortB enc as)) hl rfl ⟨zs, rfl, all2_of_each hzs⟩)
/-! ### min -/
def minB (enc : α → PyData) (b : α) (bs : List α) : α := bs.foldl (fun a y => if dataLt (enc y) (enc a) = true then y else a) b
end
end Gd

namespace K51
open PySem PySem.W PySem.Calls PySem.SeqAt PyProof.Rows L2 Gd
/-! ### order of changes -/
theorem dltC (a b : Ch) : dataLt (chD a) (chD b) = PyProof.Rows.lexLt itemOrd (keyToksAll [.int a.first, .int a.last, .tuple (a.words.map .str)]) (keyToksAll [.int b.first, .int b.last, .tuple (b.words.map .str)]) := dataLt_tuple _ _
theorem dleC (a b : Ch) : dataLe false chD a b = !dataLt (chD b) (chD a) := rfl
theorem sortC_pw (cs : List Ch) : (sortB chD cs).Pairwise (fun a b => dataLe false chD a b = true) := by
  refine List.pairwise_mergeSort (le := dataLe false chD) (fun a b c h1 h2 => ?_) (fun a b => ?_) _
  · rw [dleC, Bool.not_eq_true'] at h1 h2 ⊢
    cases z : dataLt (chD c) (chD a) with
    | false => rfl
    | true =>
      rw [dltC] at h1 h2 z
      rcases lex_negTrans _ _ _ z with q | q
      · rw [h2] at q; cases q
      · rw [h1] at q; cases q
  · rw [dleC, dleC]
    cases z1 : dataLt (chD b) (chD a) with
    | false => rfl
    | true =>
      cases z2 : dataLt (chD a) (chD b) with
      | false => rfl
      | true =>
        rw [dltC] at z1 z2
        have := lex_trans _ _ _ z1 z2
        rw [lex_irrefl] at this
        cases this
theorem dle_first {a b : Ch} (h : dataLe false chD a b = true) : a.first < b.first ∨ (a.first = b.first ∧ a.last ≤ b.last) := by
  rw [dleC, Bool.not_eq_true', dltC] at h
  by_cases z : b.first = a.first
  · rw [dataLt_all_yes (by simp [alike]) (by simp [PyData.eqv, z])] at h
    by_cases y : b.last = a.last
    · exact .inr ⟨z.symm, by omega⟩
    · rw [dataLt_all_no (by simp [alike]) (by simp [PyData.eqv, y]), dataLt_int] at h
      have := of_decide_eq_false h
      exact .inr ⟨z.symm, by omega⟩
  · rw [dataLt_all_no (by simp [alike]) (by simp [PyData.eqv, z]), dataLt_int] at h
    have := of_decide_eq_false h
    exact .inl (by omega)
/-- two changes go together -/
def fitC (a b : Ch) : Bool := if a = b then true else if a.first = a.last ∧ b.first = b.last then !decide (a.first = b.first) else decide (a.last ≤ b.first) || decide (b.last ≤ a.first)
def lt2 (a b : Ch) : Prop := a.last ≤ b.first ∧ ¬ (a.first = b.first ∧ a.last = b.last)
def aheadC (d c : Ch) : Bool := decide (d.last ≤ c.first) && !decide (d.first = c.first ∧ d.last = c.last)
theorem ahead_iff (d c : Ch) : aheadC d c = true ↔ lt2 d c := by
  unfold aheadC lt2
  simp only [Bool.and_eq_true, decide_eq_true_eq, Bool.not_eq_true', decide_eq_false_iff_not]
theorem lt_of_fit {a b : Ch} (ha : a.first ≤ a.last) (hb : b.first ≤ b.last) (hf : fitC a b = true) (hne : a ≠ b) (hl : a.first < b.first ∨ (a.first = b.first ∧ a.last ≤ b.last)) : lt2 a b := by
  unfold fitC at hf
  rw [if_neg hne] at hf
  unfold lt2
  split at hf
  · rename_i z
    have : ¬ a.first = b.first := by simpa using hf
    omega
  · rename_i z
    have : a.last ≤ b.first ∨ b.last ≤ a.first := by simpa using hf
    omega
theorem lt2_asym {a b : Ch} (ha : a.first ≤ a.last) (hb : b.first ≤ b.last) (h : lt2 a b) : ¬ lt2 b a := fun k => by
  unfold lt2 at h k
  omega
theorem uniqL {xs ys : List Ch} (hx : xs.Pairwise lt2) (hy : ys.Pairwise lt2) (hl : ∀ c ∈ xs, c.first ≤ c.last) (h : ∀ k, k ∈ xs ↔ k ∈ ys) : xs = ys := by
  have nd : ∀ {zs : List Ch}, zs.Pairwise lt2 → zs.Nodup := fun hz => hz.imp fun {a b} hab e => by
    subst e
    exact hab.2 ⟨rfl, rfl⟩
  have hp : xs.Perm ys := (List.perm_ext_iff_of_nodup (nd hx) (nd hy)).mpr h
  exact List.Perm.eq_of_pairwise (fun a b ha hb h1 h2 => absurd h2 (lt2_asym (hl a ha) (hl b ((h b).mpr hb)) h1)) hx hy hp
theorem wk_pw : ∀ {M : List Ch} {s : Int}, M.Pairwise lt2 → (∀ c ∈ M, Ne1 c) → (∀ c ∈ M, s ≤ c.first) → wk s M
  | [], _, _, _, _ => trivial
  | c :: r, s, h, hn, hs => by
    rw [List.pairwise_cons] at h
    exact ⟨hs c List.mem_cons_self, hn c List.mem_cons_self, wk_pw h.2 (fun d hd => hn d (List.mem_cons_of_mem _ hd)) fun d hd => (h.1 d hd).1⟩
theorem good_pw : ∀ {cs : List Ch} {e : Int}, goodFrom e cs → cs.Pairwise lt2
  | [], _, _ => .nil
  | c :: r, e, h => by
    rw [List.pairwise_cons]
    refine ⟨fun d hd => ?_, good_pw h.2.2.2.2.2⟩
    have := h.2.2.2.2.2.all d hd
    have := h.2.1
    unfold lt2
    omega
theorem good_ne1 : ∀ {cs : List Ch} {e : Int}, goodFrom e cs → ∀ c ∈ cs, Ne1 c
  | c :: r, e, h, d, hd => by
    (rcases List.mem_cons.mp hd with rfl | hd)
    · exact ⟨h.2.1, h.2.2.1, h.2.2.2.1, h.2.2.2.2.1⟩
    · exact good_ne1 h.2.2.2.2.2 d hd
/-! ### each change once, in order -/
def ddM (cs : List Ch) : List (Ch × Bool) := cs.foldl (fun m c => put m c true) []
def dd (cs : List Ch) : List Ch := (ddM cs).map (·.1)
theorem look_isSome {m : List (Ch × Bool)} {c : Ch} : (Gd.look m c).isSome = true ↔ c ∈ m.map (·.1) := by
  induction m with
  | nil => simp [look_nil]
  | cons e m ih =>
    rw [look_cons, List.map_cons, List.mem_cons]
    split
    · rename_i h
      simp [h]
    · rename_i h
      rw [ih]
      constructor
      · exact .inr
      · rintro (rfl | h')
        · exact absurd rfl h
        · exact h'
theorem put_keys (m : List (Ch × Bool)) (c : Ch) : (put m c true).map (·.1) = if c ∈ m.map (·.1) then m.map (·.1) else m.map (·.1) ++ [c] := by
  unfold put
  by_cases h : (Gd.look m c).isSome = true
  · rw [if_pos h, if_pos (look_isSome.mp h), List.map_map]
    refine List.map_congr_left fun e _ => ?_
    show (if e.1 = c then (e.1, true) else e).1 = e.1
    split <;> rfl
  · rw [if_neg h, if_neg (fun z => h (look_isSome.mpr z)), List.map_append]
    rfl
theorem dd_fold : ∀ (cs : List Ch) (m : List (Ch × Bool)), (m.map (·.1)).Nodup → ((cs.foldl (fun m c => put m c true) m).map (·.1)).Nodup ∧ (∀ k, k ∈ (cs.foldl (fun m c => put m c true) m).map (·.1) ↔ k ∈ m.map (·.1) ∨ k ∈ cs) ∧ (cs.foldl (fun m c => put m c true) m).length ≤ m.length + cs.length
  | [], m, h => ⟨h, fun k => by simp, by simp⟩
  | c :: r, m, h => by
    have hk := put_keys m c
    have hl := put_len m c true
    obtain ⟨i1, i2, i3⟩ := dd_fold r (put m c true) (by
      rw [hk]
      split
      · exact h
      · rename_i z
        rw [List.nodup_append]
        refine ⟨h, by simp, fun a ha b hb e => ?_⟩
        rw [List.mem_singleton] at hb
        subst hb e
        exact z ha)
    refine ⟨i1, fun k => ?_, ?_⟩
    · rw [List.foldl_cons, i2 k, hk, List.mem_cons]
      split
      · rename_i z
        constructor
        · rintro (h1 | h1)
          · exact .inl h1
          · exact .inr (.inr h1)
        · rintro (h1 | rfl | h1)
          · exact .inl h1
          · exact .inl z
          · exact .inr h1
      · rw [List.mem_append, List.mem_singleton, or_assoc]
    · rw [List.foldl_cons, List.length_cons]
      omega
theorem dd_nodup (cs : List Ch) : (dd cs).Nodup := (dd_fold cs [] (by simp)).1
theorem dd_mem {cs : List Ch} {k : Ch} : k ∈ dd cs ↔ k ∈ cs := ((dd_fold cs [] (by simp)).2.1 k).trans (by simp)
theorem dd_len (cs : List Ch) : (ddM cs).length ≤ cs.length := by
  have := (dd_fold cs [] (by simp)).2.2
  rw [List.length_nil, Nat.zero_add] at this
  exact this
def sideL (cs : List Ch) : List Ch := sortB chD (dd cs)
theorem side_mem {cs : List Ch} {k : Ch} : k ∈ sideL cs ↔ k ∈ cs := (List.mem_mergeSort).trans dd_mem
theorem side_len (cs : List Ch) : (sideL cs).length ≤ cs.length := by
  have h1 : (sideL cs).length = (dd cs).length := (List.mergeSort_perm _ _).length_eq
  have h2 : (dd cs).length = (ddM cs).length := List.length_map _
  have := dd_len cs
  omega
theorem side_pw {cs : List Ch} (hn : ∀ c ∈ cs, c.first ≤ c.last) (hf : ∀ a ∈ cs, ∀ b ∈ cs, fitC a b = true) : (sideL cs).Pairwise lt2 := by
  have h1 := sortC_pw (dd cs)
  have h2 : (sideL cs).Nodup := (List.mergeSort_perm _ _).nodup_iff.mpr (dd_nodup cs)
  refine (List.Pairwise.and_mem.mp (List.Pairwise.and h1 h2)).imp fun {a b} ⟨ha, hb, h3, h4⟩ => ?_
  have ma := side_mem.mp ha
  have mb := side_mem.mp hb
  exact lt_of_fit (hn a ma) (hn b mb) (hf a ma b mb) h4 (dle_first h3)
/-! ### moved -/
def moreC (A : List Ch) (c : Ch) : Int := ((A.filter (aheadC · c)).map Ed.growth).sum
theorem shift_list (inA : Ch → Bool) : ∀ {M : List Ch} {g : Int}, M.Pairwise lt2 → (∀ c ∈ M, c.first ≤ c.last) → shiftB inA g M = (M.filter (fun c => !inA c)).map fun c => shiftC (g + moreC (M.filter inA) c) c
  | [], g, _, _ => rfl
  | c :: r, g, h, hl => by
    rw [List.pairwise_cons] at h
    have hr : ∀ d ∈ r, d.first ≤ d.last := fun d hd => hl d (List.mem_cons_of_mem _ hd)
    have hc := hl c List.mem_cons_self
    by_cases z : inA c = true
    · have f1 : (c :: r).filter (fun c => !inA c) = r.filter (fun c => !inA c) := by simp [z]
      have f2 : (c :: r).filter inA = c :: r.filter inA := by simp [z]
      rw [shiftB, if_pos z, shift_list inA h.2 hr, f1, f2]
      refine List.map_congr_left fun d hd => ?_
      have hd' := (List.mem_filter.mp hd).1
      have : moreC (c :: r.filter inA) d = c.growth + moreC (r.filter inA) d := by
        unfold moreC
        rw [List.filter_cons, if_pos ((ahead_iff c d).mpr (h.1 d hd')), List.map_cons, List.sum_cons]
      rw [this, Int.add_assoc]
    · have z' : inA c = false := by simpa using z
      have f1 : (c :: r).filter (fun c => !inA c) = c :: r.filter (fun c => !inA c) := by simp [z']
      have f2 : (c :: r).filter inA = r.filter inA := by simp [z']
      rw [shiftB, if_neg z, shift_list inA h.2 hr, f1, f2, List.map_cons]
      congr 1
      have : moreC (r.filter inA) c = 0 := by
        unfold moreC
        have : (r.filter inA).filter (aheadC · c) = [] := by
          rw [List.filter_eq_nil_iff]
          intro d hd hda
          have hd' := (List.mem_filter.mp hd).1
          exact lt2_asym hc (hr d hd') (h.1 d hd') ((ahead_iff d c).mp hda)
        rw [this]
        rfl
      rw [this, Int.add_zero]
def movedV (A B : List Ch) : List Ch := joinedV ((A.filter fun c => !decide (c ∈ B)).map fun c => shiftC (moreC B c) c)
def wholeV (cs : List Ch) : List Ch := joinedV (sideL cs)
/-- the changes of a hand -/
structure Hand (L : Int) (A : List Ch) : Prop where
  good : goodFrom (-1) A
  ends : ∀ c ∈ A, c.last ≤ L
  few : A.length ≤ 5
  words : ∀ c ∈ A, c.words.length ≤ 2
def Fit (A B : List Ch) : Prop := ∀ a ∈ A, ∀ b ∈ B, fitC a b = true
theorem fit_symm {a b : Ch} (h : fitC a b = true) : fitC b a = true := by
  unfold fitC at h ⊢
  split at h
  · rename_i z
    rw [if_pos z.symm]
  · rename_i z
    rw [if_neg (fun e => z e.symm)]
    split at h
    · rename_i y
      rw [if_pos ⟨y.2, y.1⟩]
      simp only [Bool.not_eq_true', decide_eq_false_iff_not] at h ⊢
      omega
    · rename_i y
      rw [if_neg (fun e => y ⟨e.2, e.1⟩)]
      simp only [Bool.or_eq_true, decide_eq_true_eq] at h ⊢
      omega
theorem fit_self (a : Ch) : fitC a a = true := by
  unfold fitC
  rw [if_pos rfl]
theorem fit_lt {a b : Ch} (h : lt2 a b) (ha : a.first ≤ a.last) (hb : b.first ≤ b.last) : fitC a b = true := by
  unfold fitC
  unfold lt2 at h
  split
  · rfl
  · split
    · simp only [Bool.not_eq_true', decide_eq_false_iff_not]
      omega
    · simp only [Bool.or_eq_true, decide_eq_true_eq]
      omega
theorem Hand.fit {L : Int} {A : List Ch} (h : Hand L A) : Fit A A := fun a ha b hb => by
  have hl := good_ne1 h.good
  have pw := List.Pairwise.and_mem.mp (good_pw h.good)
  have key : ∀ {xs : List Ch}, xs.Pairwise (fun a b => a ∈ A ∧ b ∈ A ∧ lt2 a b) → ∀ a ∈ xs, ∀ b ∈ xs, fitC a b = true := by
    intro xs
    induction xs with
    | nil => intro _ a ha; cases ha
    | cons x xs ih =>
      intro hp a ha b hb
      rw [List.pairwise_cons] at hp
      rcases List.mem_cons.mp ha with e1 | ha' <;> rcases List.mem_cons.mp hb with e2 | hb'
      · rw [e1, e2]
        exact fit_self _
      · obtain ⟨q1, q2, q3⟩ := hp.1 b hb'
        rw [e1]
        exact fit_lt q3 (hl _ q1).le (hl _ q2).le
      · obtain ⟨q1, q2, q3⟩ := hp.1 a ha'
        rw [e2]
        exact fit_symm (fit_lt q3 (hl _ q1).le (hl _ q2).le)
      · exact ih hp.2 a ha' b hb'
  exact key pw a ha b hb
end K51

namespace K51
open PySem L2 Gd
/-! ### hands together -/
theorem wsum_two : ∀ {cs : List Ch}, (∀ c ∈ cs, c.words.length ≤ 2) → wsum cs ≤ 2 * cs.length
  | [], _ => Nat.le_refl _
  | c :: r, h => by
    have := wsum_two fun d hd => h d (List.mem_cons_of_mem c hd)
    have := h c List.mem_cons_self
    have : wsum (c :: r) = c.words.length + wsum r := by simp [wsum]
    rw [List.length_cons]
    omega
theorem wsum_filter (p : Ch → Bool) : ∀ cs : List Ch, wsum (cs.filter p) ≤ wsum cs
  | [] => Nat.le_refl _
  | c :: r => by
    have := wsum_filter p r
    have e1 : wsum (c :: r) = c.words.length + wsum r := by simp [wsum]
    rw [List.filter_cons]
    split
    · have e2 : wsum (c :: r.filter p) = c.words.length + wsum (r.filter p) := by simp [wsum]
      omega
    · omega
theorem joined_small (cs : List Ch) : wsum (joinedV cs) ≤ wsum cs ∧ (joinedV cs).length ≤ cs.length := by
  have h := joinFold_sum cs []
  have h1 := wsum_filter keepCh (cs.foldl joinStep [])
  have h2 := List.length_filter_le keepCh (cs.foldl joinStep [])
  have h0 : wsum [] = 0 := rfl
  have h3 : ([] : List Ch).length = 0 := rfl
  constructor
  · show wsum ((cs.foldl joinStep []).filter keepCh) ≤ _
    omega
  · show ((cs.foldl joinStep []).filter keepCh).length ≤ _
    omega
structure Uni (L : Int) (U : List Ch) : Prop where
  fit : ∀ a ∈ U, ∀ b ∈ U, fitC a b = true
  ne : ∀ c ∈ U, Ne1 c
  lo : ∀ c ∈ U, 0 ≤ c.first
  ends : ∀ c ∈ U, c.last ≤ L
  few : U.length ≤ 13
  words : ∀ c ∈ U, c.words.length ≤ 2
theorem Hand.lo {L : Int} {A : List Ch} (h : Hand L A) : ∀ c ∈ A, 0 ≤ c.first := fun c hc => by
  have := (h.good.all c hc).2.2.1
  omega
theorem Hand.uni1 {L : Int} {A : List Ch} (h : Hand L A) : Uni L A := ⟨h.fit, good_ne1 h.good, h.lo, h.ends, by have := h.few; omega, h.words⟩
theorem Uni.app {L : Int} {U V : List Ch} (h : Uni L U) (k : Uni L V) (f : Fit U V) (l : U.length + V.length ≤ 13) : Uni L (U ++ V) where
  fit a ha b hb := by
    rcases List.mem_append.mp ha with ha | ha <;> rcases List.mem_append.mp hb with hb | hb
    · exact h.fit a ha b hb
    · exact f a ha b hb
    · exact fit_symm (f b hb a ha)
    · exact k.fit a ha b hb
  ne c hc := (List.mem_append.mp hc).elim (h.ne c) (k.ne c)
  lo c hc := (List.mem_append.mp hc).elim (h.lo c) (k.lo c)
  ends c hc := (List.mem_append.mp hc).elim (h.ends c) (k.ends c)
  few := by rw [List.length_append]; exact l
  words c hc := (List.mem_append.mp hc).elim (h.words c) (k.words c)
section
variable {L : Int} {U : List Ch}
theorem Uni.pw (h : Uni L U) : (sideL U).Pairwise lt2 := side_pw (fun c hc => (h.ne c hc).le) h.fit
theorem Uni.wk (h : Uni L U) : wk 0 (sideL U) := wk_pw h.pw (fun c hc => h.ne c (side_mem.mp hc)) fun c hc => h.lo c (side_mem.mp hc)
theorem Uni.ends' (h : Uni L U) : ∀ c ∈ sideL U, c.last ≤ L := fun c hc => h.ends c (side_mem.mp hc)
theorem Uni.sum (h : Uni L U) : wsum (sideL U) ≤ 26 := by
  have h1 := wsum_two (cs := sideL U) fun c hc => h.words c (side_mem.mp hc)
  have h2 := side_len U
  have h3 := h.few
  omega
theorem Uni.whole (h : Uni L U) : goodFrom (-1) (wholeV U) ∧ (∀ N t, appC N t (wholeV U) = appC N t (sideL U)) ∧ ∀ c ∈ wholeV U, c.last ≤ L := by
  have h1 := h.sum
  obtain ⟨a, b, c⟩ := joined_wk h.wk (by omega)
  exact ⟨a, b, c L h.ends'⟩
theorem Uni.filt (h : Uni L U) {A : List Ch} (hA : A.Pairwise lt2) (hs : ∀ c ∈ A, c ∈ U) : (sideL U).filter (fun c => decide (c ∈ A)) = A := by
  refine uniqL (h.pw.filter _) hA (fun c hc => (h.ne c (side_mem.mp (List.mem_filter.mp hc).1)).le) fun k => ?_
  rw [List.mem_filter, decide_eq_true_eq, side_mem]
  exact ⟨fun q => q.2, fun q => ⟨hs k q, q⟩⟩
theorem side_same {V : List Ch} (h : Uni L U) (k : Uni L V) (hm : ∀ c, c ∈ U ↔ c ∈ V) : sideL U = sideL V :=
  uniqL h.pw k.pw (fun c hc => (h.ne c (side_mem.mp hc)).le) fun c => by rw [side_mem, side_mem]; exact hm c
variable {A B : List Ch}
/-- what is moved, as a part of all -/
theorem moved_shift (h : Uni L U) (hA : Hand L A) (hB : Hand L B) (hU : ∀ c, c ∈ U ↔ c ∈ A ∨ c ∈ B) : movedV B A = joinedV (shiftB (fun c => decide (c ∈ A)) 0 (sideL U)) := by
  have f1 := h.filt (good_pw hA.good) fun c hc => (hU c).mpr (.inl hc)
  have f2 : (sideL U).filter (fun c => !decide (c ∈ A)) = B.filter fun c => !decide (c ∈ A) := by
    refine uniqL (h.pw.filter _) ((good_pw hB.good).filter _) (fun c hc => (h.ne c (side_mem.mp (List.mem_filter.mp hc).1)).le) fun k => ?_
    rw [List.mem_filter, List.mem_filter, side_mem, hU k]
    constructor
    · rintro ⟨q1 | q1, q2⟩
      · simp [q1] at q2
      · exact ⟨q1, q2⟩
    · rintro ⟨q1, q2⟩
      exact ⟨.inr q1, q2⟩
  rw [shift_list _ h.pw (fun c hc => (h.ne c (side_mem.mp hc)).le), f1, f2]
  unfold movedV
  congr 1
  refine List.map_congr_left fun c _ => ?_
  rw [Int.zero_add]
structure MovedOk (L : Int) (A B : List Ch) : Prop where
  good : goodFrom (-1) (movedV B A)
  ends : ∀ c ∈ movedV B A, c.last ≤ L + grow A
  small : wsum (movedV B A) ≤ 10 ∧ (movedV B A).length ≤ 5
theorem moved_ok (h : Uni L U) (hA : Hand L A) (hB : Hand L B) (hU : ∀ c, c ∈ U ↔ c ∈ A ∨ c ∈ B) (h0 : 0 ≤ L) : MovedOk L A B ∧ ∀ N t, appC N t (movedV B A) = appC N t (shiftB (fun c => decide (c ∈ A)) 0 (sideL U)) := by
  have f1 := h.filt (good_pw hA.good) fun c hc => (hU c).mpr (.inl hc)
  have hs := moved_shift h hA hB hU
  have hw := shift_wk (fun c => decide (c ∈ A)) (g := 0) h.wk
  have he := (shift_ends (fun c => decide (c ∈ A)) (g := 0) h.wk h.ends' h0).2
  rw [f1] at he
  have hsm := joined_small ((B.filter fun c => !decide (c ∈ A)).map fun c => shiftC (moreC A c) c)
  have hl1 : ((B.filter fun c => !decide (c ∈ A)).map fun c => shiftC (moreC A c) c).length ≤ 5 := by
    rw [List.length_map]
    exact Nat.le_trans (List.length_filter_le _ _) hB.few
  have hw1 : wsum ((B.filter fun c => !decide (c ∈ A)).map fun c => shiftC (moreC A c) c) ≤ 10 := by
    have := wsum_two (cs := (B.filter fun c => !decide (c ∈ A)).map fun c => shiftC (moreC A c) c) fun c hc => by
      obtain ⟨d, hd, rfl⟩ := List.mem_map.mp hc
      exact hB.words d (List.mem_filter.mp hd).1
    omega
  have hle : wsum (shiftB (fun c => decide (c ∈ A)) 0 (sideL U)) ≤ 1000 := by
    have := wsum_two (cs := shiftB (fun c => decide (c ∈ A)) 0 (sideL U)) fun c hc => by
      rw [shift_list _ h.pw (fun c hc => (h.ne c (side_mem.mp hc)).le)] at hc
      obtain ⟨d, hd, rfl⟩ := List.mem_map.mp hc
      exact h.words d (side_mem.mp (List.mem_filter.mp hd).1)
    have h2 : (shiftB (fun c => decide (c ∈ A)) 0 (sideL U)).length ≤ 13 := by
      rw [shift_list _ h.pw (fun c hc => (h.ne c (side_mem.mp hc)).le), List.length_map]
      have := List.length_filter_le (fun c => !decide (c ∈ A)) (sideL U)
      have := side_len U
      have := h.few
      omega
    omega
  obtain ⟨j1, j2, j3⟩ := joined_wk hw hle
  have hsmw : wsum (movedV B A) ≤ _ ∧ (movedV B A).length ≤ _ := hsm
  refine ⟨⟨?_, ?_, by omega⟩, fun N t => by rw [hs, j2]⟩
  · rw [hs]
    exact j1
  · rw [hs]
    refine j3 _ fun c hc => ?_
    have := he c hc
    omega
/-- one hand, then the rest of the other: both -/
theorem behind_does (h : Uni L U) (hA : Hand L A) (hB : Hand L B) (hU : ∀ c, c ∈ U ↔ c ∈ A ∨ c ∈ B) (h0 : 0 ≤ L) : doAll Tk.new (A.reverse ++ (movedV B A).reverse) (seg 0 L) = appC L 0 (wholeV U) := by
  obtain ⟨mo, ma⟩ := moved_ok h hA hB hU h0
  have f1 := h.filt (good_pw hA.good) fun c hc => (hU c).mpr (.inl hc)
  rw [doAll_app, rev_do0 hA.good hA.ends h0, doAll_look]
  have hlen : ((appC L 0 A).length : Int) = L + grow A := by
    have := appC_lenW (N := L) (s := 0) (cs := A) (hA.good.wk) hA.ends h0
    omega
  have hR0 : 0 ≤ L + grow A := by
    have := Int.natCast_nonneg (appC L 0 A).length
    omega
  rw [rev_do0 mo.good (fun c hc => by rw [hlen]; exact mo.ends c hc) (by omega), ma, h.whole.2.1]
  have := shift_sem (N := L) (fun c => decide (c ∈ A)) (appC L 0 A) (M := sideL U) (s := 0) (g := 0) [] h.wk h.ends' h0 (by rw [f1]; rfl) rfl
  simpa using this
theorem grow_is (p : Pa) : p.growth = grow p.changes := rfl
structure Beh (L : Int) (U A : List Ch) (p o : Pa) : Prop where
  pok : PatchOk (p.changes.reverse ++ o.changes.reverse)
  eq : behindV p o = ⟨wholeV U, L⟩
theorem behind_whole (h : Uni L U) (hA : Hand L A) (hB : Hand L B) (hU : ∀ c, c ∈ U ↔ c ∈ A ∨ c ∈ B) (h0 : 0 ≤ L) {l : Int} (hl : l ≤ L) : Beh L U A ⟨A, l⟩ ⟨movedV B A, L + grow A⟩ := by
  obtain ⟨mo, ma⟩ := moved_ok h hA hB hU h0
  have hes : ∀ e ∈ A.reverse ++ (movedV B A).reverse, e.ok := fun e he => by
    rcases List.mem_append.mp he with q | q
    · exact hA.good.ed (Int.le_refl _) e (List.mem_reverse.mp q)
    · exact mo.good.ed (Int.le_refl _) e (List.mem_reverse.mp q)
  have hw6 : wsum A ≤ 10 := by
    have := wsum_two hA.words
    have := hA.few
    omega
  have hws : wsum' (A.reverse ++ (movedV B A).reverse) ≤ 20 := by
    have e : wsum' (A.reverse ++ (movedV B A).reverse) = wsum A + wsum (movedV B A) := by simp [wsum', wsum]
    have := mo.small.1
    omega
  have hlen : (A.reverse ++ (movedV B A).reverse).length ≤ 10 := by
    rw [List.length_append, List.length_reverse, List.length_reverse]
    have := hA.few
    have := mo.small.2
    omega
  obtain ⟨pv, po⟩ := patch_spec hes (by omega) fun e he => by
    rcases List.mem_append.mp he with q | q
    · exact (good_ne1 hA.good e (List.mem_reverse.mp q)).few
    · exact (good_ne1 mo.good e (List.mem_reverse.mp q)).few
  have l1 : lst A.reverse 0 0 ≤ L := by
    have := lst_rev (L := L) 0 0 hA.good hA.ends
    omega
  have l2 : lst (A.reverse ++ (movedV B A).reverse) 0 0 ≤ L := by
    rw [lst_app, grow_rev]
    have := lst_rev (L := L + grow A) (lst A.reverse 0 0) (0 + grow A) mo.good mo.ends
    omega
  have hle : (patchV (A.reverse ++ (movedV B A).reverse)).least ≤ L := by rw [pv.least]; exact l2
  have hch : (patchV (A.reverse ++ (movedV B A).reverse)).changes = wholeV U := by
    refine appC_inj (N := L) pv.good h.whole.1 (fun c hc => Int.le_trans (pv.ends c hc) hle) h.whole.2.2 h0 ?_
    rw [pv.does L hle, behind_does h hA hB hU h0]
  refine ⟨po (by omega), ?_⟩
  unfold behindV
  show Pa.mk (patchV (A.reverse ++ (movedV B A).reverse)).changes (max (max (patchV (A.reverse ++ (movedV B A).reverse)).least l) (L + grow A - grow A)) = _
  rw [hch]
  congr 1
  omega
end
/-! ### running -/
theorem seg_map {ws : List Str} {a b : Int} (h0 : 0 ≤ a) (h1 : a ≤ b) (h2 : b ≤ ws.length) : (seg a b).map (look id ws) = cutA ws (some a) (some b) := by
  rw [cutA_mid _ h0 (by omega)]
  have hs := seg_append h1 h2
  have hl := look_seg' id ws a.toNat (ws.length - a.toNat) (by omega)
  rw [show ((a.toNat : Nat) : Int) = a by omega, ← hs, List.map_append] at hl
  have hlen : ((seg a b).map (look id ws)).length = b.toNat - a.toNat := by rw [List.length_map, seg_len]; omega
  rw [← hl, List.take_append_of_le_length (by omega), List.take_of_length_le (by omega)]
theorem seg_mapE {ws : List Str} {a : Int} (h0 : 0 ≤ a) (h2 : a ≤ ws.length) : (seg a ws.length).map (look id ws) = cutA ws (some a) none := by
  rw [cutA_drop _ h0]
  have hl := look_seg' id ws a.toNat (ws.length - a.toNat) (by omega)
  rwa [show ((a.toNat : Nat) : Int) = a by omega] at hl
theorem run_app {ws : List Str} : ∀ {cs : List Ch} {s : Int} (acc : List Str), goodFrom (s - 1) cs → (∀ c ∈ cs, c.last ≤ ws.length) → 0 ≤ s → s ≤ ws.length → (cs.foldl (runStep ws) (acc, s)).1 ++ cutA ws (some (cs.foldl (runStep ws) (acc, s)).2) none = acc ++ (appC ws.length s cs).map (look id ws)
  | [], s, acc, _, _, h0, hs => by
    show acc ++ cutA ws (some s) none = acc ++ (seg s ws.length).map (look id ws)
    rw [seg_mapE h0 hs]
  | c :: r, s, acc, hg, hl, h0, hs => by
    have g1 := hg.1
    have g2 := hg.2.1
    have cl := hl c List.mem_cons_self
    have i := run_app (ws := ws) (cs := r) (s := c.last) (acc ++ (cutA ws (some s) (some c.first) ++ c.words)) (hg.2.2.2.2.2.mono (by omega)) (fun d hd => hl d (List.mem_cons_of_mem _ hd)) (by omega) cl
    rw [List.foldl_cons]
    refine i.trans ?_
    show _ = acc ++ (seg s c.first ++ (c.words.map Tk.new ++ appC ws.length c.last r)).map (look id ws)
    rw [List.map_append, List.map_append, seg_map h0 (by omega) (by omega), List.map_map, List.append_assoc, List.append_assoc]
    congr 3
    exact (List.map_id _).symm
theorem pa_run {cs : List Ch} {l : Int} {ws : List Str} (hg : goodFrom (-1) cs) (hl : ∀ c ∈ cs, c.last ≤ ws.length) : (Pa.mk cs l).run ws = (appC ws.length 0 cs).map (look id ws) := by
  have := run_app (ws := ws) (cs := cs) (s := 0) [] hg hl (Int.le_refl _) (by omega)
  unfold Pa.run runAt
  simp only [List.take_length]
  simpa using this
/-! ### weaving -/
theorem perm_sum {xs ys : List Int} (h : xs.Perm ys) : xs.sum = ys.sum := by
  induction h with
  | nil => rfl
  | cons x _ ih => rw [List.sum_cons, List.sum_cons, ih]
  | swap x y l => simp only [List.sum_cons]; omega
  | trans _ _ i1 i2 => exact i1.trans i2
theorem more_perm {A B : List Ch} (h : A.Perm B) (c : Ch) : moreC A c = moreC B c := perm_sum ((h.filter _).map _)
/-- the words behind some of the changes -/
def nowV (ws : List Str) (U D : List Ch) : List Str := (appC ws.length 0 ((sideL U).filter fun c => decide (c ∈ D))).map (look id ws)
def stepW (ws : List Str) (D : List Ch) (c : Ch) : List Str := ws.take (c.first + moreC D c).toNat ++ c.words ++ ws.drop (c.last + moreC D c).toNat
theorem look_take (R : List Tk) {a : Int} (h0 : 0 ≤ a) (h1 : a ≤ R.length) : (seg 0 a).map (look Tk.new R) = R.take a.toNat ∧ (seg a R.length).map (look Tk.new R) = R.drop a.toNat := by
  have e2 := look_seg' Tk.new R a.toNat (R.length - a.toNat) (by omega)
  rw [show ((a.toNat : Nat) : Int) = a by omega] at e2
  refine ⟨?_, e2⟩
  have hR : R = [] ++ (R.take a.toNat ++ R.drop a.toNat) := by rw [List.take_append_drop]; rfl
  exact seg_part hR rfl (by rw [List.length_take]; simp; omega)
structure WvOk (ws : List Str) (U D : List Ch) (c : Ch) : Prop where
  lo : 0 ≤ c.first + moreC D c
  le : c.first + moreC D c ≤ c.last + moreC D c
  hi : c.last + moreC D c ≤ (nowV ws U D).length
  eq : stepW (nowV ws U D) D c = nowV ws U (D ++ [c])
theorem weave_step {L : Int} {U D : List Ch} {ws : List Str} {c : Ch} (h : Uni L U) (hL : L ≤ ws.length) (hD : ∀ d ∈ D, d ∈ U) (nd : D.Nodup) (hc : c ∈ U) (hn : c ∉ D) (h0 : 0 ≤ L) : WvOk ws U D c := by
  have hle : ∀ d ∈ sideL U, d.first ≤ d.last := fun d hd => (h.ne d (side_mem.mp hd)).le
  have e1 : ((sideL U).filter fun d => decide (d ∈ D ++ [c])).filter (fun d => decide (d ∈ D)) = (sideL U).filter fun d => decide (d ∈ D) := by
    rw [List.filter_filter]
    refine List.filter_congr fun d _ => ?_
    by_cases z : d ∈ D
    · simp [z]
    · simp [z]
  have e2 : ((sideL U).filter fun d => decide (d ∈ D ++ [c])).filter (fun d => !decide (d ∈ D)) = [c] := by
    refine uniqL ((h.pw.filter _).filter _) (List.pairwise_singleton _ _) (fun d hd => hle d (List.mem_filter.mp (List.mem_filter.mp hd).1).1) fun k => ?_
    rw [List.mem_filter, List.mem_filter, side_mem, List.mem_singleton]
    simp only [List.mem_append, List.mem_singleton, decide_eq_true_eq, Bool.not_eq_true', decide_eq_false_iff_not]
    constructor
    · rintro ⟨⟨_, q | q⟩, q3⟩
      · exact absurd q q3
      · exact q
    · rintro rfl
      exact ⟨⟨hc, .inr rfl⟩, hn⟩
  have pD : ((sideL U).filter fun d => decide (d ∈ D)).Perm D := by
    have ndU : (sideL U).Nodup := h.pw.imp fun {a b} hab e => by
      subst e
      exact hab.2 ⟨rfl, rfl⟩
    refine (List.perm_ext_iff_of_nodup (ndU.filter _) nd).mpr fun k => ?_
    rw [List.mem_filter, decide_eq_true_eq, side_mem]
    exact ⟨fun q => q.2, fun q => ⟨hD k q, q⟩⟩
  have wkM := h.wk.filter fun d => decide (d ∈ D ++ [c])
  have hends : ∀ d ∈ (sideL U).filter (fun d => decide (d ∈ D ++ [c])), d.last ≤ (ws.length : Int) := fun d hd => Int.le_trans (h.ends' d (List.mem_filter.mp hd).1) hL
  have sl := shift_list (fun d => decide (d ∈ D)) (g := 0) (h.pw.filter fun d => decide (d ∈ D ++ [c])) fun d hd => hle d (List.mem_filter.mp hd).1
  rw [e1, e2, List.map_singleton, Int.zero_add, more_perm pD] at sl
  have hwk := shift_wk (fun d => decide (d ∈ D)) (g := 0) wkM
  have he := (shift_ends (fun d => decide (d ∈ D)) (g := 0) wkM hends (by omega)).2
  rw [sl] at hwk he
  rw [e1] at he
  have h1 : 0 ≤ c.first + moreC D c := by
    have : (0 : Int) + 0 ≤ c.first + moreC D c := hwk.1
    omega
  have h2 : c.first + moreC D c ≤ c.last + moreC D c := hwk.2.1.le
  have h3 : c.last + moreC D c ≤ ws.length + 0 + grow ((sideL U).filter fun d => decide (d ∈ D)) := he _ List.mem_cons_self
  have hlen : ((appC ws.length 0 ((sideL U).filter fun d => decide (d ∈ D))).length : Int) = ws.length - 0 + grow ((sideL U).filter fun d => decide (d ∈ D)) := appC_lenW (h.wk.filter _) (fun d hd => Int.le_trans (h.ends' d (List.mem_filter.mp hd).1) hL) (by omega)
  have sem := shift_sem (N := ws.length) (fun d => decide (d ∈ D)) (appC ws.length 0 ((sideL U).filter fun d => decide (d ∈ D))) (s := 0) (g := 0) [] wkM hends (by omega) (by rw [e1]; rfl) rfl
  rw [sl] at sem
  have sem : (seg (0 + 0) (c.first + moreC D c) ++ (c.words.map Tk.new ++ seg (c.last + moreC D c) (appC ws.length 0 ((sideL U).filter fun d => decide (d ∈ D))).length)).map (look Tk.new (appC ws.length 0 ((sideL U).filter fun d => decide (d ∈ D)))) = appC ws.length 0 ((sideL U).filter fun d => decide (d ∈ D ++ [c])) := sem
  rw [List.map_append, List.map_append, look_news, (look_take _ (by omega) (by omega)).2, Int.zero_add, (look_take _ h1 (by omega)).1] at sem
  refine ⟨h1, h2, ?_, ?_⟩
  · unfold nowV
    rw [List.length_map]
    omega
  · unfold nowV stepW
    rw [← sem, List.map_append, List.map_append, List.map_take, List.map_drop, List.map_map, List.append_assoc]
    congr 2
    exact (List.map_id _).symm
theorem now_nil {L : Int} {U : List Ch} {ws : List Str} : nowV ws U [] = ws := by
  unfold nowV
  have : (sideL U).filter (fun c => decide (c ∈ ([] : List Ch))) = [] := by simp
  rw [this]
  exact look_seg id ws
theorem now_all {L : Int} {U D : List Ch} {ws : List Str} (h : Uni L U) (hL : L ≤ ws.length) (hD : ∀ c ∈ U, c ∈ D) {l : Int} : nowV ws U D = (Pa.mk (wholeV U) l).run ws := by
  have : (sideL U).filter (fun c => decide (c ∈ D)) = sideL U := List.filter_eq_self.mpr fun c hc => decide_eq_true (hD c (side_mem.mp hc))
  rw [pa_run h.whole.1 (fun c hc => Int.le_trans (h.whole.2.2 c hc) hL), h.whole.2.1]
  unfold nowV
  rw [this]
theorem now_len {L : Int} {U D : List Ch} {ws : List Str} (h : Uni L U) (hL : L ≤ ws.length) (h0 : 0 ≤ L) : (nowV ws U D).length ≤ ws.length + 26 := by
  have hf : ∀ cs : List Ch, (∀ c ∈ cs, c.first ≤ c.last) → grow cs ≤ wsum cs := by
    intro cs
    induction cs with
    | nil => intro _; exact Int.le_refl _
    | cons c r ih =>
      intro hl
      have := ih fun d hd => hl d (List.mem_cons_of_mem _ hd)
      have := hl c List.mem_cons_self
      have := growth_eq c
      have e : wsum (c :: r) = c.words.length + wsum r := by simp [wsum]
      rw [grow_cons, e]
      omega
  have h1 := appC_lenW (N := ws.length) (h.wk.filter fun c => decide (c ∈ D)) (fun d hd => Int.le_trans (h.ends' d (List.mem_filter.mp hd).1) hL) (by omega)
  have h2 := hf ((sideL U).filter fun c => decide (c ∈ D)) fun c hc => (h.ne c (side_mem.mp (List.mem_filter.mp hc).1)).le
  have h3 := wsum_filter (fun c => decide (c ∈ D)) (sideL U)
  have h4 := h.sum
  unfold nowV
  rw [List.length_map]
  omega
end K51

/-! sorted(set(xs)) of ints -/
namespace Gd
open PySem PySem.Spec PyProof.Rows L2
/-- a set as it begins -/
abbrev fso (w : World) : Obj := { cls := .type "set", dict := none, data := .set #[] 0 (.fresh 0 0 (!w.params.followText "set-order")) }
section
variable {P : Program} {w : World} {A : Around} {E : Value → Shared → Prop} {s : Shared}
set_option maxHeartbeats 8000000 in
theorem call_set_lstI {l : Addr} {items : Array Value} (ns : List Int) {Q : Value → Shared → Prop} (hh : A.handled = none) (hl : s.heap.IsList l items) (hit : IntsAre items.toList ns) (hb : ns.length + 1 < scanBound)
    (h : ∀ (h' : Heap) (tk c : Nat), SetR w h' s.heap.objs.size (fun j => decide (j ∈ ns)) c → c ≤ ns.length → (∀ b o, s.heap.get? b = some o → h'.get? b = some o) → Q (.ref s.heap.objs.size) { s with heap := h', toks := tk }) : -- -
    wpAny (model P w) A (call (.type "set") [.ref l]) Q E s := by -- -
  have hisz : items.size = ns.length := by -- -
    have q := IntsAre.length hit
    rw [Array.length_toList] at q
    exact q
  (obtain ⟨c, tl, hmro⟩ := PySem.F.called_set.mro)
  (have hmade := PySem.F.called_set.made)
  (have hsub := PySem.F.called_set.sub)
  (refine wpAny_call (codeAny_of_tree ?_))
  (show wpAny _ _ (callAny (.type "set") _) _ _ _)
  (refine wpAny_pure ⟨Code.quiet_builtin _ (by decide +kernel), codeAny_builtin PySem.F.entry_type_call ?_⟩)
  (rw [Around.under_plain (weight_type_call_type "set" [.ref l] []) rfl])
  (have h1 := PySem.F.called_set.notType)
  (have h2 := PySem.F.called_set.canCreate)
  (have hct := PySem.F.typeCall_set_1 (.ref l))
  repeat (any_goals (first | assumption | wp_step)) -- -
  refine codeAny_mono (code_set_led1 (.ref l) (E := E) (Q₁ := fun obj s₁ => obj = .ref s.heap.objs.size ∧ s₁ = { s with heap := s.heap.push (fso w) }) ⟨rfl, rfl⟩) fun r s₁ hr => ?_
  cases r with
  | error e => exact hr
  | ok fl =>
    cases fl with
    | ret obj =>
      obtain ⟨rfl, rfl⟩ := hr
      have hS : (s.heap.push (fso w)).get? s.heap.objs.size = some (fso w) := Heap.get?_push_size _ rfl
      have hT : Shared.TypeIs { s with heap := s.heap.push (fso w) } (.ref s.heap.objs.size) "set" := ⟨_, hS, rfl⟩
      (have hli := PySem.F.called_set.init.lookup)
      (have hbi := PySem.F.called_set.init.bind (.ref s.heap.objs.size))
      repeat (any_goals (first | assumption | wp_step)) -- -
      refine codeAny_mono (codeAny_call_builtin (R := wants (fun r s₂ => r = .none ∧ ∃ h' tk c, s₂ = { s with heap := h', toks := tk } ∧ SetR w h' s.heap.objs.size (fun j => decide (j ∈ ns)) c ∧ c ≤ ns.length ∧ -- -
          (∀ b o, s.heap.get? b = some o → h'.get? b = some o)) E) PySem.F.called_set.init.plain PySem.F.entry_set_init (check_set_init_1 hT ?_)) fun r₂ s₂ hr₂ => ?_
      · (obtain ⟨ol, hol, hcl, nl, hdl⟩ := hl)
        (obtain ⟨ocls, odict, odata, oslots⟩ := ol)
        simp only at hcl hdl
        subst hcl; subst hdl
        have hol' : (s.heap.push (fso w)).get? l = some { cls := .type "list", dict := odict, data := .seq items nl, slots := oslots } := Heap.get?_push_of_some _ hol
        (have hsls := PySem.F.sub_list_set)
        (have hslf := PySem.F.sub_list_frozenset)
        (have hne : (Value.type "list" == Value.type "dict") = false := by decide)
        have hl1 : (s.heap.push (fso w)).IsList l items := ⟨_, hol', rfl, nl, rfl⟩
        (unfold Builtin.«set.__init__» noKeywords Builtin.Frozenset.updateFrom)
        generalize hPI : pyIter = PI
        wp_walk
        subst hPI
        (refine wpAny_pyIter_list hl1 ?_)
        (refine wpAny_bind (wpAny_runValue ?_))
        (have hlS : l < s.heap.objs.size := Heap.lt_size hol)
        (have hh3 : A.in1.in1.in1.handled = none := by simp [hh])
        have hneI : l ≠ (s.heap.push (fso w)).objs.size := by
          (rw [Heap.size_push]; exact Nat.ne_of_lt (Nat.lt_succ_of_lt hlS))
        have hSf : s.heap.objs.size ∉ [(s.heap.push (fso w)).objs.size, l] := by
          (rw [Heap.size_push]; simp only [List.mem_cons, List.mem_singleton, List.not_mem_nil, or_false, not_or])
          (exact ⟨Nat.ne_of_lt (Nat.lt_succ_self _), Nat.ne_of_gt hlS⟩)
        have hval : ∀ (i : Nat) (v : Value), items[i]? = some v → ∃ k t, ns[i]? = some k ∧ v = .int k t := fun i v hv => by -- -
          (have hi : i < ns.length := by rw [← hisz]; exact (Array.getElem?_eq_some_iff.mp hv).1)
          (obtain ⟨t, e⟩ := PyProof.Rows.IntsAre.int_at hit i v (by rw [Array.getElem?_toList]; exact hv))
          (refine ⟨ns[i], t, List.getElem?_eq_getElem hi, ?_⟩)
          (rw [e, List.getD_eq_getElem?_getD, List.getElem?_eq_getElem hi] <;> rfl)
        refine set_update_ints ((Walks.list hh3 _ l hneI items).toS) s.heap.objs.size hSf ns hisz hb hval (items.size - 0) 0 _ (by omega) (Nat.zero_le _) ⟨⟨_, Heap.get?_push_size _ rfl, rfl, rfl⟩, (hl1.push _)⟩ ?hS0 ?hR
        case hS0 =>
          have hget : ((s.heap.push (fso w)).push { cls := .type "list_iterator", data := .fields #[.ref l, .int 0 0] }).get? s.heap.objs.size = some (fso w) := Heap.get?_push_of_some _ hS
          (exact ⟨0, Nat.le_refl 0, setR_new_at hget⟩)
        case hR =>
          intro s' c' hm hc' hS'
          (obtain ⟨h', g2, d', tk', os'⟩ := s')
          (have eg : g2 = s.gens := hm.gens)
          (have ed : d' = s.drawn := hm.drawn)
          have eo : os' = s.os := hm.os
          subst eg; subst ed; subst eo
          show wpAny _ _ _ _ _ _
          refine wpAny_pure ?_
          (show wpAny _ _ (ret Value.none) _ _ _)
          rw [hisz] at hc'
          (refine wpAny_pure ⟨rfl, h', tk', c', rfl, hS', hc', fun b o e => ?_⟩)
          (have hb0 : b < s.heap.objs.size := Heap.lt_size e)
          (have hb1 : b ≠ s.heap.objs.size := Nat.ne_of_lt hb0)
          have hb2 : b ≠ (s.heap.push (fso w)).objs.size := by
            (rw [Heap.size_push]; exact Nat.ne_of_lt (Nat.lt_succ_of_lt hb0))
          (exact hm.heap b o (by simp only [List.mem_cons, List.mem_singleton, List.not_mem_nil, or_false, not_or]; exact ⟨hb1, hb2⟩) (Heap.get?_push_of_some _ (Heap.get?_push_of_some _ e)))
      · cases r₂ with
        | error e => exact hr₂
        | ok fl₂ =>
          cases fl₂ with
          | ret r =>
            (obtain ⟨rfl, h', tk, c', rfl, hS', hc', hk'⟩ := hr₂)
            repeat (any_goals (first | assumption | wp_step)) -- -
            exact h _ _ _ hS' hc' hk'
          | _ => exact hr₂.elim
    | _ => exact hr.elim
end
/-! ### by values -/
/-- the members, ascending, each once -/
def sdI (ns : List Int) : List Int := (ns.eraseDups).mergeSort (fun a b => decide (a ≤ b))
theorem sdI_mem {ns : List Int} {k : Int} : k ∈ sdI ns ↔ k ∈ ns := by
  unfold sdI
  rw [List.mem_mergeSort, List.mem_eraseDups]
theorem nodup_eraseDups (ns : List Int) : ns.eraseDups.Nodup := by
  suffices h : ∀ n (l : List Int), l.length ≤ n → l.eraseDups.Nodup from h _ ns (Nat.le_refl _)
  intro n
  induction n with
  | zero => intro l hl; cases l with
    | nil => simp
    | cons a l => simp at hl
  | succ n ih =>
    intro l hl
    cases l with
    | nil => simp
    | cons a l =>
      rw [List.eraseDups_cons, List.nodup_cons]
      refine ⟨?_, ih _ ?_⟩
      · rw [List.mem_eraseDups, List.mem_filter]
        simp
      · have := List.length_filter_le (fun b => !b == a) l
        simp at hl
        omega
theorem sdI_sorted (ns : List Int) : (sdI ns).Pairwise (· < ·) := by
  have h1 : (sdI ns).Pairwise (fun a b => decide (a ≤ b) = true) := List.pairwise_mergeSort (le := fun a b : Int => decide (a ≤ b)) (fun a b c h1 h2 => decide_eq_true (Int.le_trans (of_decide_eq_true h1) (of_decide_eq_true h2))) (fun a b => by
    rcases Int.le_total a b with h | h <;> simp [h]) _
  have h2 : (sdI ns).Nodup := (List.mergeSort_perm _ _).nodup_iff.mpr (nodup_eraseDups ns)
  have h3 := h1.and h2
  exact h3.imp fun {a b} h => by
    have := of_decide_eq_true h.1
    have := h.2
    omega
theorem asc_unique {xs ys : List Int} (hx : xs.Pairwise (· < ·)) (hy : ys.Pairwise (· < ·)) (h : ∀ k, k ∈ xs ↔ k ∈ ys) : xs = ys := by
  induction xs generalizing ys with
  | nil =>
    cases ys with
    | nil => rfl
    | cons y ys => exact absurd ((h y).mpr List.mem_cons_self) (by simp)
  | cons x xs ih =>
    cases ys with
    | nil => exact absurd ((h x).mp List.mem_cons_self) (by simp)
    | cons y ys =>
      rw [List.pairwise_cons] at hx hy
      have e : x = y := by
        rcases List.mem_cons.mp ((h x).mp List.mem_cons_self) with z | z
        · exact z
        · rcases List.mem_cons.mp ((h y).mpr List.mem_cons_self) with t | t
          · exact t.symm
          · have := hx.1 y t
            have := hy.1 x z
            omega
      subst e
      rw [ih hx.2 hy.2 fun k => ⟨fun hk => ?_, fun hk => ?_⟩]
      · rcases List.mem_cons.mp ((h k).mp (List.mem_cons_of_mem _ hk)) with z | z
        · have := hx.1 k hk
          omega
        · exact z
      · rcases List.mem_cons.mp ((h k).mpr (List.mem_cons_of_mem _ hk)) with z | z
        · have := hy.1 k hk
          omega
        · exact z
section
variable {X : Cx} {ns : List Int}
/-- a set of ints, that nobody changes any more -/
def sSet (w : World) (ns : List Int) : Slot := ⟨fun _ G v => ∃ p n, v = .ref p ∧ G p = some (SetO w p (fun j => decide (j ∈ ns)) n) ∧ n ≤ ns.length, fun e ⟨p, n, h, q, r⟩ => ⟨p, n, h, e _ _ q, r⟩⟩
def rSetL (X : Cx) : List V → Hp → VK → Prop := fun vs H Q => ∃ (p : Addr) (ns : List Int), vs = [.ref p] ∧ (SqL X.K H p (ns.map V.int) ∨ SqT X.K H p (ns.map V.int)) ∧ ns.length + 1 < scanBound ∧ ∀ q n, n ≤ ns.length → H q = none → Q (.ref q) (upd H q (SetO X.w q (fun j => decide (j ∈ ns)) n))
theorem cr_setL (hc : X.calm = true) : CallR X (.type "set") (rSetL X) := by
  (intro pins s σ H vs us Q I r h)
  obtain ⟨p, ns, rfl, hs, hb, q⟩ := h
  rw [Vals.ref1 r]
  have hd := I.ok.hd hc
  rcases hs with hs | hs
  · obtain ⟨its, rv, hl, _⟩ := I.list hs
    refine call_set_lstI ns hd hl.isList (ints_of_vals rv) hb fun h' tk c R hc' k => ?_
    exact ⟨.ref _, _, I.laid (t' := tk) (a := s.heap.objs.size) k (Nat.le_refl _) (setO_new R), rfl, q _ c hc' (I.hok.fresh (Nat.le_refl _))⟩
  · obtain ⟨its, rv, pt, _⟩ := I.tuple hs
    refine call_set_tupI ns hd (show s.heap.IsTuple p its.toArray from pt) (ints_of_vals rv) hb fun h' tk c R hc' k => ?_
    exact ⟨.ref _, _, I.laid (t' := tk) (a := s.heap.objs.size) k (Nat.le_refl _) (setO_new R), rfl, q _ c hc' (I.hok.fresh (Nat.le_refl _))⟩
theorem c_setL (hz : ns.length ≤ 1000) (hc : X.calm = true := by rfl) : CallE X (.type "set") [sLst sInt ns] (sSet X.w ns) :=
  ⟨_, cr_setL hc, fun B δ O σ G H Q xs st h k => by
    obtain ⟨v, rfl, p, vs, rfl, hp, r⟩ := alls1 h
    have e := r.vals (f := V.int)
    subst e
    refine ⟨p, ns, rfl, .inl (SqL.of (st.stp.gh _ _ hp)), by unfold scanBound; omega, fun q n hn hq => ?_⟩
    have sg : Same G (upd G q (SetO X.w q (fun j => decide (j ∈ ns)) n)) := same_new (gnone st.stp hq)
    exact k _ _ _ sg (st.freshG hq) ⟨q, n, rfl, upd_same, hn⟩⟩
theorem c_setT (hz : ns.length ≤ 1000) (hc : X.calm = true := by rfl) : CallE X (.type "set") [sTupl sInt ns] (sSet X.w ns) :=
  ⟨_, cr_setL hc, fun B δ O σ G H Q xs st h k => by
    obtain ⟨v, rfl, p, vs, rfl, hp, r⟩ := alls1 h
    have e := r.vals (f := V.int)
    subst e
    refine ⟨p, ns, rfl, .inr (sqT_up st.stp.gh hp), by unfold scanBound; omega, fun q n hn hq => ?_⟩
    have sg : Same G (upd G q (SetO X.w q (fun j => decide (j ∈ ns)) n)) := same_new (gnone st.stp hq)
    exact k _ _ _ sg (st.freshG hq) ⟨q, n, rfl, upd_same, hn⟩⟩
theorem c_sortSet (hz : ns.length < 64) (hc : X.calm = true := by rfl) : CallW X (.builtin "sorted") [sSet X.w ns] (fun p => oLst p sInt (sdI ns)) :=
  ⟨_, cr_sortedSet hc, fun B δ O σ G H Q xs st h k => by
    obtain ⟨v, rfl, p, n, rfl, hp, hn⟩ := alls1 h
    refine ⟨p, _, n, rfl, st.stp.gh _ _ hp, by omega, fun ms q hs hm _ hq => ?_⟩
    have e : ms = sdI ns := asc_unique hs (sdI_sorted ns) fun j => by rw [hm j, decide_eq_true_eq, sdI_mem]
    subst e
    exact k q G _ (none_of st hq) (Same.refl _) (st.freshO (w := oLst q sInt (sdI ns)) hq rfl ⟨_, rfl, All2.ofVals _⟩)⟩
/-- sorted(xs) of ints -/
def srtI (ns : List Int) : List Int := ns.mergeSort (fun a b => decide (a ≤ b))
theorem srtI_sorted (ns : List Int) : (srtI ns).Pairwise (· ≤ ·) := by
  have h1 : (srtI ns).Pairwise (fun a b => decide (a ≤ b) = true) := List.pairwise_mergeSort (le := fun a b : Int => decide (a ≤ b)) (fun a b c h1 h2 => decide_eq_true (Int.le_trans (of_decide_eq_true h1) (of_decide_eq_true h2))) (fun a b => by
    rcases Int.le_total a b with h | h <;> simp [h]) _
  exact h1.imp fun h => of_decide_eq_true h
theorem c_sortI : CallW X (.builtin "sorted") [sLst sInt ns] (fun p => oLst p sInt (srtI ns)) :=
  ⟨_, cr_sortedI, fun B δ O σ G H Q xs st h k => by
    obtain ⟨v, rfl, p, vs, rfl, hp, r⟩ := alls1 h
    have e := r.vals (f := V.int)
    subst e
    refine ⟨p, ns, rfl, SqL.of (st.stp.gh _ _ hp), fun ms q hpm hs hq => ?_⟩
    have e : ms = srtI ns := List.Perm.eq_of_pairwise (fun a b _ _ h1 h2 => Int.le_antisymm h1 h2) hs (srtI_sorted ns) (hpm.trans (List.mergeSort_perm ns _).symm)
    subst e
    exact k q G _ (none_of st hq) (Same.refl _) (st.freshO (w := oLst q sInt (srtI ns)) hq rfl ⟨_, rfl, All2.ofVals _⟩)⟩
end
end Gd

/-! min(xs) of data; zip -/
namespace Gd
open PySem PySem.W PySem.Calls PySem.SeqAt PyProof.Rows L2
section
variable {α : Type}
theorem minB_enc {enc : α → PyData} (b : α) (bs : List α) : enc (minB enc b bs) = minD (enc b) (bs.map enc) := by
  unfold minB minD
  induction bs generalizing b with
  | nil => rfl
  | cons y bs ih =>
    rw [List.foldl_cons, List.map_cons, List.foldl_cons, ih]
    congr 1
    split <;> rfl
theorem minB_mem {enc : α → PyData} (b : α) (bs : List α) : minB enc b bs ∈ b :: bs := by
  unfold minB
  induction bs generalizing b with
  | nil => exact List.mem_cons_self
  | cons y bs ih =>
    rw [List.foldl_cons]
    rcases List.mem_cons.mp (ih (if dataLt (enc y) (enc b) = true then y else b)) with h | h
    · rw [h]
      split
      · exact List.mem_cons_of_mem _ List.mem_cons_self
      · exact List.mem_cons_self
    · exact List.mem_cons_of_mem _ (List.mem_cons_of_mem _ h)
/-- the least, by what the order does with a first part -/
theorem minB_le {enc : α → PyData} (f : α → Int) (h1 : ∀ x y, dataLt (enc x) (enc y) = true → f x ≤ f y) (h2 : ∀ x y, dataLt (enc x) (enc y) = false → f y ≤ f x) (b : α) (bs : List α) : ∀ y ∈ b :: bs, f (minB enc b bs) ≤ f y := by
  suffices h : f (minB enc b bs) ≤ f b ∧ ∀ y ∈ bs, f (minB enc b bs) ≤ f y by
    intro y hy
    (rcases List.mem_cons.mp hy with rfl | hy)
    · exact h.1
    · exact h.2 y hy
  unfold minB
  induction bs generalizing b with
  | nil => exact ⟨Int.le_refl _, fun y hy => by cases hy⟩
  | cons y bs ih =>
    rw [List.foldl_cons]
    obtain ⟨i1, i2⟩ := ih (if dataLt (enc y) (enc b) = true then y else b)
    have key : f (if dataLt (enc y) (enc b) = true then y else b) ≤ f b ∧ f (if dataLt (enc y) (enc b) = true then y else b) ≤ f y := by
      cases e : dataLt (enc y) (enc b) with
      | true => exact ⟨by simpa using h1 _ _ e, by simp⟩
      | false => exact ⟨by simp, by simpa using h2 _ _ e⟩
    refine ⟨Int.le_trans i1 key.1, fun z hz => ?_⟩
    (rcases List.mem_cons.mp hz with rfl | hz)
    · exact Int.le_trans i1 key.2
    · exact i2 z hz
end
section
variable {X : Cx} {α : Type} {R : α → Slot}
def rMinD (K : PySem.W.Frag) {α : Type} (enc : α → PyData) (P : V → α → Prop) : List V → Hp → VK → Prop := fun vs H Q => ∃ a ys b bs, vs = [.ref a] ∧ SqL K H a ys ∧ EachIs P ys (b :: bs) ∧ DpAll K H ys ((b :: bs).map enc) ∧ AlikeAll ((b :: bs).map enc) ∧ PyData.depthAll ((b :: bs).map enc) ≤ 8 ∧
  ∀ v y, P v y → y ∈ b :: bs → enc y = minD (enc b) (bs.map enc) → Q v H
theorem each_at {P : Value → α → Prop} : ∀ {us : List Value} {bs : List α} {i : Nat} {u : Value}, EachIs P us bs → us[i]? = some u → ∃ b, bs[i]? = some b ∧ P u b
  | _, _, _, _, .nil, h => by simp at h
  | _, _, 0, _, .cons h t, e => by simp at e; subst e; exact ⟨_, rfl, h⟩
  | _, _, i + 1, u, .cons h t, e => by
    obtain ⟨b, h1, h2⟩ := each_at t (i := i) (u := u) (by simpa using e)
    exact ⟨b, by simpa using h1, h2⟩
theorem cr_minD {k : Nat} (hr : Room k X.A) (hc : X.calm = true) {enc : α → PyData} {P : V → α → Prop} : CallR X (.builtin "min") (rMinD X.K enc P) := by
  (intro pins s σ H vs us Q I r h)
  obtain ⟨a, ys, b, bs, rfl, hs, hP, hd, hal, hdp, q⟩ := h
  (obtain ⟨its, rv, hl, _⟩ := I.list hs)
  rw [Vals.ref1 r]
  obtain ⟨as, hra⟩ := Dp.readsAll I _ _ _ hd rv
  have er : EachIs (fun v b => ∃ as, Reads s.heap v (enc b) as) its (b :: bs) := readsAll_each enc hra
  have e := each_vals rv hP
  refine min_list_data (I.ok.hd hc) hl.isList (x := enc b) (xs := bs.map enc) hra hal (by have := hr.units; show X.A.units + 1 + PyData.depthAll ((b :: bs).map enc) < cLine; omega) fun i v h' tk cs hv hread hk => ?_
  (have hv' : its[i]? = some v := by simpa using hv)
  obtain ⟨y, hy, v', rv', pv⟩ := each_at e hv'
  obtain ⟨y', hy', as', ry⟩ := each_at er hv'
  rw [hy] at hy'
  cases hy'
  have ry' := PyProof.Rows.Reads.keeps hk ry
  have hym := List.mem_of_getElem? hy
  have hmem : minD (enc b) (bs.map enc) ∈ (b :: bs).map enc := by
    rw [← minB_enc (enc := enc)]
    exact List.mem_map.mpr ⟨_, minB_mem b bs, rfl⟩
  have eq := alike_unique _ _ _ _ _ (hal.1 _ (List.mem_map.mpr ⟨y, hym, rfl⟩) _ hmem) ry' hread
  exact ⟨v', H, I.kept (t' := tk) hk, rv', q v' y pv hym eq⟩
theorem c_minD {k : Nat} (hr : Room k X.A) {enc : α → PyData} {b : α} {bs : List α} (hR : ∀ a, IsD (R a) (enc a)) (hal : AlikeAll ((b :: bs).map enc)) (hdp : PyData.depthAll ((b :: bs).map enc) ≤ 8) (hinj : ∀ x y, enc x = enc y → x = y) (hc : X.calm = true := by rfl) :
    CallE X (.builtin "min") [sLst R (b :: bs)] (R (minB enc b bs)) := by
  refine ⟨fun vs H Q => ∃ P, rMinD X.K enc P vs H Q, fun pins s σ H vs us Q I r ⟨P, h⟩ => cr_minD hr hc pins s σ H vs us Q I r h, fun B δ O σ G H Q xs st h kk => ?_⟩
  obtain ⟨v, rfl, p, ys, rfl, hp, r⟩ := alls1 h
  refine ⟨fun v a => (R a).ok X.K G v, p, ys, b, bs, rfl, SqL.of (st.stp.gh _ _ hp), each_of_all2 r, dpAll_up st.stp.gh (dpAll hR r), hal, hdp, fun v y hv hy he => ?_⟩
  have : y = minB enc b bs := hinj _ _ (by rw [he, minB_enc (enc := enc)])
  subst this
  exact kk v G H (Same.refl _) st hv
end
/-! ### zip, in -/
section
variable {X : Cx} {δ : List (Option Slot)} {O O1 O2 : List Own} {e e2 : Expr} {p pos tpos : Pos} {α β : Type} {R : α → Slot} {S : β → Slot} {as : List α} {bs : List β} {elts : List Expr} {kk : Nat}
theorem it_zip (hm : X.mg "zip" = none) (h1 : E X δ O e (sLst R as) O1) (h2 : E X δ O1 e2 (sLst S bs) O2) (hg : Gl X "zip" := by rfl) (hs : noStar e = true := by rfl) (hs2 : noStar e2 = true := by rfl) :
    IT X δ O (.Tuple elts kk tpos) (.Call (.Name "zip" p) [e, e2] [] pos) (fun y : α × β => sTup [R y.1, S y.2]) (as.zip bs) O2 :=
  ⟨_, RZ.pi_zipA hg hm (pa_cons pe_w (pa_cons pe_w pa_nil (starEach_plain hs2)) (starEach_plain hs)) (starEach_plain hs) (by rw [starEach_plain hs2]; rfl), fun B σ G H Q st k => h1 B σ G H _ st fun v G1 H1 m1 st1 hv => h2 B σ G1 H1 _ st1 fun v2 G2 H2 m2 st2 hv2 => by
    obtain ⟨q1, vs, rfl, hp, r⟩ := hv
    obtain ⟨q2, ws, rfl, hp2, r2⟩ := hv2
    have r1 := r.mono m2
    have hp1 := m2 _ _ hp
    refine ⟨q1, q2, vs, ws, rfl, .inl ⟨SqL.of (st2.stp.gh _ _ hp1), SqL.of (st2.stp.gh _ _ hp2), k _ G2 H2 (m1.trans m2) st2 fun B' δ' O' σ' G' H' i e st' => ⟨fun y hy => ?_, fun hi => ?_⟩⟩⟩
    · obtain ⟨ha, hb⟩ := List.getElem?_zip_eq_some.mp hy
      obtain ⟨w1, g1, k1⟩ := r1.get ha
      obtain ⟨w2, g2, k2⟩ := r2.get hb
      have s1 : SqL X.K H' q1 vs := SqL.of (st'.stp.gh _ _ (e _ _ hp1))
      have s2 : SqL X.K H' q2 ws := SqL.of (st'.stp.gh _ _ (e _ _ hp2))
      refine ⟨⟨vs, ws, w1, w2, s1, s2, g1, g2⟩, fun v H'' hy' => ?_⟩
      obtain ⟨T, x, y', rfl, hT, rfl, hx, hyy⟩ := hy'
      have hx := hx vs s1
      have hyy := hyy ws s2
      rw [g1] at hx
      rw [g2] at hyy
      cases hx
      cases hyy
      have sg : Same G' (upd G' T (.tup [w1, w2])) := same_new (gnone st'.stp hT)
      exact ⟨_, sg, st'.freshG hT, T, _, rfl, SqT.of upd_same, .cons ((R y.1).mono sg ((R y.1).mono e k1)) (.cons ((S y.2).mono sg ((S y.2).mono e k2)) .nil)⟩
    · refine ⟨vs, ws, SqL.of (st'.stp.gh _ _ (e _ _ hp1)), SqL.of (st'.stp.gh _ _ (e _ _ hp2)), ?_⟩
      rw [List.length_zip] at hi
      rw [r1.length, r2.length]
      omega⟩
/-- rows of ints as data -/
def encT (row : List Int) : PyData := .tuple (row.map .int)
theorem isD_encT (row : List Int) : IsD (sTupl sInt row) (encT row) := isD_tupl fun _ => isD_int
theorem eqv_encT (a b : List Int) : PyData.eqv (encT a) (encT b) = true ↔ a = b := by
  unfold encT
  rw [eqv_tup eqv_int]
  simp
theorem encT_inj {a b : List Int} (h : encT a = encT b) : a = b := by
  rw [← eqv_encT, h, eqv_encT]
theorem can_encT (row : List Int) : PyData.canLay0 (encT row) = true := by
  unfold encT
  simp only [PyData.canLay0, canAll_ints]
theorem can_encTs : ∀ rows : List (List Int), PyData.canLayAll0 (rows.map encT) = true
  | [] => rfl
  | r :: rows => by
    show (PyData.canLay0 (encT r) && PyData.canLayAll0 (rows.map encT)) = true
    rw [can_encT, can_encTs rows]
    rfl
theorem depth_encT (row : List Int) : (encT row).depth = 1 := by
  unfold encT
  simp [PyData.depth, depthAll_ints]
theorem depth_encTs : ∀ rows : List (List Int), PyData.depthAll (rows.map encT) ≤ 1
  | [] => by simp [PyData.depthAll] -- -
  | r :: rows => by
    have := depth_encTs rows
    have := depth_encT r
    show max (encT r).depth (PyData.depthAll (rows.map encT)) ≤ 1
    omega
theorem any_encT {row : List Int} : ∀ rows : List (List Int), ((rows.map encT).any fun z => PyData.eqv z (encT row)) = decide (row ∈ rows)
  | [] => by simp
  | r :: rows => by
    rw [List.map_cons, List.any_cons, any_encT rows]
    by_cases h : r = row
    · subst h
      simp [(eqv_encT r r).mpr rfl]
    · have h1 : PyData.eqv (encT r) (encT row) = false := by
        cases e : PyData.eqv (encT r) (encT row) with
        | false => rfl
        | true => exact absurd ((eqv_encT _ _).mp e) h
      have h2 : ¬ row = r := fun z => h z.symm
      simp [h1, h2]
theorem o_niRows {k : Nat} {row : List Int} {rows : List (List Int)} (hr : Room (k + 1) X.A) : OpE X (compareOp .NotIn) (sTupl sInt row) (sLst (sTupl sInt) rows) (sBl (!decide (row ∈ rows))) :=
  ⟨_, op_notInD (by have := hr.un; omega), fun B δ O σ G H Q v w st hv hw k => by
    refine ⟨encT row, rows.map encT, dp_up st.stp.gh _ _ (isD_encT row _ _ _ hv), dp_up st.stp.gh _ _ (isD_lst isD_encT _ _ _ hw), ?_, shaped_lst (can_encTs rows) (Nat.le_trans (depth_encTs rows) (by decide)), ?_⟩
    · exact shaped_tup canAll_ints (by rw [depthAll_ints]; decide)
    · rw [any_encT]
      exact k _ G H (Same.refl _) st rfl⟩
end
end Gd

namespace K51
open PySem L2 Gd
abbrev sCarried : Stmt := top 18
abbrev sCheckPatch' : Stmt := sCheckPatch
abbrev sGoes : Stmt := top 29
abbrev sMoved : Stmt := top 30
abbrev sComes : Stmt := top 32
abbrev sTInit : Stmt := inClass (top 33) 0
abbrev sTEq : Stmt := inClass (top 33) 1
abbrev sTBool : Stmt := inClass (top 33) 2
abbrev sCInit : Stmt := inClass (top 34) 0
abbrev sCEq : Stmt := inClass (top 34) 1
abbrev sCBool : Stmt := inClass (top 34) 2
abbrev sTog : Stmt := top 35
abbrev sSide : Stmt := top 36
abbrev sAllT : Stmt := top 37
abbrev sChangesD : Stmt := top 45
abbrev sFitD : Stmt := top 46
abbrev sWeaveD : Stmt := top 47
abbrev sLaw : Stmt := top 48
theorem c_max3 {X : Cx} {a b c : Int} (hc : X.calm = true := by rfl) : CallE X (.builtin "max") [sLst sInt [a, b, c]] (sInt (max (max a b) c)) := by
  refine c_max (m := max (max a b) c) ?_ ?_ hc
  · simp only [List.mem_cons, List.not_mem_nil, or_false]
    omega
  · intro y hy
    simp only [List.mem_cons, List.not_mem_nil, or_false] at hy
    omega
theorem e_eqS {X : Cx} {δ : List (Option Slot)} {O O1 : List Own} {e : Expr} {s s' : Slot} (h : E X δ O e s O1) (hs : s = s') : E X δ O e s' O1 := hs ▸ h
/-! ### drawn edits -/
def carriedV (e o : Ed) : Option Ed :=
  if e.last ≤ o.first ∧ ¬ (e.first = e.last ∧ o.first = o.last ∧ e.first = o.first) then some e
  else if o.last ≤ e.first then some (e.plus o.growth) else none
/-! ### changes compared -/
section
variable {X : Cx}
theorem shaped_ch {c : Ch} (h : okStrs c.words) : SeqAt.shaped (chD c) = true := shaped_tup (by
  show PyData.canLayAll0 [.int c.first, .int c.last, .tuple (c.words.map .str)] = true
  have := can_ch (cs := [c]) (fun d hd => by rw [List.mem_singleton] at hd; subst hd; exact h)
  simpa [PyData.canLayAll0, chD, PyData.canLay0] using this) (by
  have := depth_ch [c]
  simp only [List.map_cons, List.map_nil, PyData.depthAll, chD, PyData.depth] at this ⊢
  omega)
theorem eqv_ch' (a b : Ch) : PyData.eqv (chD a) (chD b) = decide (a = b) := by
  by_cases h : a = b
  · rw [decide_eq_true h]
    exact (eqv_ch a b).mpr h
  · rw [decide_eq_false h]
    cases z : PyData.eqv (chD a) (chD b) with
    | false => rfl
    | true => exact absurd ((eqv_ch a b).mp z) h
theorem o_eqCh1 {k : Nat} (hr : Room k X.A) {a b : Ch} (h1 : okStrs a.words) (h2 : okStrs b.words) : OpE X (compareOp .Eq) (sCh a) (sCh b) (sBl (decide (a = b))) := o_eqD hr (isD_ch a) (isD_ch b) (shaped_ch h1) (shaped_ch h2) (eqv_ch' a b)
theorem any_ch {c : Ch} : ∀ cs : List Ch, ((cs.map chD).any fun z => PyData.eqv z (chD c)) = decide (c ∈ cs)
  | [] => by simp
  | d :: cs => by
    rw [List.map_cons, List.any_cons, any_ch cs, eqv_ch']
    by_cases h : d = c
    · simp [h]
    · have h2 : ¬ c = d := fun z => h z.symm
      simp [h, h2]
theorem op_niT (hu : X.A.units + 65 < cLine) : OpR X (compareOp .NotIn) (fun x y H Q => ∃ d ds, Dp X.K H x d ∧ Dp X.K H y (.tuple ds) ∧ SeqAt.shaped d = true ∧ SeqAt.shaped (.tuple ds) = true ∧ Q (.bl (!ds.any fun z => PyData.eqv z d)) H) := by
  (intro pins s σ H x y v u Q I rx ry h)
  (obtain ⟨d, ds, hd, he, sd, se, q⟩ := h)
  obtain ⟨_, r1⟩ := Dp.reads I d x v hd rx
  obtain ⟨_, r2⟩ := Dp.reads I (.tuple ds) y u he ry
  exact SeqAt.notIn_tuple_reads r2 r1 (SeqAt.canLay_of_shaped se) (SeqAt.canLay_of_shaped sd) (PyProof.Rows.room_in_shaped sd hu) ⟨.bl _, H, I, rfl, q⟩
theorem isD_tup2 {s1 s2 : Slot} {d1 d2 : PyData} (h1 : IsD s1 d1) (h2 : IsD s2 d2) : IsD (sTup [s1, s2]) (.tuple [d1, d2]) := fun K G v q => by
  obtain ⟨p, vs, rfl, hp, r⟩ := q
  obtain ⟨v1, v2, rfl, e1, e2⟩ := alls2 r
  exact .tup hp (.cons (h1 _ _ _ e1) (.cons (h2 _ _ _ e2) .nil))
theorem shaped_ii {a b : Int} : SeqAt.shaped (.tuple [.int a, .int b]) = true := shaped_tup (by simp [PyData.canLayAll0, PyData.canLay0]) (by simp [PyData.depthAll, PyData.depth])
theorem o_niCh {k : Nat} (hr : Room (k + 1) X.A) {c : Ch} {cs : List Ch} (h1 : okStrs c.words) (h2 : ∀ d ∈ cs, okStrs d.words) : OpE X (compareOp .NotIn) (sCh c) (sTupl sCh cs) (sBl (!decide (c ∈ cs))) :=
  ⟨_, op_niT (by have := hr.un; omega), fun B δ O σ G H Q v w st hv hw k => by
    refine ⟨chD c, cs.map chD, dp_up st.stp.gh _ _ (isD_ch c _ _ _ hv), dp_up st.stp.gh _ _ (isD_tupl isD_ch _ _ _ hw), shaped_ch h1, (chsD cs h2).2, ?_⟩
    rw [any_ch]
    exact k _ G H (Same.refl _) st rfl⟩
end
section
variable {P : Program} {w : World} {K : Fg} {mg : Str → Option Value} {base : Heap} {C CP : Addr}
theorem scAdd : FnScope ["self", "many"] ["self", "many"] (defScope sAdd) := ⟨rfl, rfl, rfl, by decide +kernel, rfl, by decide +kernel, by decide +kernel⟩
def fsAdd (C : Addr) : FS (Ed × Int) := { args := fun i => [sEd C i.1, sInt i.2], pre := fun i => i.1.ok ∧ 0 ≤ i.1.first + i.2, res := fun i => sEd C (i.1.plus i.2) }
theorem ok_add {f fI : Addr} {fd : FuncData} (F : Fun K "__add__" "Edit.__add__" sAdd f fd) (b : Binds K fd ["self", "many"] []) (Cc : Cs K mg) (EC : EdC K mg C) (M : Mk K C fI) (FI : DefOk P w K mg base 3 fI [] (fsInit C)) : DefOk P w K mg base 5 f [] (fsAdd C) := by
  refine fn_ok F scAdd b .nil (fun _ => rfl) fun ⟨e, n⟩ cdv A outer s G H D EE hr hp hf hn => ?_
  have hp : e.ok ∧ 0 ≤ e.first + n := hp
  refine j_if (O1 := []) (u := false) (t_eq (t_not (t_val (e_callB (c_isi (n := "int") (k := true) ty_int (kit_ty (by decide +kernel))) Cc.isi (by decide +kernel) (ea_cons (e_name 1) (ea_cons (e_ty "int" Cc.int (by decide +kernel)) ea_nil))))) rfl) (fun h => nomatch h) (fun _ => j_on ?_)
  exact j_ret (O1 := []) (e_edit true M FI hr EC.gC ⟨⟨hp.2, Int.add_le_add_right hp.1.1.2 n⟩, hp.1.2⟩ (ea_cons (e_bin o_add (e_fld 0 EC.cl EC.nF (e_name 0)) (e_name 1)) (ea_cons (e_bin o_add (e_fld 1 EC.cl EC.nL (e_name 0)) (e_name 1)) (ea_cons (e_fld 2 EC.cl EC.nW (e_name 0)) ea_nil)))) (fin_ret hf (fun w hw => hw) fun G v hv => hv)
theorem scCarried : FnScope ["one", "other", "is_same"] ["one", "other"] (defScope sCarried) := ⟨rfl, rfl, rfl, by decide +kernel, rfl, by decide +kernel, by decide +kernel⟩
def fsCarried (C : Addr) : FS (Ed × Ed) := { args := fun i => [sEd C i.1, sEd C i.2], pre := fun i => i.1.ok ∧ i.2.ok, res := fun i => sOpt (sEd C) (carriedV i.1 i.2) }
theorem ok_carried {f fA fG : Addr} {fd : FuncData} (F : Fun K "carried" "carried" sCarried f fd) (b : Binds K fd ["one", "other"] []) (EC : EdC K mg C) (CA : ClsAdd K C fA) (FA : DefOk P w K mg base 5 fA [] (fsAdd C)) (mG : Meth K C "growth" fG) (FG : DefOk P w K mg base 1 fG [] (fsGrowth C)) : DefOk P w K mg base 6 f [] (fsCarried C) := by
  refine fn_ok F scCarried b .nil (fun _ => rfl) fun ⟨e, o⟩ cdv A outer s G H D EE hr hp hf hn => ?_
  have hp : e.ok ∧ o.ok := hp
  (have hr1 : Room 1 _ := hr.mono (by decide))
  refine j_set 2 (O1 := []) (e_and2 (e_cmp o_eq (e_fld 0 EC.cl EC.nF (e_name 0)) (e_fld 1 EC.cl EC.nL (e_name 0))) (e_and2 (e_cmp o_eq (e_fld 0 EC.cl EC.nF (e_name 1)) (e_fld 1 EC.cl EC.nL (e_name 1))) (e_one (e_cmp o_eq (e_fld 0 EC.cl EC.nF (e_name 0)) (e_fld 0 EC.cl EC.nF (e_name 1)))))) ?_ scCarried.nd
  refine j_if (O1 := []) (t_w (tw_and2 (t_cmp o_le (e_fld 1 EC.cl EC.nL (e_name 0)) (e_fld 0 EC.cl EC.nF (e_name 1))) (tw_and1 (t_not (t_val (e_name 2)))))) (fun h => ?_) (fun h => j_on ?_)
  · simp only [Bool.and_eq_true, Bool.not_eq_true', decide_eq_true_eq, Bool.and_eq_false_iff, decide_eq_false_iff_not] at h
    have h' : e.last ≤ o.first ∧ ¬ (e.first = e.last ∧ o.first = o.last ∧ e.first = o.first) := ⟨h.1, fun z => by rcases h.2 with q | q | q <;> simp_all⟩
    refine j_ret (O1 := []) (e_name 0) (fin_ret hf (fun w hw => hw) fun G v hv => ?_)
    show (sOpt (sEd C) (carriedV e o)).ok _ _ _
    unfold carriedV
    rw [if_pos h']
    exact hv
  · have h' : ¬ (e.last ≤ o.first ∧ ¬ (e.first = e.last ∧ o.first = o.last ∧ e.first = o.first)) := by
      rintro ⟨h1, h2⟩
      simp only [h1, decide_true, Bool.true_and, Bool.not_eq_false', Bool.and_eq_true, decide_eq_true_eq] at h
      exact h2 ⟨h.1, h.2.1, h.2.2⟩
    refine j_if (O1 := []) (t_cmp o_le (e_fld 1 EC.cl EC.nL (e_name 1)) (e_fld 0 EC.cl EC.nF (e_name 0))) (fun h2 => ?_) (fun h2 => j_on ?_)
    · have h2 : o.last ≤ e.first := by simpa using h2
      have hg : 0 ≤ e.first + o.growth := by
        unfold Ed.growth
        have := hp.2.1.1
        omega
      refine j_ret (O1 := []) (e_bin (s3 := sEd C (e.plus o.growth)) (o_addO (S := fsAdd C) (e, o.growth) CA FA hr ⟨hp.1, hg⟩ rfl rfl (fun K G v u => ins_ni)) (e_name 0) (e_meth0 (S := fsGrowth C) (O2 := []) o FG hr1 EC.cl mG (e_name 1) trivial)) (fin_ret hf (fun w hw => hw) fun G v hv => ?_)
      show (sOpt (sEd C) (carriedV e o)).ok _ _ _
      unfold carriedV
      rw [if_neg h', if_pos h2]
      exact hv
    · have h2 : ¬ o.last ≤ e.first := by simpa using h2
      refine j_ret (O1 := []) e_non (fin_ret hf (fun w hw => hw) fun G v hv => ?_)
      show (sOpt (sEd C) (carriedV e o)).ok _ _ _
      unfold carriedV
      rw [if_neg h', if_neg h2]
      exact hv
theorem scCheckPatch : FnScope ["thing"] ["thing"] (defScope sCheckPatch) := ⟨rfl, rfl, rfl, by decide +kernel, rfl, by decide +kernel, by decide +kernel⟩
def fsCheckPatch (CP : Addr) : FS Pa := { args := fun p => [sPa CP p], pre := fun _ => True, res := fun _ => sNon }
theorem ok_checkPatch {f : Addr} {fd : FuncData} (F : Fun K "check_patch" "check_patch" sCheckPatch f fd) (b : Binds K fd ["thing"] []) (Cc : Cs K mg) (PC : PaC K mg CP) (CI : ClsI K CP) : DefOk P w K mg base 1 f [] (fsCheckPatch CP) := by
  refine fn_ok F scCheckPatch b .nil (fun _ => rfl) fun p cdv A outer s G H D EE hr hp hf hn => ?_
  refine j_if (O1 := []) (u := false) (t_eq (t_not (t_val (e_callB (c_isiC (k := true) (ty_ins CI) kit_self) Cc.isi (by decide +kernel) (ea_cons (e_name 0) (ea_cons (e_gref PC.gP) ea_nil))))) rfl) (fun h => nomatch h) (fun _ => j_on ?_)
  exact fin_end hf hn fun w hw => hw
theorem scBehind : FnScope ["one", "other", "whole"] ["one", "other"] (defScope sBehind) := ⟨rfl, rfl, rfl, by decide +kernel, rfl, by decide +kernel, by decide +kernel⟩
structure BehOk (i : Pa × Pa) : Prop where
  one : i.1.ok
  other : i.2.ok
  p : PatchOk (i.1.changes.reverse ++ i.2.changes.reverse)
  ok : (behindV i.1 i.2).ok
def fsBehind (CP : Addr) : FS (Pa × Pa) := { args := fun i => [sPa CP i.1, sPa CP i.2], pre := BehOk, res := fun i => sPa CP (behindV i.1 i.2) }
theorem ok_behind {f fK fP fE fG fI : Addr} {fd : FuncData} (F : Fun K "behind" "behind" sBehind f fd) (b : Binds K fd ["one", "other"] []) (zm : mg "max" = none) (PC : PaC K mg CP) (gK : mg "check_patch" = some (.ref fK)) (FK : DefOk P w K mg base 1 fK [] (fsCheckPatch CP)) (gF : mg "patch" = some (.ref fP)) (FP : DefOk P w K mg base 6 fP [] (fsPatch C CP))
    (mE : Meth K CP "edits" fE) (FE : DefOk P w K mg base 5 fE [] (fsPEdits C CP)) (mG : Meth K CP "growth" fG) (FG : DefOk P w K mg base 2 fG [] (fsPGrowth CP)) (MP : Mk K CP fI) (FI : DefOk P w K mg base 4 fI [] (fsPInit CP)) : DefOk P w K mg base 7 f [] (fsBehind CP) := by
  refine fn_ok F scBehind b .nil (fun _ => rfl) fun ⟨p, q⟩ cdv A outer s G H D EE hr hp hf hn => ?_
  have hp : BehOk (p, q) := hp
  have hr6 : Room 6 _ := hr
  have hr5 : Room 5 _ := hr.mono (by decide)
  (have hr2 : Room 2 _ := hr.mono (by decide))
  (have hr1 : Room 1 _ := hr.mono (by decide))
  refine j_expr (O1 := []) (e_call (O2 := []) (S := fsCheckPatch CP) p FK hr1 gK (ea_cons (e_name 0) ea_nil) trivial) ?_
  refine j_expr (O1 := []) (e_call (O2 := []) (S := fsCheckPatch CP) q FK hr1 gK (ea_cons (e_name 1) ea_nil) trivial) ?_
  have n1 := hp.one.2.1
  have n2 := hp.other.2.1
  have n1 : p.changes.length ≤ 1000 := n1
  have n2 : q.changes.length ≤ 1000 := n2
  refine j_set 2 (O1 := []) (s := sPa CP (patchV (p.changes.reverse ++ q.changes.reverse))) (e_call (S := fsPatch C CP) (O2 := []) (false, p.changes.reverse ++ q.changes.reverse) FP hr6 gF (ea_cons (s := sLst (sEd C) (p.changes.reverse ++ q.changes.reverse)) (e_lst (ew_lst ?_ (szl (by rw [List.length_append, List.length_reverse, List.length_reverse]; omega)))) ea_nil) (by exact hp.p)) ?_ scBehind.nd
  · rw [← List.append_nil q.changes.reverse]
    exact el_star (e_meth0 (S := fsPEdits C CP) (O2 := []) p FE hr5 PC.cl mE (e_name 0) (by exact hp.one)) (el_star (e_meth0 (S := fsPEdits C CP) (O2 := []) q FE hr5 PC.cl mE (e_name 1) (by exact hp.other)) el_nil)
  refine j_ret (O1 := []) (s := sPa CP (behindV p q)) (e_patch (behindV p q) MP FI hr5 PC.gP hp.ok (ea_cons (e_fld 0 PC.cl PC.nC (e_name 2)) (ea_cons (e_callB c_max3 zm (by decide +kernel) (ea_cons (e_lst (ew_lst (R := sInt) (el_cons (e_fld 1 PC.cl PC.nL (e_name 2)) (el_cons (e_fld 1 PC.cl PC.nL (e_name 0)) (el_cons (e_bin o_sub (e_fld 1 PC.cl PC.nL (e_name 1)) (e_meth0 (S := fsPGrowth CP) (O2 := []) p FG hr2 PC.cl mG (e_name 0) (by exact n1))) el_nil))) (szl (by simp)))) ea_nil)) ea_nil))) (fin_ret hf (fun w hw => hw) fun G v hv => hv)

theorem scGoes : FnScope ["one", "other"] ["one", "other"] (defScope sGoes) := ⟨rfl, rfl, rfl, by decide +kernel, rfl, by decide +kernel, by decide +kernel⟩
def fsGoes : FS (Ch × Ch) := { args := fun i => [sCh i.1, sCh i.2], pre := fun i => okStrs i.1.words ∧ okStrs i.2.words, res := fun i => sBl (fitC i.1 i.2) }
theorem ok_goes {f : Addr} {fd : FuncData} (F : Fun K "goes_with" "goes_with" sGoes f fd) (b : Binds K fd ["one", "other"] []) : DefOk P w K mg base 1 f [] fsGoes := by
  refine fn_ok F scGoes b .nil (fun _ => rfl) fun ⟨x, y⟩ cdv A outer s G H D EE hr hp hf hn => ?_
  have hp : okStrs x.words ∧ okStrs y.words := hp
  refine j_if (O1 := []) (t_cmp (s1 := sCh x) (s2 := sCh y) (o_eqCh1 (k := 0) hr hp.1 hp.2) (e_name 0) (e_name 1)) (fun h => ?_) (fun h => j_on ?_)
  · have h : x = y := of_decide_eq_true h
    refine j_ret (O1 := []) (s := sBl true) e_bl (fin_ret hf (fun w hw => hw) fun G v hv => ?_)
    show (sBl (fitC x y)).ok _ _ _
    unfold fitC
    rw [if_pos h]
    exact hv
  have h : ¬ x = y := of_decide_eq_false h
  refine j_if (O1 := []) (u := decide (x.first = x.last) && decide (y.first = y.last)) (t_w (tw_and2 (t_cmp (s1 := sInt x.first) (s2 := sInt x.last) o_eq (e_ix (i_tup (ss := [sInt x.first, sInt x.last, sTupl sStr x.words]) 0 rfl rfl) (e_name 0) e_int) (e_ix (i_tup (ss := [sInt x.first, sInt x.last, sTupl sStr x.words]) 1 rfl rfl) (e_name 0) e_int)) (tw_and1 (t_cmp (s1 := sInt y.first) (s2 := sInt y.last) o_eq (e_ix (i_tup (ss := [sInt y.first, sInt y.last, sTupl sStr y.words]) 0 rfl rfl) (e_name 1) e_int) (e_ix (i_tup (ss := [sInt y.first, sInt y.last, sTupl sStr y.words]) 1 rfl rfl) (e_name 1) e_int))))) (fun h2 => ?_) (fun h2 => j_on ?_)
  · have h2 : x.first = x.last ∧ y.first = y.last := by simpa using h2
    refine j_ret (O1 := []) (s := sBl (!decide (x.first = y.first))) (e_cmp (s1 := sInt x.first) (s2 := sInt y.first) o_ne (e_ix (i_tup (ss := [sInt x.first, sInt x.last, sTupl sStr x.words]) 0 rfl rfl) (e_name 0) e_int) (e_ix (i_tup (ss := [sInt y.first, sInt y.last, sTupl sStr y.words]) 0 rfl rfl) (e_name 1) e_int)) (fin_ret hf (fun w hw => hw) fun G v hv => ?_)
    show (sBl (fitC x y)).ok _ _ _
    unfold fitC
    rw [if_neg h, if_pos h2]
    exact hv
  · have h2 : ¬ (x.first = x.last ∧ y.first = y.last) := by simpa using h2
    refine j_ret (O1 := []) (s := sBl (decide (x.last ≤ y.first) || decide (y.last ≤ x.first))) (e_or2 (e_cmp (s1 := sInt x.last) (s2 := sInt y.first) o_le (e_ix (i_tup (ss := [sInt x.first, sInt x.last, sTupl sStr x.words]) 1 rfl rfl) (e_name 0) e_int) (e_ix (i_tup (ss := [sInt y.first, sInt y.last, sTupl sStr y.words]) 0 rfl rfl) (e_name 1) e_int)) (e_one (e_cmp (s1 := sInt y.last) (s2 := sInt x.first) o_le (e_ix (i_tup (ss := [sInt y.first, sInt y.last, sTupl sStr y.words]) 1 rfl rfl) (e_name 1) e_int) (e_ix (i_tup (ss := [sInt x.first, sInt x.last, sTupl sStr x.words]) 0 rfl rfl) (e_name 0) e_int)))) (fin_ret hf (fun w hw => hw) fun G v hv => ?_)
    show (sBl (fitC x y)).ok _ _ _
    unfold fitC
    rw [if_neg h, if_neg h2]
    exact hv
theorem scComes : FnScope ["change", "stretch", "start", "end", "new"] ["change", "stretch"] (defScope sComes) := ⟨rfl, rfl, rfl, by decide +kernel, rfl, by decide +kernel, by decide +kernel⟩
def fsComes : FS (Ch × Ch) := { args := fun i => [sCh i.1, sTup [sInt i.2.first, sInt i.2.last]], pre := fun i => True, res := fun i => sBl (aheadC i.1 i.2) }
theorem isD_tup2' {a b : Int} : IsD (sTup [sInt a, sInt b]) (.tuple [.int a, .int b]) := isD_tup2 isD_int isD_int
theorem ok_comes {f : Addr} {fd : FuncData} (F : Fun K "comes_ahead" "comes_ahead" sComes f fd) (b : Binds K fd ["change", "stretch"] []) : DefOk P w K mg base 1 f [] fsComes := by
  refine fn_ok F scComes b .nil (fun _ => rfl) fun ⟨d, c⟩ cdv A outer s G H D EE hr hp hf hn => ?_
  refine j_asgT (O1 := []) (R := sCh) (y := d) (tg_tup3 (r1 := fun c : Ch => sInt c.first) (r2 := fun c : Ch => sInt c.last) (r3 := fun c : Ch => sTupl sStr c.words) 2 3 4 scComes.nd) (e_name 0) ?_
  refine j_ret (O1 := []) (s := sBl (aheadC d c)) (e_and2 (e_cmp (s1 := sInt d.last) (s2 := sInt c.first) o_le (e_name 3) (e_ix (i_tup (ss := [sInt c.first, sInt c.last]) 0 rfl rfl) (e_name 1) e_int)) (e_one (e_cmp (s1 := sTup [sInt d.first, sInt d.last]) (s2 := sTup [sInt c.first, sInt c.last]) (o_neD (k := 0) (w := decide (d.first = c.first ∧ d.last = c.last)) hr isD_tup2' isD_tup2' shaped_ii shaped_ii (by simp [PyData.eqv, PyData.eqvAll, Bool.beq_eq_decide_eq])) (e_tup (ea_cons (e_name 2) (ea_cons (e_name 3) ea_nil)) (szl (by simp))) (e_name 1)))) (fin_ret hf (fun w hw => hw) fun G v hv => hv)
end
end K51

/-! enumerate(a tuple) -/
namespace Gd
open PySem PySem.Spec PyProof.Rows L2
open AutoSeq1 (wpAny_loadPart')
/-- enumerate's __new__ on what begins so -/
theorem meets_enumB {v : Value} {o : Obj} {Hh : Heap → Prop} (B : Begins v o Hh) : Meets (Builtin.«enumerate.__new__» ⟨[.type "enumerate", v], []⟩) (fun _ R s => Hh s.heap ∧
      R (.ok (.ret (.ref (s.heap.push o).objs.size))) { s with heap := (s.heap.push o).push { cls := .type "enumerate", data := .fields #[.none, .bool false, .ref s.heap.objs.size, rawInt 0, .none, .none] } }) :=
  .of_wp fun prog w A R s h => by -- -
    (obtain ⟨hp, g, d, tk, os⟩ := s)
    obtain ⟨h1, h⟩ := h
    have hsub := sub_enumerate
    have q1 : ∀ {A' : Around} {E : Value → Shared → Prop} {Q : Value → Shared → Prop}, Q (.ref hp.objs.size) ⟨hp.push o, g, d, tk, os⟩ → wpAny (model prog w) A' (pyIter v) Q E ⟨hp, g, d, tk, os⟩ := fun q => B.iter prog w _ _ ⟨hp, g, d, tk, os⟩ _ h1 q
    wp_walk using q1
    (refine wpAny_stack_any fun st => wpAny_pure ?_)
    split
    · rename_i c _ _ _ _ _
      cases (c == Value.type "enumerate") <;> (wp_walk using q1; exact ⟨_, rfl, h⟩)
    · wp_walk using q1
      exact ⟨_, rfl, h⟩
section
variable {prog : Program} {w : World} {A : Around} {E : Value → Shared → Prop} {s : Shared}
theorem call_enumT {l : Addr} {items : Array Value} {Q : Value → Shared → Prop} (hL : s.heap.IsTuple l items)
    (h : ∀ h', IsEnum h' (s.heap.objs.size + 1) s.heap.objs.size 0 .none → h'.IsTupleIter s.heap.objs.size l 0 → h'.objs.size = s.heap.objs.size + 2 → (∀ b o, s.heap.get? b = some o → h'.get? b = some o) → Q (.ref (s.heap.objs.size + 1)) { s with heap := h' }) : wpAny (model prog w) A (call (.type "enumerate") [.ref l]) Q E s := by
  obtain ⟨o, ho⟩ : ∃ o : Obj, o = { cls := .type "tuple_iterator", data := .fields #[.ref l, .int 0 0] } := ⟨_, rfl⟩
  have B : Begins (.ref l) o (fun h => h.IsTuple l items) := by
    subst ho
    exact { iter := fun prog w A E s Q h1 q => wpAny_pyIter_tuple h1 q, keeps := fun h h' x hk => x.at fun o e => hk l o e, free := rfl }
  have hfr : o.isFreed = false := by subst ho; rfl
  refine callType_new PySem.F.called_enumerate (by decide) (PySem.F.typeCall_enumerate_1 _) (PySem.F.newCall_enumerate_1 _) (fun obj => PySem.F.args_object_init_2 obj _) PySem.F.entry_enumerate_new (meets_enumB B) ⟨hL, ?_⟩
  (have hz : (s.heap.push o).objs.size = s.heap.objs.size + 1 := Heap.size_push ..)
  show _ ∧ _
  rw [hz]
  have he : IsEnum ((s.heap.push o).push { cls := .type "enumerate", data := .fields #[.none, .bool false, .ref s.heap.objs.size, rawInt 0, .none, .none] }) (s.heap.objs.size + 1) s.heap.objs.size 0 .none := by
    have := Heap.get?_push_size (s.heap.push o) (o := { cls := .type "enumerate", data := .fields #[.none, .bool false, .ref s.heap.objs.size, rawInt 0, .none, .none] }) rfl
    rw [hz] at this
    exact this
  refine ⟨⟨_, he, rfl⟩, h _ he ⟨o, Heap.get?_push_of_some _ (Heap.get?_push_size _ hfr), ?_, ?_⟩ (by rw [Heap.size_push, hz]) fun b o x => Heap.get?_push_of_some _ (Heap.get?_push_of_some _ x)⟩
  · subst ho; rfl
  · subst ho; rfl
end
/-- the tuple at a, each item in a new pair -/
def IteT (K : PySem.W.Frag) (a : Addr) : It :=
  ⟨fun i H => ∃ (xs : List V) (x : V), SqT K H a xs ∧ xs[i]? = some x, fun i H v H' => ∃ T x, v = .ref T ∧ H T = none ∧ H' = upd H T (.tup [.int (i : Nat), x]) ∧ ∀ xs, SqT K H a xs → xs[i]? = some x, fun i H => ∃ xs : List V, SqT K H a xs ∧ xs.length ≤ i⟩
theorem turn_enumT {P : Program} {w : World} {K : PySem.W.Frag} {elts : List Expr} {kk : Nat} {tpos : Pos} (a e it : Addr) :
    Turn P w K (.Tuple elts kk tpos) (IteT K a) [e, it] e (fun i h => (∃ old, IsEnum h e it ((i : Nat) : Int) old) ∧ h.IsTupleIter it a i ∧ e ≠ it) where
  mem := by simp
  obj := fun i h st b hb => by
    (obtain ⟨⟨old, he⟩, ⟨o, ho, hc, hd⟩, _⟩ := st)
    (have e' : b = e ∨ b = it := by simpa using hb)
    rcases e' with z | z
    · (rw [z]; exact ⟨_, he, fun v q => nomatch q⟩)
    · (rw [z]; exact ⟨o, ho, fun v q => by rw [hd] at q; cases q⟩)
  keep := fun i h h' st k => let ⟨⟨old, he⟩, hi, hne⟩ := st; ⟨⟨old, k e (by simp) _ he⟩, hi.at fun o q => k it (by simp) o q, hne⟩ -- -
  item := by
    (intro X hP hw hK hc i pins s σ H E I hf st hg)
    subst hP hw hK
    (obtain ⟨⟨old, he⟩, hit, hne⟩ := st)
    obtain ⟨xs, x, hq, hx⟩ := hg
    (obtain ⟨its, rv, p, hz⟩ := I.tuple hq)
    (obtain ⟨u, hu, ru⟩ := rv.get hx)
    (have hel : e < s.heap.objs.size := Heap.lt_size he)
    (have hil : it < s.heap.objs.size := by obtain ⟨_, q, _⟩ := hit; exact Heap.lt_size q)
    have hT : s.heap.IsTuple a its.toArray := p
    have hai : a ≠ it := by
      rintro rfl
      obtain ⟨o1, g1, g2, _⟩ := hit
      obtain ⟨o2, k1, k2, _⟩ := hT
      rw [g1] at k1
      cases k1
      rw [g2] at k2
      exact absurd (Value.type.inj k2) (by decide)
    have hae : a ≠ e := by
      rintro rfl
      obtain ⟨o2, k1, k2, _⟩ := hT
      rw [show s.heap.get? a = _ from he] at k1
      cases k1
      exact absurd (Value.type.inj k2) (by decide)
    have hlt : i < its.toArray.size := by
      have := (List.getElem?_eq_some_iff.mp hu).1
      simpa using this
    refine wpAny_pyNext_enum_itemD (Draws.tuple (A := X.A.in1) (by have := I.ok.hd hc; simpa using this) it a hai its.toArray) he ⟨hit, hT⟩ hlt hne (by simp; exact ⟨hne, fun z => hae z.symm⟩) fun y h' tk hy ho hst hTu hsz hk => ?_
    have hy : y = u := by
      have h1 : its.toArray[i]? = some u := by simpa using hu
      rw [h1] at hy
      exact (Option.some.inj hy).symm
    subst hy
    refine ⟨_, rfl, wpAny_letOwnedTupleGo_enum (s := { s with heap := h', toks := tk + 1 }) ho fun h'' he' sb => ?_⟩
    have hT2 : h''.get? s.heap.objs.size = some { cls := .type "tuple", data := .seq #[.int i tk, y] } := (sb.2 _ (Nat.ne_of_gt hel)).trans hTu
    have new : ObjOk X.prog X.w (upd H s.heap.objs.size (.tup [.int (i : Nat), x])) h'' s.heap.objs.size (.tup [.int (i : Nat), x]) := -- -
      ⟨by show 2 ≤ sizeLine; decide, [.int i tk, y], .cons ⟨_, rfl⟩ (.cons ru .nil), ⟨_, hT2, rfl, _, rfl⟩⟩
    have I1 : Inv X pins σ (upd H s.heap.objs.size (.tup [.int (i : Nat), x])) { s with heap := h'', toks := tk + 1 } :=
      I.turnedNew (ch := [e, it]) (fun b ob hb q => (sb.2 b (fun z => hb (by simp [z]))).trans (hk b ob (fun z => hb (by simp [z])) (fun z => hb (by simp [z])) q)) hf (Nat.le_refl _) new -- -
    refine ⟨.ref s.heap.objs.size, _, I1, rfl, ⟨_, x, rfl, I.hok.fresh (Nat.le_refl _), rfl, fun ys hy => by rw [I.tuple_inj hy hq]; exact hx⟩, ⟨⟨y, ?_⟩, hst.1.at fun o q => (sb.2 it (Ne.symm hne)).trans q, hne⟩, fun b hb => ?_⟩
    · (have e1 : ((i + 1 : Nat) : Int) = (i : Int) + 1 := by omega)
      rw [e1]; exact he'
    · have hb' : b < s.heap.objs.size := by -- -
        (have e' : b = e ∨ b = it := by simpa using hb)
        rcases e' with z | z
        · rw [z]; exact hel
        · rw [z]; exact hil
      (rw [upd_ne (Nat.ne_of_lt hb')])
      exact (hf b hb).1
  done := by
    (intro X hP hw hK hc i pins s σ H E I hf st hg)
    subst hP hw hK
    (obtain ⟨⟨old, he⟩, hit, hne⟩ := st)
    obtain ⟨xs, hq, hx⟩ := hg
    (obtain ⟨its, rv, p, hz⟩ := I.tuple hq)
    (obtain ⟨f0, f1, f2, f3, f4, f5⟩ := hf it (by simp))
    have hl := rv.length
    have hT : s.heap.IsTuple a its.toArray := p
    have hai : a ≠ it := by
      rintro rfl
      obtain ⟨o1, g1, g2, _⟩ := hit
      obtain ⟨o2, k1, k2, _⟩ := hT
      rw [g1] at k1
      cases k1
      rw [g2] at k2
      exact absurd (Value.type.inj k2) (by decide)
    unfold pyNext
    (have hTy : s.TypeIs (.ref e) "enumerate" := ⟨_, he, rfl⟩)
    refine wpAny_bind (wpAny_attempt (wpAny_callSpecial?_slot (name := Str.ofString "__next__") hTy PySem.F.slot_enumerate_next (wpAny_call_entry PySem.F.slot_enumerate_next hTy PySem.F.entry_enumerate_next ?_ (PySem.F.args_enumerate_next_1 _))))
    (show wpAny _ _ (field (.ref e) 2 >>= _) _ _ _)
    (refine wpAny_bind (wpAny_field he rfl (x := .ref it) rfl ?_))
    refine wpAny_bind (wpAny_nextOf_tuple_end (by have := I.ok.hd hc; simpa using this) hit hT (by simp; omega) fun h' x he' hx' => ?_)
    obtain ⟨o, ho, hc'⟩ := hx'
    refine wpAny_bind (wpAny_isInstance (T := "StopIteration") (b := true) ⟨o, ho, hc'⟩ isSubtype_stop ?_)
    exact wpAny_pure ⟨rfl, I.turned (t' := s.toks) (fun b o hb q => he' b o hb q) f0 f1 f3 f4 f5⟩
  self := fun A i s Q E st h => let ⟨⟨_, he⟩, _⟩ := st; wpAny_pyIter_enum he h -- -
def iEnumT (K : PySem.W.Frag) (ta : TA) : TI := fun σ H R => ta σ H fun vs H1 => ∃ a xs, vs = [.ref a] ∧ SqT K H1 a xs ∧ R (IteT K a) H1
theorem pi_enumT {X : Cx} {e : Expr} {ta : TA} {p pos tpos : Pos} {elts : List Expr} {kk : Nat} (hg : Gl X "enumerate") (hm : X.mg "enumerate" = none) (ha : PA X [e] ta) (hs : starEach [e] X.env = [(false, eval e X.env)] := by rfl) :
    PI X (.Tuple elts kk tpos) (.Call (.Name "enumerate" p) [e] [] pos) (iEnumT X.K ta) := by
  (refine ⟨fun pins s σ H R I h => ?_⟩)
  (refine Call_ (ld_blt I hg hm boot_enumerate (PyProof.Rows.callWith_type1 (thn (ha.run pos pins s σ H _ I h) fun us s1 ⟨vs, H1, I1, r1, q1⟩ => ?_) hs rfl)))
  (obtain ⟨a, xs, ex, hq, q⟩ := q1)
  subst ex
  cases r1 with
  | cons r rr =>
    cases rr
    cases r
    obtain ⟨its, rv, p', hz⟩ := I1.tuple hq
    refine call_enumT (show s1.heap.IsTuple a its.toArray from p') fun h' he hit hsz hk => wpAny_pyIter_enum he ?_
    (have I2 : Inv X pins σ H1 { s1 with heap := h' } := I1.kept (t' := s1.toks) hk)
    refine ⟨s1.heap.objs.size + 1, [s1.heap.objs.size + 1, s1.heap.objs.size], _, _, H1, rfl, I2, turn_enumT a (s1.heap.objs.size + 1) s1.heap.objs.size, ⟨⟨.none, he⟩, hit, Nat.succ_ne_self _⟩, fun b hb => ?_, q⟩
    (have e' : b = s1.heap.objs.size + 1 ∨ b = s1.heap.objs.size := by simpa using hb)
    have hle : s1.heap.objs.size ≤ b := by -- -
      rcases e' with z | z
      · (rw [z]; exact Nat.le_add_right _ _)
      · rw [z]; exact Nat.le_refl _
    (exact I1.fpOk hle (I1.hok.fresh hle))
section
variable {X : Cx} {δ : List (Option Slot)} {O O1 : List Own} {e : Expr} {p pos : Pos} {α : Type} {R : α → Slot} {as : List α}
theorem it_enumT {elts : List Expr} {kk : Nat} {tpos : Pos} (hm : X.mg "enumerate" = none) (h : E X δ O e (sTupl R as) O1) (hg : Gl X "enumerate" := by rfl) (hs : noStar e = true := by rfl) :
    IT X δ O (.Tuple elts kk tpos) (.Call (.Name "enumerate" p) [e] [] pos) (fun y : α × Nat => sTup [sInt (y.2 : Nat), R y.1]) as.zipIdx O1 :=
  ⟨_, pi_enumT hg hm (pa_cons pe_w pa_nil (starEach_plain hs)) (starEach_plain hs), fun B σ G H Q st k => h B σ G H _ st fun v G1 H1 m1 st1 hv => by
    obtain ⟨q, vs, rfl, hp, r⟩ := hv
    refine ⟨q, vs, rfl, sqT_up st1.stp.gh hp, k _ G1 H1 m1 st1 fun B' δ' O' σ' G' H' i e st' => ⟨fun y hy => ?_, fun hi => ?_⟩⟩
    · have hy2 : as[i]? = some y.1 ∧ y.2 = i := by
        rw [List.getElem?_zipIdx] at hy
        cases z : as[i]? with
        | none => rw [z] at hy; cases hy
        | some w => rw [z] at hy; cases hy; exact ⟨rfl, by simp⟩
      obtain ⟨w, hw, hr⟩ := r.get hy2.1
      have hq : SqT X.K H' q vs := sqT_up st'.stp.gh (sqT_mono e hp)
      refine ⟨⟨vs, w, hq, hw⟩, fun v H'' hy' => ?_⟩
      obtain ⟨T, x, rfl, hT, rfl, hx⟩ := hy'
      have hx := hx vs hq
      rw [hw] at hx
      cases hx
      have sg : Same G' (upd G' T (.tup [.int i, w])) := same_new (gnone st'.stp hT)
      refine ⟨_, sg, st'.freshG hT, T, _, rfl, SqT.of upd_same, .cons ?_ (.cons ((R y.1).mono sg ((R y.1).mono e hr)) .nil)⟩
      rw [hy2.2]
      rfl
    · exact ⟨vs, sqT_up st'.stp.gh (sqT_mono e hp), by rw [r.length]; rw [List.length_zipIdx] at hi; exact hi⟩⟩
end
end Gd

namespace K51
open PySem L2 Gd
abbrev movedN : List Str := ["changes", "others", "found", "first", "last", "words", "more", "change"]
section
variable {P : Program} {w : World} {K : Fg} {mg : Str → Option Value} {base : Heap} {C CP CT CC : Addr}
theorem scMoved : FnScope movedN ["changes", "others"] (defScope sMoved) := ⟨rfl, rfl, rfl, by decide +kernel, rfl, by decide +kernel, by decide +kernel⟩
structure SmallC (A : List Ch) : Prop where
  str : ∀ c ∈ A, okStrs c.words
  few : A.length ≤ 1000
  sum : wsum A ≤ 1000
def fsMoved : FS (List Ch × List Ch) := { args := fun i => [sTupl sCh i.1, sTupl sCh i.2], pre := fun i => SmallC i.1 ∧ SmallC i.2, res := fun i => sTupl sCh (movedV i.1 i.2) }
def rawM (A B : List Ch) : List Ch := (A.filter fun c => !decide (c ∈ B)).map fun c => shiftC (moreC B c) c
theorem rawM_succ {A B : List Ch} {n : Nat} {c : Ch} (h : A[n]? = some c) : rawM (A.take (n + 1)) B = if c ∈ B then rawM (A.take n) B else rawM (A.take n) B ++ [shiftC (moreC B c) c] := by
  unfold rawM
  rw [take_succ h, List.filter_append, List.map_append]
  split
  · rename_i z
    simp [z]
  · rename_i z
    simp [z]
theorem rawM_small {A B : List Ch} (h : SmallC A) : SmallC (rawM A B) where
  str c hc := by
    obtain ⟨d, hd, rfl⟩ := List.mem_map.mp hc
    exact h.str d (List.mem_filter.mp hd).1
  few := by
    unfold rawM
    rw [List.length_map]
    exact Nat.le_trans (List.length_filter_le _ _) h.few
  sum := by
    have e : wsum (rawM A B) = wsum (A.filter fun c => !decide (c ∈ B)) := by
      unfold wsum rawM
      rw [List.map_map]
      rfl
    rw [e]
    exact Nat.le_trans (wsum_filter _ _) h.sum
theorem SmallC.take {A : List Ch} (h : SmallC A) (n : Nat) : SmallC (A.take n) where
  str c hc := h.str c (List.mem_of_mem_take hc)
  few := Nat.le_trans (by rw [List.length_take]; omega) h.few
  sum := by
    have := h.sum
    have e : wsum A = wsum (A.take n) + wsum (A.drop n) := by rw [← wsum_append, List.take_append_drop]
    omega
theorem ok_moved {f fG fA fJ : Addr} {fd : FuncData} (F : Fun K "moved" "moved" sMoved f fd) (b : Binds K fd ["changes", "others"] []) (zs : mg "sum" = none) (gG : mg "growth_of" = some (.ref fG)) (FG : DefOk P w K mg base 1 fG [] fsGrowthOf) (gA : mg "comes_ahead" = some (.ref fA)) (FA : DefOk P w K mg base 1 fA [] fsComes)
    (gJ : mg "joined" = some (.ref fJ)) (FJ : DefOk P w K mg base 1 fJ [] fsJoined) : DefOk P w K mg base 2 f [] fsMoved := by
  refine fn_ok F scMoved b .nil (fun _ => rfl) fun ⟨A0, B0⟩ cdv A outer s G H D EE hr hp hf hn => ?_
  obtain ⟨hA, hB⟩ := (show SmallC A0 ∧ SmallC B0 from hp)
  have hr1 : Room 1 _ := hr
  refine j_setW (O1 := []) 2 (ew_lst (R := sCh) (as := []) el_nil (szl (by simp))) (fun fr hfr => ?_) scMoved.nd
  refine j_for (O1 := [oLst fr sCh []]) (R := sCh) (as := A0) (fun n (g : Nat) => g = n) (fun _ => [some (sTupl sCh A0), some (sTupl sCh B0), some (sRef fr), none, none, none, none, none]) (fun g => [oLst fr sCh (rawM (A0.take g) B0)]) (fun c => [(3, sInt c.first), (4, sInt c.last), (5, sTupl sStr c.words)])
    (it_tupl (e_name 0)) (tg_tup3 (r1 := fun c : Ch => sInt c.first) (r2 := fun c : Ch => sInt c.last) (r3 := fun c : Ch => sTupl sStr c.words) 3 4 5 scMoved.nd) ⟨0, rfl, fun _ _ _ _ h => h⟩ ?_ ?_
  · rintro B1 n c g hB1 hy rfl
    have hm : c ∈ A0 := List.mem_of_getElem? hy
    have nx := rawM_succ (B := B0) hy
    have hl := (rawM_small (B := B0) (hA.take g)).few
    refine j_if (O1 := [oLst fr sCh (rawM (A0.take g) B0)]) (u := !decide (c ∈ B0)) (t_cmp (s1 := sCh c) (s2 := sTupl sCh B0) (o_niCh (k := 0) hr1 (hA.str c hm) hB.str) (e_tup (ea_cons (e_name 3) (ea_cons (e_name 4) (ea_cons (e_name 5) ea_nil))) (szl (by simp))) (e_name 1)) (fun h => ?_) (fun h => j_on (j_nil fun σ G H st => ⟨_, G, rfl, ?_⟩))
    · have h : ¬ c ∈ B0 := by simpa using h
      rw [if_neg h] at nx
      refine j_set 6 (O1 := [oLst fr sCh (rawM (A0.take g) B0)]) (s := sInt (moreC B0 c)) (e_callB c_sum zs (by decide +kernel) (ea_cons (e_lst (ew_filter (R := sCh) (S := sInt) (as := B0) 7 (fun d => aheadC d c) Ed.growth scMoved.nd (it_tupl (e_name 1)) (blkOk_by (own := [("change", 7)]) (N := movedN) (sc := defScope sMoved) (by decide +kernel))
        (fun y hy s H _ cl fp => t_val (e_callR (s := sBl (aheadC y c)) (S := fsComes) (O2 := [oLst fr sCh (rawM (A0.take g) B0)]) (y, c) FA hr1 gA (ea_cons (e_name 7) (ea_cons (e_tup (ss := [sInt c.first, sInt c.last]) (ea_cons (e_name 3) (ea_cons (e_name 4) ea_nil)) (szl (by simp))) ea_nil)) trivial))
        (fun y hy _ s H _ cl fp => e_callR (S := fsGrowthOf) (O2 := [oLst fr sCh (rawM (A0.take g) B0)]) y FG hr1 gG (ea_cons (e_name 7) ea_nil) trivial) (szl (Nat.le_trans hB.few (by decide))))) ea_nil)) ?_ scMoved.nd
      refine j_expr (e_append (q := fr) (as := rawM (A0.take g) B0) (R := sCh) (y := shiftC (moreC B0 c) c) 0 (e_name 2) (e_tup (ea_cons (e_bin o_add (e_name 3) (e_name 6)) (ea_cons (e_bin o_add (e_name 4) (e_name 6)) (ea_cons (e_name 5) ea_nil))) (szl (by simp))) (Nat.lt_of_le_of_lt hl (by decide))) (j_on (j_nil fun σ G H st => ⟨_, G, rfl, ?_⟩))
      dsimp only
      rw [nx]
      exact st.wk (.same (.same (.same (.skip (.skip (.skip (.skip (.same .nil))))))))
    · have h : c ∈ B0 := by simpa using h
      rw [if_pos h] at nx
      dsimp only
      rw [nx]
      exact st.wk (.same (.same (.same (.skip (.skip (.skip (.same (.same .nil))))))))
  · rintro g rfl
    have hs := rawM_small (B := B0) hA
    rw [List.take_length]
    refine j_freeze 2 (s := sLst sCh (rawM A0 B0)) rfl hfr (fun K G o => frz_lst K G fr o) ?_
    exact j_ret (O1 := []) (e_call (S := fsJoined) (O2 := []) (rawM A0 B0) FJ hr1 gJ (ea_cons (e_name 2) ea_nil) ⟨hs.str, Nat.le_trans hs.sum (by decide), Nat.le_trans hs.few (by decide)⟩) (fin_ret hf (fun w hw => nomatch hw) fun G v hv => hv)
/-! ### Together, Clash -/
structure To where
  whole : Pa
  one : Pa
  other : Pa
abbrev toTab (CP : Addr) (t : To) : List (Str × Slot) := [("whole", sPa CP t.whole), ("one", sPa CP t.one), ("other", sPa CP t.other)]
abbrev sTo (CP CT : Addr) (t : To) : Slot := sIns CT (toTab CP t)
abbrev clTab (i j : Int) : List (Str × Slot) := [("one", sInt i), ("other", sInt j)]
abbrev sCl (CC : Addr) (i j : Int) : Slot := sIns CC (clTab i j)
structure ToC (K : Fg) (mg : Str → Option Value) (CT : Addr) : Prop where
  cl : Cls K CT
  nW : NoAttr K CT "whole"
  n1 : NoAttr K CT "one"
  n2 : NoAttr K CT "other"
  gT : mg "Together" = some (.ref CT)
structure ClC (K : Fg) (mg : Str → Option Value) (CC : Addr) : Prop where
  cl : Cls K CC
  n1 : NoAttr K CC "one"
  n2 : NoAttr K CC "other"
  gC : mg "Clash" = some (.ref CC)
theorem scTInit : FnScope ["self", "whole", "one", "other"] ["self", "whole", "one", "other"] (defScope sTInit) := ⟨rfl, rfl, rfl, by decide +kernel, rfl, by decide +kernel, by decide +kernel⟩
def fsTInit (CP CT : Addr) : FS (Addr × To) := { args := fun i => [sRef i.1, sPa CP i.2.whole, sPa CP i.2.one, sPa CP i.2.other], own := fun i => [oIns i.1 CT []], res := fun _ => sNon, own' := fun i => [oIns i.1 CT (toTab CP i.2)], pre := fun _ => True }
theorem ok_tinit {f : Addr} {fd : FuncData} (F : Fun K "__init__" "Together.__init__" sTInit f fd) (b : Binds K fd ["self", "whole", "one", "other"] []) (TC : ToC K mg CT) : DefOk P w K mg base 1 f [] (fsTInit CP CT) := by
  refine fn_ok F scTInit b .nil (fun _ => rfl) fun ⟨x, t⟩ cdv A outer s G H D EE hr hp hf hn => ?_
  refine j_fld (O1 := [oIns x CT []]) (O2 := [oIns x CT []]) 0 (e_name 1) (e_name 0) TC.cl TC.nW ?_
  refine j_fld (O1 := [oIns x CT [("whole", sPa CP t.whole)]]) (O2 := [oIns x CT [("whole", sPa CP t.whole)]]) 0 (e_name 2) (e_name 0) TC.cl TC.n1 ?_
  refine j_fld (O1 := [oIns x CT [("whole", sPa CP t.whole), ("one", sPa CP t.one)]]) (O2 := [oIns x CT [("whole", sPa CP t.whole), ("one", sPa CP t.one)]]) 0 (e_name 3) (e_name 0) TC.cl TC.n2 ?_
  exact fin_end hf hn fun w hw => hw
theorem scTBool : FnScope ["self"] ["self"] (defScope sTBool) := ⟨rfl, rfl, rfl, by decide +kernel, rfl, by decide +kernel, by decide +kernel⟩
def fsTBool (CP CT : Addr) : FS To := { args := fun t => [sTo CP CT t], pre := fun _ => True, res := fun _ => sBl true }
theorem ok_tbool {f : Addr} {fd : FuncData} (F : Fun K "__bool__" "Together.__bool__" sTBool f fd) (b : Binds K fd ["self"] []) : DefOk P w K mg base 1 f [] (fsTBool CP CT) := by
  refine fn_ok F scTBool b .nil (fun _ => rfl) fun t cdv A outer s G H D EE hr hp hf hn => ?_
  exact j_ret (O1 := []) e_bl (fin_ret hf (fun w hw => hw) fun G v hv => hv)
theorem scCInit : FnScope ["self", "one", "other"] ["self", "one", "other"] (defScope sCInit) := ⟨rfl, rfl, rfl, by decide +kernel, rfl, by decide +kernel, by decide +kernel⟩
def fsCInit (CC : Addr) : FS (Addr × Int × Int) := { args := fun i => [sRef i.1, sInt i.2.1, sInt i.2.2], own := fun i => [oIns i.1 CC []], res := fun _ => sNon, own' := fun i => [oIns i.1 CC (clTab i.2.1 i.2.2)], pre := fun _ => True }
theorem ok_cinit {f : Addr} {fd : FuncData} (F : Fun K "__init__" "Clash.__init__" sCInit f fd) (b : Binds K fd ["self", "one", "other"] []) (LC : ClC K mg CC) : DefOk P w K mg base 1 f [] (fsCInit CC) := by
  refine fn_ok F scCInit b .nil (fun _ => rfl) fun ⟨x, i, j⟩ cdv A outer s G H D EE hr hp hf hn => ?_
  refine j_fld (O1 := [oIns x CC []]) (O2 := [oIns x CC []]) 0 (e_name 1) (e_name 0) LC.cl LC.n1 ?_
  refine j_fld (O1 := [oIns x CC [("one", sInt i)]]) (O2 := [oIns x CC [("one", sInt i)]]) 0 (e_name 2) (e_name 0) LC.cl LC.n2 ?_
  exact fin_end hf hn fun w hw => hw
theorem scCBool : FnScope ["self"] ["self"] (defScope sCBool) := ⟨rfl, rfl, rfl, by decide +kernel, rfl, by decide +kernel, by decide +kernel⟩
def fsCBool (CC : Addr) : FS (Int × Int) := { args := fun t => [sCl CC t.1 t.2], pre := fun _ => True, res := fun _ => sBl false }
theorem ok_cbool {f : Addr} {fd : FuncData} (F : Fun K "__bool__" "Clash.__bool__" sCBool f fd) (b : Binds K fd ["self"] []) : DefOk P w K mg base 1 f [] (fsCBool CC) := by
  refine fn_ok F scCBool b .nil (fun _ => rfl) fun t cdv A outer s G H D EE hr hp hf hn => ?_
  exact j_ret (O1 := []) e_bl (fin_ret hf (fun w hw => hw) fun G v hv => hv)
theorem scCEq : FnScope ["self", "other"] ["self", "other"] (defScope sCEq) := ⟨rfl, rfl, rfl, by decide +kernel, rfl, by decide +kernel, by decide +kernel⟩
def fsCEq (CC : Addr) : FS ((Int × Int) × (Int × Int)) := { args := fun i => [sCl CC i.1.1 i.1.2, sCl CC i.2.1 i.2.2], pre := fun _ => True, res := fun i => sBl (decide (i.1 = i.2)) }
theorem ok_ceq {f : Addr} {fd : FuncData} (F : Fun K "__eq__" "Clash.__eq__" sCEq f fd) (b : Binds K fd ["self", "other"] []) (Cc : Cs K mg) (LC : ClC K mg CC) (CI : ClsI K CC) : DefOk P w K mg base 1 f [] (fsCEq CC) := by
  refine fn_ok F scCEq b .nil (fun _ => rfl) fun ⟨⟨i, j⟩, ⟨i2, j2⟩⟩ cdv A outer s G H D EE hr hp hf hn => ?_
  refine j_ret (O1 := []) (e_and2 (e_callB (c_isiC (k := true) (ty_ins CI) kit_self) Cc.isi (by decide +kernel) (ea_cons (e_name 1) (ea_cons (e_gref LC.gC) ea_nil))) (e_one (e_cmp (s1 := sTup [sInt i, sInt j]) (s2 := sTup [sInt i2, sInt j2]) (o_eqD (k := 0) (w := decide (i = i2 ∧ j = j2)) hr isD_tup2' isD_tup2' shaped_ii shaped_ii (by simp [PyData.eqv, PyData.eqvAll, Bool.beq_eq_decide_eq]))
    (e_tup (ea_cons (e_fld 0 LC.cl LC.n1 (e_name 0)) (ea_cons (e_fld 1 LC.cl LC.n2 (e_name 0)) ea_nil)) (szl (by simp))) (e_tup (ea_cons (e_fld 0 LC.cl LC.n1 (e_name 1)) (ea_cons (e_fld 1 LC.cl LC.n2 (e_name 1)) ea_nil)) (szl (by simp)))))) (fin_ret hf (fun w hw => hw) fun G v hv => ?_)
  have hv : v = V.bl (true && decide (i = i2 ∧ j = j2)) := hv
  show v = V.bl (decide ((i, j) = (i2, j2)))
  rw [hv]
  congr 1
  rw [Bool.eq_iff_iff]
  simp
end
end K51

namespace K51
open PySem L2 Gd
inductive TgR where
  | ok (t : To)
  | clash (i j : Int)
def sTg (CP CT CC : Addr) : TgR → Slot
  | .ok t => sTo CP CT t
  | .clash i j => sCl CC i j
def rowB (B : List Ch) (p : Ch × Nat) : List (Int × Int) := (B.zipIdx.filter fun q => !fitC p.1 q.1).map fun q => ((p.2 : Int), (q.2 : Int))
def badV (A B : List Ch) : List (Int × Int) := A.zipIdx.flatMap (rowB B)
theorem bad_head {A B : List Ch} {n m : Nat} {p q : Ch × Nat} (hn : A.zipIdx[n]? = some p) (hm : B.zipIdx[m]? = some q) (h1 : (A.zipIdx.take n).flatMap (rowB B) = []) (h2 : (B.zipIdx.take m).filter (fun q => !fitC p.1 q.1) = []) (h : fitC p.1 q.1 = false) : (badV A B).head? = some ((p.2 : Int), (q.2 : Int)) := by
  have e1 : A.zipIdx = A.zipIdx.take n ++ p :: A.zipIdx.drop (n + 1) := by
    obtain ⟨hl, he⟩ := List.getElem?_eq_some_iff.mp hn
    (rw [← he, ← List.drop_eq_getElem_cons hl, List.take_append_drop])
  have e2 : B.zipIdx = B.zipIdx.take m ++ q :: B.zipIdx.drop (m + 1) := by
    obtain ⟨hl, he⟩ := List.getElem?_eq_some_iff.mp hm
    (rw [← he, ← List.drop_eq_getElem_cons hl, List.take_append_drop])
  have e3 : rowB B p = ((p.2 : Int), (q.2 : Int)) :: ((B.zipIdx.drop (m + 1)).filter fun q => !fitC p.1 q.1).map fun q => ((p.2 : Int), (q.2 : Int)) := by
    unfold rowB
    conv => lhs; rw [e2]
    rw [List.filter_append, h2, List.nil_append, List.filter_cons, if_pos (by simp [h]), List.map_cons]
  unfold badV
  rw [e1, List.flatMap_append, h1, List.nil_append, List.flatMap_cons, e3]
  rfl
theorem bad_none {A B : List Ch} : badV A B = [] ↔ Fit A B := by
  unfold badV rowB Fit
  rw [List.flatMap_eq_nil_iff]
  constructor
  · intro h a ha b hb
    obtain ⟨i, hi, ei⟩ := List.getElem_of_mem ha
    obtain ⟨j, hj, ej⟩ := List.getElem_of_mem hb
    have h1 := h (a, i) (List.mem_iff_getElem?.mpr ⟨i, by rw [List.getElem?_zipIdx, List.getElem?_eq_getElem hi, ei]; simp⟩)
    rw [List.map_eq_nil_iff, List.filter_eq_nil_iff] at h1
    have h2 := h1 (b, j) (List.mem_iff_getElem?.mpr ⟨j, by rw [List.getElem?_zipIdx, List.getElem?_eq_getElem hj, ej]; simp⟩)
    simpa using h2
  · rintro h ⟨a, i⟩ ha
    rw [List.map_eq_nil_iff, List.filter_eq_nil_iff]
    rintro ⟨b, j⟩ hb
    have ha' := (List.mem_zipIdx ha).2.2
    have hb' := (List.mem_zipIdx hb).2.2
    have : fitC a b = true := h a (by rw [ha']; exact List.getElem_mem _) b (by rw [hb']; exact List.getElem_mem _)
    simp [this]
def toV (p q : Pa) : To := ⟨⟨wholeV (p.changes ++ q.changes), max p.least q.least⟩, ⟨movedV p.changes q.changes, max p.least q.least + q.growth⟩, ⟨movedV q.changes p.changes, max p.least q.least + p.growth⟩⟩
def togV (p q : Pa) : TgR := match (badV p.changes q.changes).head? with
  | some e => .clash e.1 e.2
  | none => .ok (toV p q)
structure TogOk (i : Pa × Pa) : Prop where
  ok1 : i.1.ok
  ok2 : i.2.ok
  sm1 : SmallC i.1.changes
  sm2 : SmallC i.2.changes
  few : (i.1.changes ++ i.2.changes).length ≤ 60
  res : badV i.1.changes i.2.changes = [] → (toV i.1 i.2).whole.ok ∧ (toV i.1 i.2).one.ok ∧ (toV i.1 i.2).other.ok
theorem SmallC.app {A B : List Ch} (h : SmallC A) (k : SmallC B) (h1 : A.length + B.length ≤ 1000) (h2 : wsum A + wsum B ≤ 1000) : SmallC (A ++ B) := ⟨fun c hc => (List.mem_append.mp hc).elim (h.str c) (k.str c), by rw [List.length_append]; exact h1, by rw [wsum_append]; exact h2⟩
abbrev togN : List Str := ["one", "other", "place", "change", "number", "told", "least", "first", "second"]
section
variable {P : Program} {w : World} {K : Fg} {mg : Str → Option Value} {base : Heap} {C CP CT CC : Addr}
def fsSide : FS (List Ch) := { args := fun cs => [sLst sCh cs], pre := fun cs => (∀ c ∈ cs, okStrs c.words) ∧ cs.length ≤ 60 ∧ wsum cs ≤ 2000, res := fun cs => sTupl sCh (wholeV cs) }
theorem scTog : FnScope togN ["one", "other"] (defScope sTog) := ⟨rfl, rfl, rfl, by decide +kernel, rfl, by decide +kernel, by decide +kernel⟩
def fsTog (CP CT CC : Addr) : FS (Pa × Pa) := { args := fun i => [sPa CP i.1, sPa CP i.2], pre := TogOk, res := fun i => sTg CP CT CC (togV i.1 i.2) }
theorem ok_tog {f fK fG fC fM fW fI fT fS : Addr} {fd : FuncData} (F : Fun K "together" "together" sTog f fd) (b : Binds K fd ["one", "other"] []) (ze : mg "enumerate" = none) (zm : mg "max" = none) (PC : PaC K mg CP) (TC : ToC K mg CT) (LC : ClC K mg CC)
    (gK : mg "check_patch" = some (.ref fK)) (FK : DefOk P w K mg base 1 fK [] (fsCheckPatch CP)) (gG : mg "goes_with" = some (.ref fG)) (FG : DefOk P w K mg base 1 fG [] fsGoes) (MC : Mk K CC fC) (FC : DefOk P w K mg base 1 fC [] (fsCInit CC))
    (gM : mg "moved" = some (.ref fM)) (FM : DefOk P w K mg base 2 fM [] fsMoved) (mW : Meth K CP "growth" fW) (FW : DefOk P w K mg base 2 fW [] (fsPGrowth CP)) (MP : Mk K CP fI) (FI : DefOk P w K mg base 4 fI [] (fsPInit CP)) (MT : Mk K CT fT) (FT : DefOk P w K mg base 1 fT [] (fsTInit CP CT))
    (gS : mg "side_by_side" = some (.ref fS)) (FS_ : DefOk P w K mg base 2 fS [] fsSide) : DefOk P w K mg base 6 f [] (fsTog CP CT CC) := by
  refine fn_ok F scTog b .nil (fun _ => rfl) fun ⟨p, q⟩ cdv A outer s G H D EE hr hp hf hn => ?_
  have hp : TogOk (p, q) := hp
  have hr5 : Room 5 _ := hr
  (have hr2 : Room 2 _ := hr.mono (by decide))
  (have hr1 : Room 1 _ := hr.mono (by decide))
  have s1 : SmallC p.changes := hp.sm1
  have s2 : SmallC q.changes := hp.sm2
  refine j_expr (O1 := []) (e_call (O2 := []) (S := fsCheckPatch CP) p FK hr1 gK (ea_cons (e_name 0) ea_nil) trivial) ?_
  refine j_expr (O1 := []) (e_call (O2 := []) (S := fsCheckPatch CP) q FK hr1 gK (ea_cons (e_name 1) ea_nil) trivial) ?_
  refine j_for (O1 := []) (R := fun y : Ch × Nat => sTup [sInt (y.2 : Nat), sCh y.1]) (as := p.changes.zipIdx) (fun n (g : Nat) => g = n ∧ (p.changes.zipIdx.take n).flatMap (rowB q.changes) = []) (fun _ => [some (sPa CP p), some (sPa CP q), none, none, none, none, none, none, none]) (fun _ => []) (fun y => [(2, sInt (y.2 : Nat)), (3, sCh y.1)])
    (it_enumT ze (e_fld 0 PC.cl PC.nC (e_name 0))) (tg_tup2 (r1 := fun y : Ch × Nat => sInt (y.2 : Nat)) (r2 := fun y : Ch × Nat => sCh y.1) 2 3 scTog.nd) ⟨0, ⟨rfl, rfl⟩, fun _ _ _ _ h => h⟩ ?_ ?_
  · rintro B1 n ⟨c, i⟩ g hB hy ⟨rfl, hg⟩
    have hc : c ∈ p.changes := by
      have := (List.mem_zipIdx (List.mem_of_getElem? hy)).2.2
      rw [this]
      exact List.getElem_mem _
    refine j_for (O1 := []) (R := fun y : Ch × Nat => sTup [sInt (y.2 : Nat), sCh y.1]) (as := q.changes.zipIdx) (fun m (g : Nat) => g = m ∧ (q.changes.zipIdx.take m).filter (fun z => !fitC c z.1) = []) (fun _ => [some (sPa CP p), some (sPa CP q), some (sInt (i : Nat)), some (sCh c), none, none, none, none, none]) (fun _ => []) (fun y => [(4, sInt (y.2 : Nat)), (5, sCh y.1)])
      (it_enumT ze (e_fld 0 PC.cl PC.nC (e_name 1))) (tg_tup2 (r1 := fun y : Ch × Nat => sInt (y.2 : Nat)) (r2 := fun y : Ch × Nat => sCh y.1) 4 5 scTog.nd) ⟨0, ⟨rfl, rfl⟩, fun _ _ _ _ h => h⟩ ?_ ?_
    · rintro B2 m ⟨d, j⟩ g2 hB2 hy2 ⟨rfl, hg2⟩
      have hd : d ∈ q.changes := by
        have := (List.mem_zipIdx (List.mem_of_getElem? hy2)).2.2
        rw [this]
        exact List.getElem_mem _
      refine j_if (O1 := []) (u := !fitC c d) (t_not (t_val (e_callR (s := sBl (fitC c d)) (S := fsGoes) (O2 := []) (c, d) FG hr1 gG (ea_cons (e_name 3) (ea_cons (e_name 5) ea_nil)) ⟨s1.str c hc, s2.str d hd⟩))) (fun h => ?_) (fun h => j_on (j_nil fun σ G H st => ⟨_, G, ⟨rfl, ?_⟩, st.wk (.same (.same (.same (.same (.skip (.skip (.same (.same (.same .nil)))))))))⟩))
      · have h : fitC c d = false := by simpa using h
        have hd := bad_head hy hy2 hg hg2 h
        refine j_ret (O1 := []) (s := sCl CC (i : Nat) (j : Nat)) (e_ins (ew_make (S := fsCInit CC) (fun r => (r, (i : Nat), (j : Nat))) MC FC hr2 LC.gC (ea_cons (e_name 2) (ea_cons (e_name 4) ea_nil)) (fun _ => trivial))) (fin_ret ((hf.le hB).le hB2) (fun w hw => nomatch hw) fun G v hv => ?_)
        show (sTg CP CT CC (togV p q)).ok _ _ _
        unfold togV
        rw [hd]
        exact hv
      · have h : fitC c d = true := by simpa using h
        rw [take_succ hy2, List.filter_append, hg2, List.nil_append, List.filter_cons, if_neg (by simp [h])]
        rfl
    · rintro g2 ⟨rfl, hg2⟩
      rw [List.take_length] at hg2
      refine j_nil fun σ G H st => ⟨_, G, ⟨rfl, ?_⟩, st.wk (.same (.same (.skip (.skip (.same (.same (.same (.same (.same .nil)))))))))⟩
      rw [take_succ hy, List.flatMap_append, hg, List.nil_append, List.flatMap_cons, List.flatMap_nil, List.append_nil]
      unfold rowB
      rw [hg2]
      rfl
  · rintro g ⟨rfl, hg⟩
    rw [List.take_length] at hg
    have hbad : badV p.changes q.changes = [] := hg
    obtain ⟨r1, r2, r3⟩ := hp.res hbad
    have r1 : (toV p q).whole.ok := r1
    have r2 : (toV p q).one.ok := r2
    have r3 : (toV p q).other.ok := r3
    have hl : (p.changes ++ q.changes).length ≤ 60 := hp.few
    have n1 := s1.few
    have n2 := s2.few
    refine j_set 6 (O1 := []) (s := sInt (max p.least q.least)) (e_callB c_max2 zm (by decide +kernel) (ea_cons (e_lst (ew_lst (R := sInt) (el_cons (e_fld 1 PC.cl PC.nL (e_name 0)) (el_cons (e_fld 1 PC.cl PC.nL (e_name 1)) el_nil)) (szl (by simp)))) ea_nil)) ?_ scTog.nd
    refine j_set 7 (O1 := []) (s := sPa CP (toV p q).one) (e_patch (toV p q).one MP FI hr5 PC.gP r2 (ea_cons (s := sTupl sCh (movedV p.changes q.changes)) (e_callR (S := fsMoved) (O2 := []) (p.changes, q.changes) FM hr2 gM (ea_cons (e_fld 0 PC.cl PC.nC (e_name 0)) (ea_cons (e_fld 0 PC.cl PC.nC (e_name 1)) ea_nil)) ⟨s1, s2⟩) (ea_cons (e_bin o_add (e_name 6) (e_meth0 (S := fsPGrowth CP) (O2 := []) q FW hr2 PC.cl mW (e_name 1) (by exact n2))) ea_nil))) ?_ scTog.nd
    refine j_set 8 (O1 := []) (s := sPa CP (toV p q).other) (e_patch (toV p q).other MP FI hr5 PC.gP r3 (ea_cons (s := sTupl sCh (movedV q.changes p.changes)) (e_callR (S := fsMoved) (O2 := []) (q.changes, p.changes) FM hr2 gM (ea_cons (e_fld 0 PC.cl PC.nC (e_name 1)) (ea_cons (e_fld 0 PC.cl PC.nC (e_name 0)) ea_nil)) ⟨s2, s1⟩) (ea_cons (e_bin o_add (e_name 6) (e_meth0 (S := fsPGrowth CP) (O2 := []) p FW hr2 PC.cl mW (e_name 0) (by exact n1))) ea_nil))) ?_ scTog.nd
    refine j_ret (O1 := []) (s := sTo CP CT (toV p q)) (e_ins (ew_make (S := fsTInit CP CT) (fun r => (r, toV p q)) MT FT hr2 TC.gT (ea_cons (e_patch (toV p q).whole MP FI hr5 PC.gP r1 (ea_cons (s := sTupl sCh (wholeV (p.changes ++ q.changes))) (e_callR (S := fsSide) (O2 := []) (p.changes ++ q.changes) FS_ hr2 gS (ea_cons (e_lst (ew_lst (R := sCh) (as := p.changes ++ q.changes) (el_starT (e_fld 0 PC.cl PC.nC (e_name 0)) (el_starT1 (e_fld 0 PC.cl PC.nC (e_name 1)))) (szl (by omega)))) ea_nil) ⟨fun c hc => (List.mem_append.mp hc).elim (s1.str c) (s2.str c), hl, by rw [wsum_append]; have := s1.sum; have := s2.sum; omega⟩) (ea_cons (e_name 6) ea_nil))) (ea_cons (e_name 7) (ea_cons (e_name 8) ea_nil))) (fun _ => trivial))) (fin_ret hf (fun w hw => nomatch hw) fun G v hv => ?_)
    show (sTg CP CT CC (togV p q)).ok _ _ _
    unfold togV
    rw [hbad]
    exact hv
end
end K51

/-! Sequences of either kind; ranges; tuples joined; lists repeated; an item set -/
namespace Gd
open PySem L2
/-- a list or a tuple that nobody changes -/
def sSq {α : Type} (tp : Bool) (R : α → Slot) (as : List α) : Slot := match tp with | true => sTupl R as | false => sLst R as
section
variable {X : Cx} {B : Bs} {δ : List (Option Slot)} {O O1 O2 O3 : List Own} {a b c e o tg : Expr} {p pos tpos : Pos} {α : Type} {R : α → Slot} {as : List α} {tp : Bool} {s : Slot} {D : Ends} {rest : List Stmt}
theorem c_lenQ : CallE X (.builtin "len") [sSq tp R as] (sInt as.length) := by cases tp; exact c_len; exact c_lenT
theorem i_sq {i : Int} {y : α} (h : atI as i = some y) : IxE X (sSq tp R as) (sInt i) (R y) := by cases tp; exact i_lst h; exact i_tupl h
theorem it_sq (h : E X δ O e (sSq tp R as) O1) : IT X δ O tg e R as O1 := by cases tp; exact it_lst h; exact it_tupl h
theorem it_enumQ {elts : List Expr} {kk : Nat} (hm : X.mg "enumerate" = none) (h : E X δ O e (sSq tp R as) O1) (hg : Gl X "enumerate" := by rfl) (hs : noStar e = true := by rfl) :
    IT X δ O (.Tuple elts kk tpos) (.Call (.Name "enumerate" p) [e] [] pos) (fun y : α × Nat => sTup [sInt (y.2 : Nat), R y.1]) as.zipIdx O1 := by cases tp; exact it_enum hm h hg hs; exact it_enumT hm h hg hs
theorem c_isiQ : CallE X (.builtin "isinstance") [sSq tp R as, sTupX [sVal (.ty "list"), sVal (.ty "tuple")]] (sBl true) := by
  cases tp
  · exact c_isi2 ty_lst (kitAny_cons (b := true) (kit_ty (by decide +kernel)) (fun h => nomatch h) fun _ => rfl)
  · exact c_isi2 ty_tupl (kitAny_cons (b := false) (kit_ty (by decide +kernel)) (fun _ => kitAny_cons (b := true) (kit_ty (by decide +kernel)) (fun h => nomatch h) fun _ => rfl) (fun h => nomatch h))
/-- range(a, b) -/
theorem it_range2 {i j : Int} (hm : X.mg "range" = none) (h1 : E X δ O a (sInt i) O1) (h2 : E X δ O1 b (sInt j) O2) (hi : -(2 ^ 62) ≤ i ∧ i < 2 ^ 62 ∧ -(2 ^ 62) ≤ j ∧ j < 2 ^ 62) (hg : Gl X "range" := by rfl) (hs : noStar a = true := by rfl) (hs2 : noStar b = true := by rfl) :
    IT X δ O tg (.Call (.Name "range" p) [a, b] [] pos) sInt ((List.range (j - i).toNat).map fun k : Nat => i + k) O2 :=
  ⟨_, pi_range2 hg hm (pa_cons pe_w (pa_cons pe_w pa_nil (starEach_plain hs2)) (starEach_plain hs)) (by rw [starEach_plain hs, starEach_plain hs2]; rfl) (by rw [starEach_plain hs2]; rfl), fun B σ G H Q st k => h1 B σ G H _ st fun v G1 H1 m1 st1 hv => h2 B σ G1 H1 _ st1 fun v2 G2 H2 m2 st2 hv2 => by
    cases hv
    cases hv2
    refine ⟨i, j, rfl, hi, k _ G2 H2 (m1.trans m2) st2 fun B' δ' O' σ' G' H' n e st' => ⟨fun y hy => ?_, fun hn => ?_⟩⟩
    · rw [List.getElem?_map] at hy
      have hlt : n < (j - i).toNat := by
        rcases Nat.lt_or_ge n (j - i).toNat with z | z
        · exact z
        · rw [List.getElem?_eq_none (by rw [List.length_range]; exact z)] at hy; cases hy
      rw [List.getElem?_range hlt] at hy
      cases hy
      exact ⟨hlt, fun v H'' hy' => by
        obtain ⟨rfl, rfl⟩ := hy'
        exact ⟨G', Same.refl _, st', rfl⟩⟩
    · rw [List.length_map, List.length_range] at hn
      exact hn⟩
/-- range(n - 1, -1, -1) -/
theorem it_rangeD {n : Nat} {i j m : Int} (hm : X.mg "range" = none) (h1 : E X δ O a (sInt i) O1) (h2 : E X δ O1 b (sInt j) O2) (h3 : E X δ O2 c (sInt m) O3) (ei : i = (n : Int) - 1) (ej : j = -1) (em : m = -1) (hn : n < 1000000) (hg : Gl X "range" := by rfl) (hs : noStar a = true := by rfl) (hs2 : noStar b = true := by rfl) (hs3 : noStar c = true := by rfl) :
    IT X δ O tg (.Call (.Name "range" p) [a, b, c] [] pos) (fun k : Nat => sInt k) (List.range n).reverse O3 := by
  subst ei ej em
  exact ⟨_, pi_range3 hg hm (pa_cons pe_w (pa_cons pe_w (pa_cons pe_w pa_nil (starEach_plain hs3)) (starEach_plain hs2)) (starEach_plain hs)) (starEach_plain hs) (by rw [starEach_plain hs2, starEach_plain hs3]; rfl), fun B σ G H Q st k => h1 B σ G H _ st fun v G1 H1 m1 st1 hv => h2 B σ G1 H1 _ st1 fun v2 G2 H2 m2 st2 hv2 => h3 B σ G2 H2 _ st2 fun v3 G3 H3 m3 st3 hv3 => by
    cases hv
    cases hv2
    cases hv3
    have hr := RgC.neg (i := (n : Int) - 1) (j := -1) (by omega) (by omega) (by omega) (by omega)
    have e0 : ((n : Int) - 1 - -1).toNat = n := by omega
    rw [e0] at hr
    refine ⟨_, _, _, n, rfl, hr, k _ G3 H3 (m1.trans (m2.trans m3)) st3 fun B' δ' O' σ' G' H' l e st' => ⟨fun y hy => ?_, fun hn => ?_⟩⟩
    · have hlt : l < n := by
        have := (List.getElem?_eq_some_iff.mp hy).1
        rwa [List.length_reverse, List.length_range] at this
      rw [List.getElem?_reverse (by rw [List.length_range]; exact hlt), List.length_range, List.getElem?_range (by omega)] at hy
      cases hy
      exact ⟨hlt, fun v H'' hy' => by
        obtain ⟨rfl, rfl⟩ := hy'
        refine ⟨G', Same.refl _, st', ?_⟩
        show V.int ((n : Int) - 1 + (l : Int) * -1) = V.int ((n - 1 - l : Nat) : Int)
        congr 1
        omega⟩
    · rw [List.length_reverse, List.length_range] at hn
      exact hn⟩
/-- xs * n -/
theorem o_rep {n : Int} (h0 : 0 ≤ n) (hz : as.length * n.toNat ≤ 100000) (hn : n < 1000) : OpEW X (binaryOp .Mult) (sLst R as) (sInt n) (fun p => oLst p R (List.replicate n.toNat as).flatten) :=
  ⟨_, op_rep, fun B δ O σ G H Q x y st hx hy k => by
    obtain ⟨p, vs, rfl, hp, r⟩ := hx
    cases hy
    refine ⟨p, n, vs, rfl, rfl, st.stp.gh _ _ hp, by omega, by omega, Nat.le_trans (by rw [r.length]; exact hz) (by decide), fun q hq => ?_⟩
    refine k q G _ (none_of st hq) (Same.refl _) (st.freshO (w := oLst q R (List.replicate n.toNat as).flatten) hq rfl ⟨_, rfl, ?_⟩)
    generalize n.toNat = m
    induction m with
    | zero => exact .nil
    | succ m ih =>
      (rw [List.replicate_succ, List.replicate_succ, List.flatten_cons, List.flatten_cons])
      exact r.append ih⟩
/-- xs[i] = e, xs an owned list -/
theorem j_setIxL {q : Addr} {i : Int} {y : α} {tp : Pos} (jw j : Nat) (he : E X δ O e (R y) O1) (ho : E X δ O1 o (sRef q) O2) (hb : E X δ O2 b (sInt i) O3) (k : J X B δ (O3.set jw (oLst q R (as.set j y))) rest D) (hi : i = (j : Int)) (hj : j < as.length) (hw : O3[jw]? = some (oLst q R as) := by rfl) (hs : noCompr e = true := by rfl)
    (hsw : swappedStores [.Subscript o b tp] e X.env = pure none := by rfl)
    (hpl : ∀ v, assign (.Subscript o b tp) X.env v = (do
      let ov ← holding [v] (eval o X.env) -- -
      let iv ← holding [v, ov] (eval b X.env)
      standAt tp
      holding [v, ov, iv] (setItem ov iv v) -- -
      release [v, ov, iv] []) := by intro _; rfl) : J X B δ O (.Assign [.Subscript o b tp] e pos :: rest) D :=
  j_cons fun σ G H st => s_of (ps_asg pe_w (pg_sub pe_w pe_w set_list hpl) (sole_plain hs) hsw) (by
    subst hi
    refine he B σ G H _ st fun v G1 H1 m1 st1 hv => ?_
    refine ho B σ G1 H1 _ st1 fun w G2 H2 m2 st2 hw2 => ?_
    refine hb B σ G2 H2 _ st2 fun z G3 H3 m3 st3 hz => ?_
    cases hw2
    cases hz
    obtain ⟨vs3, hq3, _, r3⟩ := own_lst st3 hw
    refine ⟨q, vs3, (j : Int), j, rfl, rfl, hq3, ?_, ?_⟩
    · unfold ixN
      rw [r3.length]
      simp [hj]
    · exact k σ G3 _ (st3.putI (w' := oLst q R (as.set j y)) hw rfl ⟨_, rfl, r3.set ((R y).mono (m2.trans m3) hv) j⟩))
/-- t + u -/
theorem o_addT {bs : List α} (hz : as.length + bs.length ≤ 100000) : OpE X (binaryOp .Add) (sTupl R as) (sTupl R bs) (sTupl R (as ++ bs)) :=
  ⟨_, op_catA, fun B δ O σ G H Q x y st hx hy k => by
    obtain ⟨p, vs, rfl, hp, r1⟩ := hx
    obtain ⟨q, ws, rfl, hq, r2⟩ := hy
    refine ⟨p, q, vs, ws, rfl, rfl, sqT_up st.stp.gh hp, sqT_up st.stp.gh hq, Nat.le_trans (by rw [r1.length, r2.length]; exact hz) (by decide), fun e => ?_, fun _ e => ?_, fun _ _ l hl => ?_⟩
    · subst e
      cases r1
      exact k _ G H (Same.refl _) st ⟨q, ws, rfl, hq, r2⟩
    · subst e
      cases r2
      rw [List.append_nil] at *
      exact k _ G H (Same.refl _) st ⟨p, vs, rfl, hp, r1⟩
    · have sg : Same G (upd G l (.tup (vs ++ ws))) := same_new (gnone st.stp hl)
      exact k _ _ _ sg (st.freshG hl) ⟨l, _, rfl, SqT.of upd_same, (r1.mono sg).append (r2.mono sg)⟩⟩
end
end Gd

/-! An owned list read as if it were frozen; pop(i); the truth of an instance; max(xs, default=d); two fors -/
namespace Gd
open PySem PySem.Spec PyProof.Rows L2
section
variable {X : Cx} {B B1 : Bs} {δ δ' : List (Option Slot)} {O O1 O2 O3 : List Own} {a b c e o : Expr} {es : List Expr} {x : Str} {p pos apos : Pos} {s s1 s2 s3 : Slot} {ss : List Slot} {α β : Type} {R : α → Slot} {S : β → Slot} {D : Ends} {rest sts : List Stmt} {u : Bool} {q : Addr} {as : List α}
/-- what tells an int of an owned list, without any change -/
theorem e_borrow {n : Int} (i jw : Nat) (h : E X (δ.set i (some (sLst R as))) [] e (sInt n) []) (hd : δ[i]? = some (some (sRef q)) := by rfl) (hw : O[jw]? = some (oLst q R as) := by rfl) : E X δ O e (sInt n) O := by
  intro B σ G H Q st k
  obtain ⟨vs, hq, hg, r⟩ := own_lst st hw
  have sg : Same G (upd G q (.lst vs)) := same_new hg
  have gh : Same (upd G q (.lst vs)) H := fun a o z => by
    by_cases za : a = q
    · subst za
      rw [upd_same] at z
      cases z
      exact hq
    · rw [upd_ne za] at z
      exact st.stp.gh _ _ z
  have hlt : i < δ.length := (List.getElem?_eq_some_iff.mp hd).1
  have st1 : Sta X.K ⟨[], upd G q (.lst vs), H⟩ (δ.set i (some (sLst R as))) [] σ (upd G q (.lst vs)) H := by
    refine ⟨Stp.refl gh, fun j t hj => ?_, by rw [st.len, List.length_set], fun w hw => (nomatch hw), fun w hw => (nomatch hw), List.nodup_nil⟩
    by_cases z : j = i
    · subst z
      rw [List.getElem?_set_self hlt] at hj
      cases hj
      obtain ⟨v, hv, hvs⟩ := st.env j _ hd
      cases hvs
      exact ⟨_, hv, q, vs, rfl, upd_same, r.mono sg⟩
    · rw [List.getElem?_set_ne (Ne.symm z)] at hj
      obtain ⟨v, hv, hvs⟩ := st.env j t hj
      exact ⟨v, hv, t.mono sg hvs⟩
  refine h _ σ _ H Q st1 fun v G2 H2 m2 st2 hv => k v G H2 (Same.refl _) ?_ hv
  have hh : ∀ a o, H a = some o → H2 a = some o := fun a o z => st2.stp.fr a o z (by simp)
  refine ⟨⟨fun a o z => hh _ _ (st.stp.gh _ _ z), st.stp.ex, fun a o z zn => hh _ _ (st.stp.fr _ _ z zn), fun a o z => ?_, st.stp.nf⟩, st.env, st.len, fun w hw => ?_, st.new, st.nd⟩
  · obtain ⟨o', h'⟩ := st.stp.th _ _ z
    exact ⟨o', hh _ _ h'⟩
  · obtain ⟨o', h1, h2, h3⟩ := st.own w hw
    exact ⟨o', hh _ _ h1, h2, h3⟩
theorem all2_erase {K : Fg} {G : Hp} : ∀ {vs : List V} {as : List α} (k : Nat), All2 K G R vs as → All2 K G R (vs.eraseIdx k) (as.eraseIdx k)
  | _, _, _, .nil => .nil
  | _, _, 0, .cons _ t => t
  | _, _, k + 1, .cons h t => .cons h (all2_erase k t)
/-- xs.pop(i) -/
theorem e_popAt {y : α} {i : Int} {k : Nat} (jw : Nat) (ho : E X δ O o (sRef q) O1) (ha : E X δ O1 e (sInt i) O2) (hi : i = (k : Int)) (hy : as[k]? = some y) (hz : as.length ≤ 100000) (hw1 : O1[jw]? = some (oLst q R as) := by rfl) (hw : O2[jw]? = some (oLst q R as) := by rfl)
    (hb : noCall0 o = true := by rfl)
    (hfew : ((backTo pos (starEach (e :: []) X.env)).all (fun x => !x.1) && (backToKw pos (keywordEach [] X.env)).all (fun x => x.1.isSome)
      && decide ((e :: []).length + ([] : List Keyword).length + (if ([] : List Keyword).isEmpty then 0 else 1) < 30)) = true := by rfl)
    (hline : (apos.endLine == pos.line) = true := by rfl) (hs : noStar e = true := by rfl) (hplain : (backTo pos (starEach [] X.env)).any (·.1) = false := by rfl) :
    E X δ O (.Call (.Attribute o "pop" apos) [e] [] pos) (R y) (O2.set jw (oLst q R (as.eraseIdx k))) := by
  intro B σ G H Q st kk
  refine e_of (pe_bm PySem.F.plainAttrs_list PySem.F.slot_list_pop PySem.F.type_list_pop mt_popAt pe_w (pa_cons pe_w pa_nil (starEach_plain hs)) (attributeBase_plain hb) hfew hline (starEach_plain hs) hplain) ?_
  refine ho B σ G H _ st fun v G1 H1 m1 st1 hv => ?_
  cases hv
  obtain ⟨vs1, hq1, _, _⟩ := own_lst st1 hw1
  refine ⟨.inl ⟨rfl, _, SqL.of hq1⟩, ?_⟩
  refine ha B σ G1 H1 _ st1 fun v2 G2 H2 m2 st2 hv2 => ?_
  cases hv2
  obtain ⟨vs, hq, _, r⟩ := own_lst st2 hw
  obtain ⟨w, h1, h2⟩ := r.get hy
  have hk : k < as.length := (List.getElem?_eq_some_iff.mp hy).1
  have hl := r.length
  subst hi
  refine ⟨q, vs, (k : Int), k, w, rfl, rfl, hq, by omega, by omega, ?_, h1, ?_⟩
  · unfold seqIndex?
    have h0 : ¬ (k : Int) < 0 := by omega
    have h1 : (k : Int) < (vs.length : Int) := by omega
    simp [h0, h1]
  · exact kk _ G2 _ (m1.trans m2) (st2.putI (w' := oLst q R (as.eraseIdx k)) hw rfl ⟨_, rfl, all2_erase k r⟩) h2
/-! ### three targets: a value and two new objects -/
theorem j_par3EWW {c' : Expr} {x y z : Str} {px py pz pt pos pt2 : Pos} {kt k2} {φ ψ : Addr → Own} (i j l : Nat) (ha : E X δ O a s1 O1) (hb : EW X δ O1 b φ O2) (hd : ∀ r, EW X δ (φ r :: O2) c' ψ (φ r :: O2)) (q : ∀ r t, B.H r = none → B.H t = none → J X B (((δ.set i (some s1)).set j (some (sRef r))).set l (some (sRef t))) (ψ t :: φ r :: O2) rest D) (hN : X.N.Nodup)
    (hi : X.N[i]? = some x := by rfl) (hj : X.N[j]? = some y := by rfl) (hl : X.N[l]? = some z := by rfl) (hij : i ≠ j := by decide) (hil : i ≠ l := by decide) (hjl : j ≠ l := by decide) (hc : X.calm = true := by rfl)
    (hx : X.env.scope.names.lookup x = some .local := by rfl) (hy : X.env.scope.names.lookup y = some .local := by rfl) (hz : X.env.scope.names.lookup z = some .local := by rfl) (h1 : noStar a = true := by rfl) (h2 : noStar b = true := by rfl) (h3 : noStar c' = true := by rfl)
    (hw : swappedStores [.Tuple [.Name x px, .Name y py, .Name z pz] kt pt] (.Tuple [a, b, c'] k2 pt2) X.env = pure (some [x, y, z]) := by rfl) (hs : swapsWithSole [.Tuple [.Name x px, .Name y py, .Name z pz] kt pt] (.Tuple [a, b, c'] k2 pt2) pos.line X.env = pure false := by rfl) :
    J X B δ O (.Assign [.Tuple [.Name x px, .Name y py, .Name z pz] kt pt] (.Tuple [a, b, c'] k2 pt2) pos :: rest) D :=
  j_cons fun σ G H st => s_of (ps_par3 hc hN hi hj hl hij hil hjl hx hy hz (pa_cons pe_w (pa_cons pe_w (pa_cons pe_w pa_nil (starEach_plain h3)) (starEach_plain h2)) (starEach_plain h1)) hw hs)
    (ha B σ G H _ st fun v G1 H1 m1 st1 hv => hb B σ G1 H1 _ st1 fun r G2 H2 hr m2 st2 => hd r B σ G2 H2 _ st2 fun t G3 H3 ht m3 st3 => ⟨v, .ref r, .ref t, rfl, q r t hr ht _ G3 H3 (((st3.set (s1.mono m3 (s1.mono m2 hv))).set rfl).set rfl)⟩)
/-! ### the truth of an instance, by its own __bool__ -/
theorem t_own {ι : Type} {F : FS ι} {C f : Addr} {tab : List (Str × Slot)} {k : Nat} (j : ι) (hs : PySem.W.findIn X.K (.ref C) "__bool__" = some (some (.ref f))) (hf : PySem.W.isFn X.K (.ref f) = true) (FF : DefX X k f [] F) (hr : Room k X.A) (hp : F.pre j) (he : E X δ O e (sIns C tab) O1) (hargs : F.args j = [sIns C tab] := by rfl) (hres : F.res j = sBl u := by rfl)
    (h1 : F.own j = [] := by rfl) (h2 : F.own' j = [] := by rfl) (hv : plainTest e = true := by rfl) : T X δ O e u O1 := by
  intro B σ G H Q st k2
  refine t_of (pt_truthR (r := fun v H Q => ∃ a dx fs, v = .ref a ∧ H a = some (.ins C dx fs) ∧ F.sp X.K [.ref a] H (fun z H' => z = .bl u ∧ Q u H') E0) pe_w ?_ (isTrue_val hv)) ?_
  · intro pins s σ H x v Q I rx h
    (obtain ⟨a, dx, fs, rfl, ha, q⟩ := h)
    cases rx
    obtain ⟨od, J⟩ := inst_at I ha
    obtain ⟨m, hF⟩ := I.fr
    refine PySem.W.truthy_K hF I.ok.mod.kin J hs hf (wpAny_mono (run_in (us := [.ref a]) (ws := [.ref a]) FF.raw hr rfl I (.cons rfl .nil) q) (fun w s' z => ?_) fun _ _ x => x)
    obtain ⟨z', H', I', rz, ez, qz⟩ := z
    subst ez
    cases rz
    exact ⟨H', I', qz⟩
  · refine he B σ G H _ st fun v G1 H1 m1 st1 hv1 => ?_
    obtain ⟨p, dx, fs, rfl, hp'⟩ := sIns_at hv1 st1.stp.gh
    refine ⟨p, dx, fs, rfl, hp', fs_pure j hp st1 (by rw [hargs]; exact .cons hv1 .nil) h1 h2 fun v G' H' m st' hv' => ?_⟩
    rw [hres] at hv'
    exact ⟨hv', k2 _ H' (m1.trans m) st'⟩
/-! ### max(xs, default=d) -/
theorem dp_intsB (K : Fg) (H : Hp) : ∀ is : List Int, DpAll K H (is.map V.int) (is.map PyData.int)
  | [] => .nil
  | i :: r => .cons (.int i) (dp_intsB K H r)
theorem vals_ints {K : Fg} {G : Hp} : ∀ {vs : List V} {is : List Int}, All2 K G sInt vs is → vs = is.map V.int
  | _, _, .nil => rfl
  | _, _, .cons h t => by
    cases h
    rw [vals_ints t]
    rfl
def maxDV (is : List Int) (d : Int) : Int := match is with | [] => d | i :: r => r.foldl max i
theorem e_maxD {is : List Int} {n : Int} {k : Nat} {kpos : Pos} (hr : Room k X.A) (hm : X.mg "max" = none) (h1 : E X δ O a (sLst sInt is) O1) (h2 : E X δ O1 b (sInt n) O2) (hc : X.calm = true := by rfl) (hg : Gl X "max" := by rfl) (hs : noStar a = true := by rfl) :
    E X δ O (.Call (.Name "max" p) [a] [⟨some "default", b, kpos⟩] pos) (sInt (maxDV is n)) O2 := by
  intro B σ G H Q st kk
  refine e_of (t := fun σ H Q => tCons (wE X a) tNil σ H fun vs H1 => tCons (wE X b) tNil σ H1 fun zs H2 => ∃ l vs', vs = [.ref l] ∧ zs = [.int n] ∧ SqL X.K H2 l vs' ∧ vs' = is.map V.int ∧ Q (.int (maxDV is n)) H2) ⟨fun pins s σ H Q I h => ?_⟩ ?_
  · refine wpAny_Call_Name_kw (ld_blt I hg hm (show bootBuiltins ("max" : Str) = some (.builtin "max") by decide +kernel) ?_ (by decide) (by decide))
    refine PyProof.Rows.callWith_kw (thn ((pa_cons pe_w pa_nil (starEach_plain hs)).run pos pins s σ H _ I h) fun us s1 ⟨vs, H1, I1, r1, q1⟩ => thn ((pk_cons pe_w pk_nil).run pos pins s1 σ H1 _ I1 q1) fun ws s2 ⟨zs, H2, I2, r2, q2⟩ => ?_) ?_ ?_ rfl rfl
    · obtain ⟨l, vs', rfl, rfl, hl, rfl, qq⟩ := q2
      (obtain ⟨u, rfl, ru⟩ := vals1 r1)
      cases ru
      obtain ⟨z, rfl, rz⟩ := vals1 r2
      obtain ⟨its, rv, hl', _⟩ := I2.list hl
      have hdp : DpAll X.K H2 (is.map V.int) (is.map PyData.int) := dp_intsB _ _ is
      obtain ⟨as, hra⟩ := Dp.readsAll I2 _ _ _ hdp rv
      have hal : PySem.W.AlikeAll (is.map PyData.int) := by
        refine ⟨fun x hx y hy => ?_, fun x hx e => ?_⟩
        · obtain ⟨i, _, rfl⟩ := List.mem_map.mp hx
          obtain ⟨j, _, rfl⟩ := List.mem_map.mp hy
          simp [PySem.W.alike]
        · obtain ⟨i, _, rfl⟩ := List.mem_map.mp hx
          cases e
      refine PySem.W.max_list_default (I2.ok.hd hc) hl'.isList hra hal ?_ ?_ ?_
      · have := hr.units
        have : PyData.depthAll (is.map .int) = 0 := depthAll_ints is
        omega
      · intro e h' tk keep
        have e' : is = [] := by simpa using e
        subst e'
        exact ⟨.int n, H2, I2.kept (t' := tk) keep, rz, qq⟩
      · intro y ys i v h' tk bs e hv hread keep
        cases is with
        | nil => cases e
        | cons i0 r =>
          cases e
          rw [PySem.W.maxD_ints] at hread
          cases hread with
          | int t => exact ⟨.int (r.foldl max i0), H2, I2.kept (t' := tk) keep, ⟨_, rfl⟩, qq⟩
    · rw [starEach_plain hs]
      rfl
    · exact backTo_plain (by simp [noStars, hs])
  · refine h1 B σ G H _ st fun v G1 H1 m1 st1 hv => ?_
    obtain ⟨l, vs, rfl, hl, r⟩ := hv
    refine h2 B σ G1 H1 _ st1 fun z G2 H2 m2 st2 hz => ?_
    cases hz
    refine ⟨l, vs, rfl, rfl, SqL.of (st2.stp.gh _ _ (m2 _ _ hl)), ?_, kk _ G2 H2 (m1.trans m2) st2 rfl⟩
    exact vals_ints r
end
end Gd

namespace K51
open PySem L2 Gd
/-- two owned objects, the other way round -/
theorem sta_sw {K : Fg} {B : Bs} {δ : List (Option Slot)} {w1 w2 : Own} {σ : SS} {G H : Hp} (st : Sta K B δ [w1, w2] σ G H) : Sta K B δ [w2, w1] σ G H := st.perm (fun w hw => by
    simp only [List.mem_cons, List.not_mem_nil, or_false] at hw ⊢
    exact hw.symm) (by
    have nd := st.nd
    simp only [List.map_cons, List.map_nil, List.nodup_cons, List.mem_cons, List.not_mem_nil, or_false, not_false_eq_true, List.nodup_nil, and_true] at nd ⊢
    exact fun h => nd h.symm)
theorem e_sw {X : Cx} {δ : List (Option Slot)} {e : Expr} {s : Slot} {w1 w2 v1 v2 : Own} (h : E X δ [w2, w1] e s [v2, v1]) : E X δ [w1, w2] e s [v1, v2] := fun B σ G H Q st k => h B σ G H Q (sta_sw st) fun v G' H' m st' hv => k v G' H' m (sta_sw st') hv
theorem t_sw {X : Cx} {δ : List (Option Slot)} {e : Expr} {u : Bool} {w1 w2 v1 v2 : Own} (h : T X δ [w2, w1] e u [v2, v1]) : T X δ [w1, w2] e u [v1, v2] := fun B σ G H Q st k => h B σ G H Q (sta_sw st) fun G' H' m st' => k G' H' m (sta_sw st')
/-! ### drawn changes -/
structure ChS where
  cs : List Ch
  at_ : Int
  c : Int
def chLast (ns : List Int) (many : Int) (s : ChS) : Int := min (s.at_ + nextV ns s.c 3) many
def chM (ns : List Int) (s : ChS) : Int := nextV ns (s.c + 1) 3
def chWs (ns : List Int) (s : ChS) : List Str := wordsV ns (s.c + 1 + 1) (chM ns s)
def chC (ns : List Int) (s : ChS) : Int := s.c + 1 + 1 + ((chM ns s).toNat : Nat)
def chStep (ns : List Int) (many : Int) (s : ChS) : ChS := ⟨if s.at_ < chLast ns many s ∨ chWs ns s ≠ [] then s.cs ++ [⟨s.at_, chLast ns many s, chWs ns s⟩] else s.cs, chLast ns many s + 1 + nextV ns (chC ns s) 4, chC ns s + 1⟩
def chCond (many : Int) (s : ChS) : Bool := decide (s.at_ ≤ many) && decide ((s.cs.length : Int) < 3)
def chGo (ns : List Int) (many : Int) : Nat → ChS → ChS
  | 0, s => s
  | k + 1, s => if chCond many s = true then chGo ns many k (chStep ns many s) else s
def ch0 (ns : List Int) (c : Int) : ChS := ⟨[], nextV ns c 3, c + 1⟩
def chEnd (ns : List Int) (c many : Int) : ChS := chGo ns many (many.toNat + 1) (ch0 ns c)
structure ChI (many : Int) (s : ChS) : Prop where
  c0 : 0 ≤ s.c
  a0 : 0 ≤ s.at_
  good : goodFrom (-1) s.cs
  below : ∀ c ∈ s.cs, c.last < s.at_
  ends : ∀ c ∈ s.cs, c.last ≤ many
  few : s.cs.length ≤ 3
  words : ∀ c ∈ s.cs, c.words.length ≤ 2
theorem chM_bd (ns : List Int) (s : ChS) : 0 ≤ chM ns s ∧ chM ns s < 3 := ⟨nextV_lo (by decide), nextV_hi (by decide)⟩
theorem chLast_bd {ns : List Int} {many : Int} {s : ChS} (h : s.at_ ≤ many) : s.at_ ≤ chLast ns many s ∧ chLast ns many s ≤ many := by
  have : 0 ≤ nextV ns s.c 3 := nextV_lo (by decide)
  unfold chLast
  omega
theorem good_snocI : ∀ {cs : List Ch} {e a : Int} {c : Ch}, goodFrom e cs → (∀ d ∈ cs, d.last < c.first) → e < c.first → Ne1 c → goodFrom e (cs ++ [c])
  | [], e, a, c, _, _, he, hc => ⟨he, hc.le, hc.ok, hc.few, hc.real, trivial⟩
  | d :: r, e, a, c, h, hl, he, hc => ⟨h.1, h.2.1, h.2.2.1, h.2.2.2.1, h.2.2.2.2.1, good_snocI (a := a) h.2.2.2.2.2 (fun x hx => hl x (List.mem_cons_of_mem _ hx)) (hl d List.mem_cons_self) hc⟩
theorem chStep_ok {ns : List Int} {many : Int} {s : ChS} (h : ChI many s) (hc : chCond many s = true) : ChI many (chStep ns many s) ∧ s.at_ + 1 ≤ (chStep ns many s).at_ := by
  unfold chCond at hc
  (simp only [Bool.and_eq_true, decide_eq_true_eq] at hc)
  have hl := chLast_bd (ns := ns) hc.1
  have hm := chM_bd ns s
  have hd : 0 ≤ nextV ns (chC ns s) 4 := nextV_lo (by decide)
  have hcc : 0 ≤ chC ns s := by
    unfold chC
    have := h.c0
    omega
  have hat : (chStep ns many s).at_ = chLast ns many s + 1 + nextV ns (chC ns s) 4 := rfl
  have hwl : (chWs ns s).length ≤ 2 := by
    unfold chWs
    rw [wordsV_len]
    omega
  refine ⟨?_, by omega⟩
  have mem : ∀ d ∈ (chStep ns many s).cs, d ∈ s.cs ∨ d = ⟨s.at_, chLast ns many s, chWs ns s⟩ := fun d hd => by
    unfold chStep at hd
    dsimp only at hd
    split at hd
    · rcases List.mem_append.mp hd with q | q
      · exact .inl q
      · exact .inr (List.mem_singleton.mp q)
    · exact .inl hd
  refine ⟨by show 0 ≤ chC ns s + 1; omega, by have := h.a0; omega, ?_, fun d hd => ?_, fun d hd => ?_, ?_, fun d hd => ?_⟩
  · unfold chStep
    dsimp only
    split
    · rename_i z
      refine good_snocI (a := 0) h.good (fun d hd => h.below d hd) (by show (-1 : Int) < s.at_; have := h.a0; omega) ⟨hl.1, wordsV_ok, by show (chWs ns s).length ≤ 1000; omega, fun q => ?_⟩
      have q1 : s.at_ = chLast ns many s := q.1
      have q2 : chWs ns s = [] := q.2
      rcases z with z | z
      · omega
      · exact z q2
    · exact h.good
  · rcases mem d hd with q | rfl
    · have := h.below d q
      omega
    · show chLast ns many s < _
      omega
  · rcases mem d hd with q | rfl
    · exact h.ends d q
    · exact hl.2
  · have : (s.cs.length : Int) < 3 := hc.2
    unfold chStep
    dsimp only
    split
    · rw [List.length_append]
      simp
      omega
    · omega
  · rcases mem d hd with q | rfl
    · exact h.words d q
    · exact hwl
theorem chGo_ok {ns : List Int} {many : Int} : ∀ (k : Nat) {s : ChS}, ChI many s → ChI many (chGo ns many k s)
  | 0, s, h => h
  | k + 1, s, h => by
    unfold chGo
    split
    · rename_i z
      exact chGo_ok k (chStep_ok h z).1
    · exact h
theorem ch0_ok {ns : List Int} {c many : Int} (h : 0 ≤ c) : ChI many (ch0 ns c) := ⟨by show 0 ≤ c + 1; omega, nextV_lo (by decide), trivial, fun d hd => (nomatch hd), fun d hd => (nomatch hd), Nat.zero_le _, fun d hd => (nomatch hd)⟩
theorem chEnd_ok {ns : List Int} {c many : Int} (h : 0 ≤ c) : ChI many (chEnd ns c many) := chGo_ok _ (ch0_ok h)
theorem ChI.hand {many : Int} {s : ChS} (h : ChI many s) : Hand many s.cs := ⟨h.good, h.ends, Nat.le_trans h.few (by decide), h.words⟩
theorem Hand.small {L : Int} {A : List Ch} (h : Hand L A) : SmallC A ∧ wsum A ≤ 10 := by
  have h1 := wsum_two h.words
  have h2 := h.few
  exact ⟨⟨fun c hc => (good_ne1 h.good c hc).ok.str, by omega, by omega⟩, by omega⟩
abbrev changesN : List Str := ["_law_draw_here", "_law_many", "_law_found", "_law_at", "_law_last", "_law_words_here"]
section
variable {P : Program} {w : World} {K : Fg} {mg : Str → Option Value} {base : Heap} {C CP CT CC : Addr}
theorem scFitD : FnScope ["_law_one", "_law_other"] ["_law_one", "_law_other"] (defScope sFitD) := ⟨rfl, rfl, rfl, by decide +kernel, rfl, by decide +kernel, by decide +kernel⟩
def fsFitD : FS (Ch × Ch) := { args := fun i => [sCh i.1, sCh i.2], pre := fun i => okStrs i.1.words ∧ okStrs i.2.words, res := fun i => sBl (fitC i.1 i.2) }
theorem ok_fitD {f : Addr} {fd : FuncData} (F : Fun K "_law_fit" "_law_fit" sFitD f fd) (b : Binds K fd ["_law_one", "_law_other"] []) : DefOk P w K mg base 1 f [] fsFitD := by
  refine fn_ok F scFitD b .nil (fun _ => rfl) fun ⟨x, y⟩ cdv A outer s G H D EE hr hp hf hn => ?_
  have hp : okStrs x.words ∧ okStrs y.words := hp
  refine j_if (O1 := []) (t_cmp (s1 := sCh x) (s2 := sCh y) (o_eqCh1 (k := 0) hr hp.1 hp.2) (e_name 0) (e_name 1)) (fun h => ?_) (fun h => j_on ?_)
  · have h : x = y := of_decide_eq_true h
    refine j_ret (O1 := []) (s := sBl true) e_bl (fin_ret hf (fun w hw => hw) fun G v hv => ?_)
    show (sBl (fitC x y)).ok _ _ _
    unfold fitC
    rw [if_pos h]
    exact hv
  have h : ¬ x = y := of_decide_eq_false h
  refine j_if (O1 := []) (u := decide (x.first = x.last) && decide (y.first = y.last)) (t_w (tw_and2 (t_cmp (s1 := sInt x.first) (s2 := sInt x.last) o_eq (e_ix (i_tup (ss := [sInt x.first, sInt x.last, sTupl sStr x.words]) 0 rfl rfl) (e_name 0) e_int) (e_ix (i_tup (ss := [sInt x.first, sInt x.last, sTupl sStr x.words]) 1 rfl rfl) (e_name 0) e_int)) (tw_and1 (t_cmp (s1 := sInt y.first) (s2 := sInt y.last) o_eq (e_ix (i_tup (ss := [sInt y.first, sInt y.last, sTupl sStr y.words]) 0 rfl rfl) (e_name 1) e_int) (e_ix (i_tup (ss := [sInt y.first, sInt y.last, sTupl sStr y.words]) 1 rfl rfl) (e_name 1) e_int))))) (fun h2 => ?_) (fun h2 => j_on ?_)
  · have h2 : x.first = x.last ∧ y.first = y.last := by simpa using h2
    refine j_ret (O1 := []) (s := sBl (!decide (x.first = y.first))) (e_cmp (s1 := sInt x.first) (s2 := sInt y.first) o_ne (e_ix (i_tup (ss := [sInt x.first, sInt x.last, sTupl sStr x.words]) 0 rfl rfl) (e_name 0) e_int) (e_ix (i_tup (ss := [sInt y.first, sInt y.last, sTupl sStr y.words]) 0 rfl rfl) (e_name 1) e_int)) (fin_ret hf (fun w hw => hw) fun G v hv => ?_)
    show (sBl (fitC x y)).ok _ _ _
    unfold fitC
    rw [if_neg h, if_pos h2]
    exact hv
  · have h2 : ¬ (x.first = x.last ∧ y.first = y.last) := by simpa using h2
    refine j_ret (O1 := []) (s := sBl (decide (x.last ≤ y.first) || decide (y.last ≤ x.first))) (e_or2 (e_cmp (s1 := sInt x.last) (s2 := sInt y.first) o_le (e_ix (i_tup (ss := [sInt x.first, sInt x.last, sTupl sStr x.words]) 1 rfl rfl) (e_name 0) e_int) (e_ix (i_tup (ss := [sInt y.first, sInt y.last, sTupl sStr y.words]) 0 rfl rfl) (e_name 1) e_int)) (e_one (e_cmp (s1 := sInt y.last) (s2 := sInt x.first) o_le (e_ix (i_tup (ss := [sInt y.first, sInt y.last, sTupl sStr y.words]) 1 rfl rfl) (e_name 1) e_int) (e_ix (i_tup (ss := [sInt x.first, sInt x.last, sTupl sStr x.words]) 0 rfl rfl) (e_name 0) e_int)))) (fin_ret hf (fun w hw => hw) fun G v hv => ?_)
    show (sBl (fitC x y)).ok _ _ _
    unfold fitC
    rw [if_neg h, if_neg h2]
    exact hv

theorem scChangesD : FnScope changesN ["_law_draw_here", "_law_many"] (defScope sChangesD) := ⟨rfl, rfl, rfl, by decide +kernel, rfl, by decide +kernel, by decide +kernel⟩
def fsChangesD : FS DrI := { args := fun i => [sRef i.dr, sInt i.many], own := fun i => [dO i.dr i.ns i.c], pre := fun i => 0 ≤ i.c, res := fun i => sTupl sCh (chEnd i.ns i.c i.many).cs, own' := fun i => [dO i.dr i.ns (chEnd i.ns i.c i.many).c] }
theorem ok_changesD {f fN fW : Addr} {fd : FuncData} (F : Fun K "_law_changes" "_law_changes" sChangesD f fd) (b : Binds K fd ["_law_draw_here", "_law_many"] []) (T : Bt mg) (Cc : Cs K mg)
    (gN : mg "_law_next" = some (.ref fN)) (FN : DefOk P w K mg base 3 fN [] fsNext) (gW : mg "_law_words" = some (.ref fW)) (FW : DefOk P w K mg base 5 fW [] fsWordsD) : DefOk P w K mg base 6 f [] fsChangesD := by
  refine fn_ok F scChangesD b .nil (fun _ => rfl) fun ⟨dr, ns, c, many⟩ cdv A outer s G H D EE hr hp hf hn => ?_
  have hp : 0 ≤ c := hp
  have hr5 : Room 5 _ := hr
  have hr3 : Room 3 _ := hr.mono (by decide)
  refine j_parW1 2 3 (s2 := sInt (nextV ns c 3)) (O1 := [dO dr ns c]) (O2 := [dO dr ns (c + 1)]) (ew_lst (R := sCh) (as := []) el_nil (szl (by simp))) (fun r => e_sw (e_call (S := fsNext) (O2 := [oLst r sCh []]) (dr, ns, c, 3) FN hr3 gN (ea_cons (e_name 0) (ea_cons e_int ea_nil)) (by show 0 ≤ c ∧ (0 : Int) < 3; omega))) (fun fr hfr => ?_) scChangesD.nd
  refine j_while (fun g : ChS => ChI many g ∧ ∃ k, many + 1 - g.at_ ≤ (k : Nat) ∧ chGo ns many k g = chEnd ns c many) (fun g => (many + 1 - g.at_).toNat) (fun g => chCond many g) (fun g => [some (sRef dr), some (sInt many), some (sRef fr), some (sInt g.at_), none, none]) (fun g => [oLst fr sCh g.cs, dO dr ns g.c]) ⟨ch0 ns c, ⟨ch0_ok hp, many.toNat + 1, by
    have : 0 ≤ nextV ns c 3 := nextV_lo (by decide)
    show many + 1 - nextV ns c 3 ≤ _
    omega, rfl⟩, fun _ _ _ _ h => h⟩ (fun g hg => ?_) (fun g hg hb => ?_) (fun g hg hb => ?_)
  · exact t_w (tw_and2 (t_cmp o_le (e_name 3) (e_name 1)) (tw_and1 (t_cmp o_lt (e_lenO (q := fr) (R := sCh) (as := g.cs) 0 T.len (e_name 2)) e_int)))
  · obtain ⟨hI, k, hk, hgo⟩ := hg
    have ok := chStep_ok (ns := ns) hI hb
    have hb' : g.at_ ≤ many ∧ (g.cs.length : Int) < 3 := by
      unfold chCond at hb
      simpa using hb
    have hm := chM_bd ns g
    have hc0 := hI.c0
    have hcc : 0 ≤ chC ns g := by
      unfold chC
      omega
    have hstep : chStep ns many g = ⟨if g.at_ < chLast ns many g ∨ chWs ns g ≠ [] then g.cs ++ [⟨g.at_, chLast ns many g, chWs ns g⟩] else g.cs, chLast ns many g + 1 + nextV ns (chC ns g) 4, chC ns g + 1⟩ := rfl
    have hgo' : ∃ k, many + 1 - (chStep ns many g).at_ ≤ (k : Nat) ∧ chGo ns many k (chStep ns many g) = chEnd ns c many := by
      cases k with
      | zero => omega
      | succ k =>
        refine ⟨k, ?_, ?_⟩
        · have := ok.2
          omega
        · rw [← hgo]
          show _ = (if chCond many g = true then chGo ns many k (chStep ns many g) else g)
          rw [if_pos hb]
    have hmu : (many + 1 - (chStep ns many g).at_).toNat < (many + 1 - g.at_).toNat := by
      have := ok.2
      omega
    have hstr : okStrs (chWs ns g) := (wordsV_ok (ns := ns)).str
    refine j_set 4 (O1 := [oLst fr sCh g.cs, dO dr ns (g.c + 1)]) (s := sInt (chLast ns many g)) (e_callB c_min22 Cc.min (by decide +kernel) (ea_cons (s := sInt (g.at_ + nextV ns g.c 3)) (e_bin o_add (e_name 3) (e_sw (e_call (S := fsNext) (O2 := [oLst fr sCh g.cs]) (dr, ns, g.c, 3) FN hr3 gN (ea_cons (e_name 0) (ea_cons e_int ea_nil)) (by show 0 ≤ g.c ∧ (0 : Int) < 3; omega)))) (ea_cons (e_name 1) ea_nil))) ?_ scChangesD.nd
    refine j_set 5 (O1 := [oLst fr sCh g.cs, dO dr ns (chC ns g)]) (s := sTupl sStr (chWs ns g)) (e_callTy (c_tuple (R := sStr) (as := chWs ns g)) Cc.tuple (by decide +kernel) (ea_cons (e_sw (e_call (S := fsWordsD) (O2 := [oLst fr sCh g.cs]) ⟨dr, ns, g.c + 1 + 1, chM ns g⟩ FW hr5 gW (ea_cons (O1 := [dO dr ns (g.c + 1), oLst fr sCh g.cs]) (e_name 0) (ea_cons (O1 := [dO dr ns (g.c + 1 + 1), oLst fr sCh g.cs]) (e_call (S := fsNext) (O2 := [oLst fr sCh g.cs]) (dr, ns, g.c + 1, 3) FN hr3 gN (ea_cons (e_name 0) (ea_cons e_int ea_nil)) (by show 0 ≤ g.c + 1 ∧ (0 : Int) < 3; omega)) ea_nil)) (by show 0 ≤ g.c + 1 + 1 ∧ 0 ≤ chM ns g ∧ chM ns g ≤ 100000; omega))) ea_nil)) ?_ scChangesD.nd
    refine j_if (O1 := [oLst fr sCh g.cs, dO dr ns (chC ns g)]) (u := decide (g.at_ < chLast ns many g) || !decide (chWs ns g = [])) (t_w (tw_or2 (t_cmp o_lt (e_name 3) (e_name 4)) (tw_or1 (t_cmp (o_neT (k := 0) (hr.mono (by decide)) hstr (fun _ ht => (nomatch ht))) (e_name 5) (e_tupl (R := sStr) (as := []) el_nil (szl (by simp))))))) (fun h => ?_) (fun h => j_on ?_)
    · have h : g.at_ < chLast ns many g ∨ chWs ns g ≠ [] := by simpa using h
      have e1 : (chStep ns many g).cs = g.cs ++ [⟨g.at_, chLast ns many g, chWs ns g⟩] := by rw [hstep]; exact if_pos h
      refine j_expr (e_append (q := fr) (as := g.cs) (R := sCh) (y := ⟨g.at_, chLast ns many g, chWs ns g⟩) 0 (e_name 2) (e_tup (ea_cons (e_name 3) (ea_cons (e_name 4) (ea_cons (e_name 5) ea_nil))) (szl (by simp))) (Nat.lt_of_le_of_lt hI.few (by decide))) (j_on ?_)
      refine j_set 3 (O1 := [oLst fr sCh (g.cs ++ [⟨g.at_, chLast ns many g, chWs ns g⟩]), dO dr ns (chC ns g + 1)]) (s := sInt (chStep ns many g).at_) (e_bin o_add (e_bin o_add (e_name 4) e_int) (e_sw (e_call (S := fsNext) (O2 := [oLst fr sCh (g.cs ++ [⟨g.at_, chLast ns many g, chWs ns g⟩])]) (dr, ns, chC ns g, 4) FN hr3 gN (ea_cons (e_name 0) (ea_cons e_int ea_nil)) (by show 0 ≤ chC ns g ∧ (0 : Int) < 4; omega)))) (j_nil fun σ G H st => ⟨chStep ns many g, G, ⟨⟨ok.1, hgo'⟩, hmu⟩, ?_⟩) scChangesD.nd
      dsimp only
      rw [e1]
      exact st.wk (.same (.same (.same (.same (.skip (.skip .nil))))))
    · have h : ¬ (g.at_ < chLast ns many g ∨ chWs ns g ≠ []) := by
        simp only [Bool.or_eq_false_iff, decide_eq_false_iff_not, Bool.not_eq_false', decide_eq_true_eq] at h
        rintro (z | z)
        · exact h.1 z
        · exact z h.2
      have e1 : (chStep ns many g).cs = g.cs := by rw [hstep]; exact if_neg h
      refine j_set 3 (O1 := [oLst fr sCh g.cs, dO dr ns (chC ns g + 1)]) (s := sInt (chStep ns many g).at_) (e_bin o_add (e_bin o_add (e_name 4) e_int) (e_sw (e_call (S := fsNext) (O2 := [oLst fr sCh g.cs]) (dr, ns, chC ns g, 4) FN hr3 gN (ea_cons (e_name 0) (ea_cons e_int ea_nil)) (by show 0 ≤ chC ns g ∧ (0 : Int) < 4; omega)))) (j_nil fun σ G H st => ⟨chStep ns many g, G, ⟨⟨ok.1, hgo'⟩, hmu⟩, ?_⟩) scChangesD.nd
      dsimp only
      rw [e1]
      exact st.wk (.same (.same (.same (.same (.skip (.skip .nil))))))
  · obtain ⟨hI, k, hk, hgo⟩ := hg
    have he : g = chEnd ns c many := by
      rw [← hgo]
      cases k with
      | zero => rfl
      | succ k =>
        show _ = (if chCond many g = true then _ else g)
        (rw [if_neg (by rw [hb]; exact Bool.false_ne_true)])
    refine j_ret (O1 := [oLst fr sCh g.cs, dO dr ns g.c]) (s := sTupl sCh g.cs) (e_tupleO (q := fr) 0 Cc.tuple (e_name 2)) (fin_ret hf (fun w hw => ?_) fun G v hv => ?_)
    · have hw : w ∈ [dO dr ns (chEnd ns c many).c] := hw
      rw [← he] at hw
      exact List.mem_cons_of_mem _ hw
    · show (sTupl sCh (chEnd ns c many).cs).ok _ _ _
      rw [← he]
      exact hv
end
end K51

namespace Gd
open PySem PySem.Spec PyProof.Rows L2
section
variable {X : Cx} {δ : List (Option Slot)} {O O1 : List Own} {c : Expr} {pos : Pos} {α β : Type} {R : α → Slot} {S : β → Slot} {as : List α}
/-- [elt for a, b, c in iter if test] -/
theorem ew_filterT3 {elt iter : Expr} {scope : Scope} {own : List (Str × Nat)} {r1 r2 r3 : α → Slot} (i j l : Nat) {x1 x2 x3 : Str} {p1 p2 p3 p4 : Pos} {kk : Nat} (t : α → Bool) (f : α → β) (hN : X.N.Nodup) (hi : IT X δ O (.Tuple [.Name x1 p1, .Name x2 p2, .Name x3 p3] kk p4) iter (fun y => sTup [r1 y, r2 y, r3 y]) as O1) (ok : BlkOk X.N X.env.scope scope own)
    (htst : ∀ y, y ∈ as → ∀ s H C cl fp, T (Blk X scope s H C cl fp) (setD (wipeD δ (own.map (·.2))) [(i, r1 y), (j, r2 y), (l, r3 y)]) O1 c (t y) O1)
    (helt : ∀ y, y ∈ as → t y = true → ∀ s H C cl fp, E (Blk X scope s H C cl fp) (setD (wipeD δ (own.map (·.2))) [(i, r1 y), (j, r2 y), (l, r3 y)]) O1 elt (S (f y)) O1) (hz : as.length ≤ sizeLine)
    (hin : ∀ z ∈ [i, j, l], z ∈ own.map (·.2) := by decide) (h1 : X.N[i]? = some x1 := by rfl) (h2 : X.N[j]? = some x2 := by rfl) (h3 : X.N[l]? = some x3 := by rfl)
    (hx1 : ∀ s H C cl fp, Loc (Blk X scope s H C cl fp).env.scope x1 := by intro _ _ _ _ _; first | exact Or.inl rfl | exact Or.inr rfl) (hx2 : ∀ s H C cl fp, Loc (Blk X scope s H C cl fp).env.scope x2 := by intro _ _ _ _ _; first | exact Or.inl rfl | exact Or.inr rfl) (hx3 : ∀ s H C cl fp, Loc (Blk X scope s H C cl fp).env.scope x3 := by intro _ _ _ _ _; first | exact Or.inl rfl | exact Or.inr rfl)
    (hf1 : ∀ s H C cl fp, (Blk X scope s H C cl fp).fn x1 = true ∨ (Blk X scope s H C cl fp).env.scope.names.lookup x1 = some .local := by intro _ _ _ _ _; first | exact .inl rfl | exact .inr rfl) (hf2 : ∀ s H C cl fp, (Blk X scope s H C cl fp).fn x2 = true ∨ (Blk X scope s H C cl fp).env.scope.names.lookup x2 = some .local := by intro _ _ _ _ _; first | exact .inl rfl | exact .inr rfl) (hf3 : ∀ s H C cl fp, (Blk X scope s H C cl fp).fn x3 = true ∨ (Blk X scope s H C cl fp).env.scope.names.lookup x3 = some .local := by intro _ _ _ _ _; first | exact .inl rfl | exact .inr rfl)
    (hc : X.calm = true := by rfl) (hcb : ∀ s H C cl fp, (Blk X scope s H C cl fp).calm = true := by intro _ _ _ _ _; rfl) (hs : noSet iter = true := by rfl) :
    EW X δ O (.ListComp elt [⟨.Tuple [.Name x1 p1, .Name x2 p2, .Name x3 p3] kk p4, iter, [c], 0⟩] scope pos) (fun p => oLst p S ((as.filter t).map f)) O1 := by
  have h := ew_compG (pos := pos) (S := S) (g := gTup X.K 3 (gCons (gName i) (gCons (gName j) (gCons (gName l) gNil)))) (fun y => [(i, r1 y), (j, r2 y), (l, r3 y)]) [i, j, l] (fun _ => O1) (fun _ => O1) (fun k => (as[k]?.map t).getD false) (fun k => ((as.take k).filter t).map f) hN
    (fun s H C cl fp => pg_tup (hcb s H C cl fp) (pgs_cons (pg_name hN h1 (hx1 s H C cl fp) (hf1 s H C cl fp)) (pgs_cons (pg_name hN h2 (hx2 s H C cl fp) (hf2 s H C cl fp)) (pgs_cons (pg_name hN h3 (hx3 s H C cl fp) (hf3 s H C cl fp)) pgs_nil))))
    (fun B δ O σ G H y v Q st hv k => by
      obtain ⟨p, vs, rfl, hp, h⟩ := hv
      obtain ⟨v1, v2, v3, rfl, e1, e2, e3⟩ := alls3 h
      refine ⟨p, _, rfl, sqT_up st.stp.gh hp, rfl, v1, [v2, v3], rfl, v2, [v3], rfl, v3, [], rfl, rfl, k _ (((st.set e1).set e2).set e3) fun vs hvs => ?_⟩
      rw [wipe_set (hvs l (by simp)), wipe_set (hvs j (by simp)), wipe_set (hvs i (by simp))])
    hi ok (fun k y hy s H C cl fp => ts_one (by rw [hy]; exact htst y (List.mem_of_getElem? hy) s H C cl fp))
    (fun k y hy ht => by
      rw [hy] at ht
      have ht : t y = true := ht
      refine ⟨f y, ?_, fun s H C cl fp => helt y (List.mem_of_getElem? hy) ht s H C cl fp⟩
      show ((as.take (k + 1)).filter t).map f = _
      rw [take_succ hy, List.filter_append, List.map_append, List.filter_cons_of_pos ht]
      rfl)
    (fun k hk ht => by
      refine ⟨rfl, ?_⟩
      have hy := List.getElem?_eq_getElem hk
      rw [hy] at ht
      have ht : t as[k] = false := ht
      show ((as.take (k + 1)).filter t).map f = _
      rw [take_succ hy, List.filter_append, List.map_append, List.filter_cons_of_neg (by rw [ht]; exact Bool.false_ne_true)]
      simp) rfl hz hin (.inr ⟨_, rfl⟩) hc hs
  simpa only [List.take_length] using h
end
end Gd
namespace K51
open PySem L2 Gd
theorem sta_r3 {K : Fg} {B : Bs} {δ : List (Option Slot)} {w1 w2 w3 : Own} {σ : SS} {G H : Hp} (st : Sta K B δ [w1, w2, w3] σ G H) : Sta K B δ [w3, w1, w2] σ G H := st.perm (fun w hw => by
    simp only [List.mem_cons, List.not_mem_nil, or_false] at hw ⊢
    rcases hw with h | h | h
    · exact .inr (.inr h)
    · exact .inl h
    · exact .inr (.inl h)) (by
    have nd := st.nd
    simp only [List.map_cons, List.map_nil, List.nodup_cons, List.mem_cons, List.not_mem_nil, or_false, not_false_eq_true, List.nodup_nil, and_true, not_or] at nd ⊢
    exact ⟨⟨fun h => nd.1.2 h.symm, fun h => nd.2 h.symm⟩, nd.1.1⟩)
structure WvI where
  dr : Addr
  ns : List Int
  c : Int
  L : Int
  U : List Ch
  pool : List Ch
  ws : List Str
structure WvP (i : WvI) : Prop where
  c0 : 0 ≤ i.c
  uni : Uni i.L i.U
  l0 : 0 ≤ i.L
  ll : i.L ≤ i.ws.length
  nd : i.pool.Nodup
  sub : ∀ c ∈ i.pool, c ∈ i.U
  few : i.ws.length ≤ 100
abbrev weaveN : List Str := ["_law_draw_here", "_law_changes_here", "_law_words_here", "_law_now", "_law_done", "_law_left", "_law_first", "_law_last", "_law_new", "_law_more", "_law_late", "_law_start", "_law_end"]
theorem Uni.pool {L : Int} {U pool : List Ch} (h : Uni L U) (nd : pool.Nodup) (hs : ∀ c ∈ pool, c ∈ U) : pool.length ≤ 13 := Nat.le_trans (List.Nodup.length_le_of_subset nd hs) h.few
theorem now_same {ws : List Str} {U D E : List Ch} (h : ∀ c, c ∈ D ↔ c ∈ E) : nowV ws U D = nowV ws U E := by
  unfold nowV
  have : (fun c => decide (c ∈ D)) = fun c => decide (c ∈ E) := by
    funext c
    simp [h c]
  rw [this]
section
variable {P : Program} {w : World} {K : Fg} {mg : Str → Option Value} {base : Heap} {C CP CT CC : Addr}
theorem scWeave : FnScope weaveN ["_law_draw_here", "_law_changes_here", "_law_words_here"] (defScope sWeaveD) := ⟨rfl, rfl, rfl, by decide +kernel, rfl, by decide +kernel, by decide +kernel⟩
def fsWeaveD : FS WvI := { args := fun i => [sRef i.dr, sLst sCh i.pool, sLst sStr i.ws], own := fun i => [dO i.dr i.ns i.c], pre := WvP, res := fun i => sLst sStr (nowV i.ws i.U i.pool), own' := fun i => [dO i.dr i.ns (i.c + i.pool.length)] }
theorem ok_weaveD {f fN : Addr} {fd : FuncData} (F : Fun K "_law_weave" "_law_weave" sWeaveD f fd) (b : Binds K fd ["_law_draw_here", "_law_changes_here", "_law_words_here"] []) (T : Bt mg) (Cc : Cs K mg) (zs : mg "sum" = none)
    (gN : mg "_law_next" = some (.ref fN)) (FN : DefOk P w K mg base 3 fN [] fsNext) : DefOk P w K mg base 4 f [] fsWeaveD := by
  refine fn_ok F scWeave b .nil (fun _ => rfl) fun ⟨dr, ns, c, L, U, pool, ws⟩ cdv A outer s G H D EE hr hp hf hn => ?_
  have hp : WvP ⟨dr, ns, c, L, U, pool, ws⟩ := hp
  have hc0 : 0 ≤ c := hp.c0
  have hU : Uni L U := hp.uni
  have hl0 : 0 ≤ L := hp.l0
  have hll : L ≤ ws.length := hp.ll
  have hnd : pool.Nodup := hp.nd
  have hsub : ∀ c ∈ pool, c ∈ U := hp.sub
  have hws : ws.length ≤ 100 := hp.few
  have h9 := hU.pool hnd hsub
  have hr3 : Room 3 _ := hr
  (have hr1 : Room 1 _ := hr.mono (by decide))
  have hstr : ∀ d ∈ U, okStrs d.words := fun d hd => (hU.ne d hd).ok.str
  refine j_par3EWW 3 4 5 (s1 := sLst sStr ws) (O1 := [dO dr ns c]) (O2 := [dO dr ns c]) (φ := fun r => oLst r sCh []) (ψ := fun r => oLst r sCh pool) (e_lst (ew_callTy c_list Cc.list (by decide +kernel) (ea_cons (e_name 2) ea_nil))) (ew_lst (R := sCh) (as := []) el_nil (szl (by simp))) (fun r => ew_callTy c_list Cc.list (by decide +kernel) (ea_cons (e_name 1) ea_nil)) (fun fd fl hfd hfl => ?_) scWeave.nd
  refine j_while (fun g : List Ch × List Ch => (g.1 ++ g.2).Perm pool) (fun g => g.2.length) (fun g => !g.2.isEmpty) (fun g => [some (sRef dr), some (sLst sCh pool), some (sLst sStr ws), some (sLst sStr (nowV ws U g.1)), some (sRef fd), some (sRef fl), none, none, none, none, none, none, none]) (fun g => [dO dr ns (c + g.1.length), oLst fl sCh g.2, oLst fd sCh g.1])
    ⟨([], pool), List.Perm.refl _, fun B σ G H st => ?_⟩ (fun g hg => ?_) (fun g hg hb => ?_) (fun g hg hb => ?_)
  · dsimp only
    rw [now_nil (L := L)]
    have e : c + (([] : List Ch).length : Int) = c := by simp
    rw [e]
    exact (sta_r3 st)
  · refine t_neNil (q := fl) (as := g.2) (R := sCh) (d := chD) 1 hr1 isD_ch (e_name 5) (shaped_chs fun d hd => hstr d (hsub d (hg.mem_iff.mp (List.mem_append_right _ hd))))
  · obtain ⟨D, left⟩ := g
    have hg : (D ++ left).Perm pool := hg
    have hb : (!left.isEmpty) = true := hb
    have hpos : 0 < left.length := by
      cases left with
      | nil => cases hb
      | cons x r => exact Nat.succ_pos _
    have hlen : D.length + left.length = pool.length := by
      have := hg.length_eq
      rwa [List.length_append] at this
    have hDc : 0 ≤ c + (D.length : Int) := by omega
    have n1 : 0 ≤ nextV ns (c + (D.length : Int)) (left.length : Int) := nextV_lo (by omega)
    have n2 : nextV ns (c + (D.length : Int)) (left.length : Int) < (left.length : Int) := nextV_hi (by omega)
    obtain ⟨kk, hkk⟩ : ∃ kk : Nat, nextV ns (c + (D.length : Int)) (left.length : Int) = (kk : Int) := ⟨_, (Int.toNat_of_nonneg n1).symm⟩
    have hk : kk < left.length := by omega
    obtain ⟨ch, hch⟩ : ∃ ch, left[kk]? = some ch := ⟨_, List.getElem?_eq_getElem hk⟩
    have hperm : (ch :: left.eraseIdx kk).Perm left := by
      have e1 : left = left.take kk ++ ch :: left.drop (kk + 1) := by
        obtain ⟨hl, he⟩ := List.getElem?_eq_some_iff.mp hch
        (rw [← he, ← List.drop_eq_getElem_cons hl, List.take_append_drop])
      have e2 : left.eraseIdx kk = left.take kk ++ left.drop (kk + 1) := List.eraseIdx_eq_take_drop_succ ..
      rw [e2]
      conv => rhs; rw [e1]
      exact List.perm_middle.symm
    have hg2 : ((D ++ [ch]) ++ left.eraseIdx kk).Perm pool := by
      rw [List.append_assoc]
      exact (hperm.append_left D).trans hg
    have hel : (left.eraseIdx kk).length + 1 = left.length := by
      have := hperm.length_eq
      rwa [List.length_cons] at this
    have ndD : (D ++ left).Nodup := hg.nodup_iff.mpr hnd
    have hmem : ∀ d, d ∈ D ++ left → d ∈ U := fun d hd => hsub d (hg.mem_iff.mp hd)
    have hDU : ∀ d ∈ D, d ∈ U := fun d hd => hmem d (List.mem_append_left _ hd)
    have hcl : ch ∈ left := List.mem_of_getElem? hch
    have hcU : ch ∈ U := hmem ch (List.mem_append_right _ hcl)
    have hcD : ch ∉ D := fun z => (List.nodup_append.mp ndD).2.2 ch z ch hcl rfl
    have wv := weave_step (ws := ws) hU hll hDU (List.nodup_append.mp ndD).1 hcU hcD hl0
    have hlw := now_len (D := D) hU hll hl0
    have hcw := hU.words ch hcU
    have h0 := wv.lo
    have h1 := wv.le
    have next : nowV ws U (D ++ [ch]) = cutA (nowV ws U D) none (some (ch.first + moreC D ch)) ++ ch.words ++ cutA (nowV ws U D) (some (ch.last + moreC D ch)) none := by
      rw [← wv.eq, cutA_take _ h0, cutA_drop _ (by omega)]
      rfl
    have hDs : D.length ≤ 13 := by omega
    dsimp only
    generalize nowV ws U D = late at hlw next
    have l1 := cutA_len late none (some (ch.first + moreC D ch))
    have l2 := cutA_len late (some (ch.last + moreC D ch)) none
    refine j_asgT (R := sCh) (y := ch) (O1 := [dO dr ns (c + D.length + 1), oLst fl sCh (left.eraseIdx kk), oLst fd sCh D]) (tg_tup3 (r1 := fun c : Ch => sInt c.first) (r2 := fun c : Ch => sInt c.last) (r3 := fun c : Ch => sTupl sStr c.words) 6 7 8 scWeave.nd)
      (e_popAt (q := fl) (as := left) (R := sCh) (O1 := [dO dr ns (c + D.length), oLst fl sCh left, oLst fd sCh D]) (O2 := [dO dr ns (c + D.length + 1), oLst fl sCh left, oLst fd sCh D]) 1 (e_name 5) (e_callR (S := fsNext) (O2 := [oLst fl sCh left, oLst fd sCh D]) (dr, ns, c + D.length, (left.length : Int)) FN hr3 gN (ea_cons (e_name 0) (ea_cons (e_lenO (q := fl) (R := sCh) (as := left) 1 T.len (e_name 5)) ea_nil)) (by show 0 ≤ c + (D.length : Int) ∧ (0 : Int) < left.length; omega)) hkk hch (by omega)) ?_
    refine j_set 9 (O1 := [dO dr ns (c + D.length + 1), oLst fl sCh (left.eraseIdx kk), oLst fd sCh D]) (s := sInt (moreC D ch)) ?_ ?_ scWeave.nd
    · refine e_borrow (q := fd) (as := D) (R := sCh) 4 2 ?_
      refine e_callB (c_sum (is := (D.filter (aheadC · ch)).map Ed.growth)) zs (by decide +kernel) (ea_cons (e_lst ?_) ea_nil)
      refine ew_filterT3 (S := sInt) (as := D) (r1 := fun c : Ch => sInt c.first) (r2 := fun c : Ch => sInt c.last) (r3 := fun c : Ch => sTupl sStr c.words) 11 12 10 (fun d => aheadC d ch) Ed.growth scWeave.nd (it_lst (e_name 4)) (blkOk_by (own := [("_law_start", 11), ("_law_end", 12), ("_law_late", 10)]) (N := weaveN) (sc := defScope sWeaveD) (by decide +kernel)) (fun y hy s H _ cl fp => ?_) (fun y hy _ s H _ cl fp => ?_) (szl (by omega))
      · refine t_w (tw_and2 (t_cmp (s1 := sInt y.last) (s2 := sInt ch.first) o_le (e_name 12) (e_name 6)) (tw_and1 (t_cmp (s1 := sTup [sInt y.first, sInt y.last]) (s2 := sTup [sInt ch.first, sInt ch.last]) (o_neD (k := 1) (w := decide (y.first = ch.first ∧ y.last = ch.last)) hr1 isD_tup2' isD_tup2' shaped_ii shaped_ii (by simp [PyData.eqv, PyData.eqvAll, Bool.beq_eq_decide_eq])) (e_tup (ea_cons (e_name 11) (ea_cons (e_name 12) ea_nil)) (szl (by simp))) (e_tup (ea_cons (e_name 6) (ea_cons (e_name 7) ea_nil)) (szl (by simp))))))
      · refine e_eqS (e_bin (s3 := sInt ((y.words.length : Int) - (y.last - y.first))) o_sub (e_callB c_lenT T.len PySem.boot_len (ea_cons (e_name (s := sTupl sStr y.words) 10) ea_nil)) (e_bin (s1 := sInt y.last) (s2 := sInt y.first) o_sub (e_name 12) (e_name 11))) (congrArg sInt (growth_eq y).symm)
    refine j_set 3 (O1 := [dO dr ns (c + D.length + 1), oLst fl sCh (left.eraseIdx kk), oLst fd sCh D]) (s := sLst sStr (cutA late none (some (ch.first + moreC D ch)) ++ ch.words ++ cutA late (some (ch.last + moreC D ch)) none)) (e_lst (ew_bin (o_cat (szl (by rw [List.length_append]; omega))) (e_lst (ew_bin (o_cat (szl (by omega))) (e_lst (ew_slice (e_name 3) po_n (po_s (e_bin o_add (e_name (s := sInt ch.first) 6) (e_name 9))))) (e_lst (ew_callTy c_listT Cc.list (by decide +kernel) (ea_cons (e_name (s := sTupl sStr ch.words) 8) ea_nil))))) (e_lst (ew_slice (e_name 3) (po_s (e_bin o_add (e_name (s := sInt ch.last) 7) (e_name 9))) po_n)))) ?_ scWeave.nd
    refine j_expr (e_append (q := fd) (as := D) (R := sCh) (y := ch) 2 (e_name 4) (e_tup (ea_cons (e_name 6) (ea_cons (e_name 7) (ea_cons (e_name 8) ea_nil))) (szl (by simp))) (Nat.lt_of_le_of_lt hDs (by decide))) (j_nil fun σ G H st => ⟨(D ++ [ch], left.eraseIdx kk), G, ⟨hg2, by show (left.eraseIdx kk).length < left.length; omega⟩, ?_⟩)
    dsimp only
    rw [next]
    have e : c + (((D ++ [ch]).length : Nat) : Int) = c + (D.length : Int) + 1 := by
      (rw [List.length_append, List.length_singleton])
      omega
    rw [e]
    exact st.wk (.same (.same (.same (.same (.same (.same (.skip (.skip (.skip (.skip (.same (.same (.same .nil)))))))))))))
  · obtain ⟨D, left⟩ := g
    have hg : (D ++ left).Perm pool := hg
    have hb : (!left.isEmpty) = false := hb
    have hleft : left = [] := by
      cases left with
      | nil => rfl
      | cons x r => cases hb
    subst hleft
    rw [List.append_nil] at hg
    have e1 : nowV ws U D = nowV ws U pool := now_same fun d => hg.mem_iff
    have e2 : D.length = pool.length := hg.length_eq
    refine j_ret (O1 := [dO dr ns (c + D.length), oLst fl sCh [], oLst fd sCh D]) (s := sLst sStr (nowV ws U D)) (e_name 3) (fin_ret hf (fun w hw => ?_) fun G v hv => ?_)
    · have hw : w ∈ [dO dr ns (c + pool.length)] := hw
      rw [List.mem_singleton] at hw
      rw [hw, ← e2]
      exact List.mem_cons_self
    · show (sLst sStr (nowV ws U pool)).ok _ _ _
      rw [← e1]
      exact hv
end
end K51

/-! set(rows), rows a list of tuples of ints, of any length with few distinct ones; sorted(set) -/
namespace Gd
open PySem PySem.Spec PyProof.Rows L2
section
variable {P : Program} {w : World} {A : Around} {E : Value → Shared → Prop} {s : Shared}
theorem got_few {ks L U : List (Addr × List Int)} {u : List (List Int)} {i : Nat} (g : Got ks i L) (nd : (L.map (·.2)).Nodup) (hu : ∀ p ∈ ks, p.2 ∈ u) : L.length ≤ u.length := by
  have h := List.Nodup.length_le_of_subset nd fun k hk => by
    obtain ⟨p, hp, rfl⟩ := List.mem_map.mp hk
    exact hu p (List.mem_of_mem_take (g.sub p hp))
  rwa [List.length_map] at h
/-- set.update's loop -/
theorem set_updT {I : Addr} {fp wr : List Addr} {Gg : Array GenState → Array GenState → Prop} {n : Nat} {Pv : Nat → Value → Prop} {St : Nat → Shared → Prop} {R : Result → Shared → Prop} (W : WalksS P w A.in1 I fp wr Gg n Pv St) (S : Addr) (hSf : S ∉ fp) (ks : List (Addr × List Int)) (u : List (List Int)) (hn : n = ks.length) (hfew : u.length < 63)
    (huu : ∀ p ∈ ks, p.2 ∈ u) (hval : ∀ i v, Pv i v → ∃ p, ks[i]? = some p ∧ v = .ref p.1) (h0 : Heap) (hk : ∀ p ∈ ks, IsT P w h0 p.2 p.1) (hS0 : h0.get? S = none) (hw0 : ∀ b ∈ wr, h0.get? b = none) (hu : A.in1.units < cLine) :
    ∀ (k i : Nat) (s : Shared), n - i = k → i ≤ n → St i s → (∀ b o, h0.get? b = some o → s.heap.get? b = some o) → (∃ L es ep t, SetTR P w s.heap S L es ep t ∧ Got ks i L) → -- -
      (∀ s' L es ep t, Moved (S :: wr) Gg s s' → SetTR P w s'.heap S L es ep t → Got ks n L → (∀ b o, h0.get? b = some o → s'.heap.get? b = some o) → R (.ok (.ret .none)) s') → codeAny (model P w) A (.builtin "set.update.loop" ⟨[.ref S, .ref I], []⟩) R s := by
  (have hSw : S ∉ wr := fun h => hSf (W.sub _ h))
  have sub1 : ∀ b ∈ wr, b ∈ S :: wr := fun b hb => List.mem_cons_of_mem _ hb
  have keepM : ∀ {a b : Shared}, Moved wr Gg a b → (∀ c o, h0.get? c = some o → a.heap.get? c = some o) → ∀ c o, h0.get? c = some o → b.heap.get? c = some o := fun hm hkp c o e => hm.heap c o (fun hb => by rw [hw0 c hb] at e; cases e) (hkp c o e)
  intro k
  induction k with
  | zero =>
    rintro i s hk' hi hst hkp ⟨L, es, ep, t, hS, g⟩ hR
    obtain rfl : i = n := by omega
    (refine codeAny_builtin PyProof.Rows.F.entry_set_update_loop ?_)
    (rw [Around.under_plainId PyProof.Rows.F.plain_set_update_loop _])
    (show wpAny _ A.in1 (pyNext (.ref I) >>= _) _ _ s)
    refine wpAny_bind (W.done s _ _ hst fun s1 hm => ?_)
    show wpAny _ A.in1 (ret Value.none) _ _ s1
    have hkp1 := keepM hm hkp
    exact wpAny_pure (hR s1 L es ep t (hm.mono sub1) (hS.keep (fun o e => hm.heap S o hSw e) fun p hp => isT_keep (hk p (List.mem_of_mem_take (g.sub p hp))) hkp1) g hkp1)
  | succ k ih =>
    rintro i s hk' hi hst hkp ⟨L, es, ep, t, hS, g⟩ hR
    have hlt : i < n := by omega
    (refine codeAny_builtin PyProof.Rows.F.entry_set_update_loop ?_)
    (rw [Around.under_plainId PyProof.Rows.F.plain_set_update_loop _])
    (show wpAny _ A.in1 (pyNext (.ref I) >>= _) _ _ s)
    refine wpAny_bind (W.item i s _ _ hlt hst fun v s1 hP hst1 hm => ?_)
    (obtain ⟨p, hp, rfl⟩ := hval i v hP)
    have hkp1 := keepM hm hkp
    have hS1 : SetTR P w s1.heap S L es ep t := hS.keep (fun o e => hm.heap S o hSw e) fun q hq => isT_keep (hk q (List.mem_of_mem_take (g.sub q hq))) hkp1
    have hx : IsT P w s1.heap p.2 p.1 := isT_keep (hk p (List.mem_of_getElem? hp)) hkp1
    show wpAny _ A.in1 (holding [Value.ref p.1] (setAdd S (.ref p.1)) >>= _) _ _ s1
    (refine wpAny_bind (wpAny_holding ?_))
    unfold setAdd
    refine wpAny_holding (wpAny_bind (wpAny_pyHash_tuple hu hx ?_))
    have few := got_few (U := []) g hS.nd huu
    refine add_at (s := { s1 with toks := s1.toks + (p.2.length + 1) }) hS1 hx hu (by omega) fun b h2 L2 es2 ep2 t2 hsb hS2 c1 c2 => ?_
    have g2 : Got ks (i + 1) L2 := by
      (rcases Classical.em (p.2 ∈ L.map (·.2)) with c | c)
      · rw [c1 c]
        exact g.same hp c
      · exact g.more hp (c2 c)
    have ne0 : ∀ b o, h0.get? b = some o → b ≠ S := fun b o e z => by rw [z, hS0] at e; cases e
    refine wpAny_pure ⟨plainId_quiet PyProof.Rows.F.plain_set_update_loop _, ih (i + 1) _ (by omega) hlt (W.frame _ s1 _ _ hst1 (Nat.le_add_right _ _) fun b hb o e => ?_) (fun b o e => (hsb.2 b (ne0 b o e)).trans (hkp1 b o e)) ⟨L2, es2, ep2, t2, hS2, g2⟩ fun s3 L3 es3 ep3 t3 m3 hS3 g3 k3 => ?_⟩
    · rw [hsb.2 b (fun h : b = S => hSf (by rw [← h]; exact hb))]
      exact e
    · refine hR s3 L3 es3 ep3 t3 (Moved.trans W.gtrans ((hm.mono sub1).then_heap (Nat.le_add_right _ _) fun b o hb e => ?_) m3) hS3 g3 k3
      rw [hsb.2 b (fun h : b = S => hb (by rw [h]; exact List.mem_cons_self))]
      exact e
set_option maxHeartbeats 8000000 in
theorem call_set_lstT {l : Addr} {items : Array Value} (ks : List (Addr × List Int)) (u : List (List Int)) {Q : Value → Shared → Prop} (hh : A.handled = none) (hl : s.heap.IsList l items) (hit : items.toList = ks.map fun p => Value.ref p.1) (hk : ∀ p ∈ ks, IsT P w s.heap p.2 p.1)
    (hfew : u.length < 63) (huu : ∀ p ∈ ks, p.2 ∈ u) (hu : A.units + 3 < cLine)
    (h : ∀ (h' : Heap) (tk : Nat) L es ep t, SetTR P w h' s.heap.objs.size L es ep t → Got ks ks.length L → (∀ b o, s.heap.get? b = some o → h'.get? b = some o) → Q (.ref s.heap.objs.size) { s with heap := h', toks := tk }) : -- -
    wpAny (model P w) A (call (.type "set") [.ref l]) Q E s := by -- -
  have hisz : items.size = ks.length := by -- -
    (have q := congrArg List.length hit)
    (rw [Array.length_toList, List.length_map] at q)
    exact q
  (obtain ⟨c, tl, hmro⟩ := PySem.F.called_set.mro)
  (have hmade := PySem.F.called_set.made)
  (have hsub := PySem.F.called_set.sub)
  (refine wpAny_call (codeAny_of_tree ?_))
  (show wpAny _ _ (callAny (.type "set") _) _ _ _)
  (refine wpAny_pure ⟨Code.quiet_builtin _ (by decide +kernel), codeAny_builtin PySem.F.entry_type_call ?_⟩)
  (rw [Around.under_plain (weight_type_call_type "set" [.ref l] []) rfl])
  (have h1 := PySem.F.called_set.notType)
  (have h2 := PySem.F.called_set.canCreate)
  (have hct := PySem.F.typeCall_set_1 (.ref l))
  repeat (any_goals (first | assumption | wp_step)) -- -
  refine codeAny_mono (code_set_led1 (.ref l) (E := E) (Q₁ := fun obj s₁ => obj = .ref s.heap.objs.size ∧ s₁ = { s with heap := s.heap.push (Gd.fso w) }) ⟨rfl, rfl⟩) fun r s₁ hr => ?_
  cases r with
  | error e => exact hr
  | ok fl =>
    cases fl with
    | ret obj =>
      obtain ⟨rfl, rfl⟩ := hr
      have hS : (s.heap.push (Gd.fso w)).get? s.heap.objs.size = some (Gd.fso w) := Heap.get?_push_size _ rfl
      have hT : Shared.TypeIs { s with heap := s.heap.push (Gd.fso w) } (.ref s.heap.objs.size) "set" := ⟨_, hS, rfl⟩
      (have hli := PySem.F.called_set.init.lookup)
      (have hbi := PySem.F.called_set.init.bind (.ref s.heap.objs.size))
      repeat (any_goals (first | assumption | wp_step)) -- -
      refine codeAny_mono (codeAny_call_builtin (R := wants (fun r s₂ => r = .none ∧ ∃ h' tk L es ep t, s₂ = { s with heap := h', toks := tk } ∧ SetTR P w h' s.heap.objs.size L es ep t ∧ Got ks ks.length L ∧ -- -
          (∀ b o, s.heap.get? b = some o → h'.get? b = some o)) E) PySem.F.called_set.init.plain PySem.F.entry_set_init (check_set_init_1 hT ?_)) fun r₂ s₂ hr₂ => ?_
      · (obtain ⟨ol, hol, hcl, nl, hdl⟩ := hl)
        (obtain ⟨ocls, odict, odata, oslots⟩ := ol)
        simp only at hcl hdl
        subst hcl; subst hdl
        have hol' : (s.heap.push (Gd.fso w)).get? l = some { cls := .type "list", dict := odict, data := .seq items nl, slots := oslots } := Heap.get?_push_of_some _ hol
        (have hsls := PySem.F.sub_list_set)
        (have hslf := PySem.F.sub_list_frozenset)
        (have hne : (Value.type "list" == Value.type "dict") = false := by decide)
        have hl1 : (s.heap.push (Gd.fso w)).IsList l items := ⟨_, hol', rfl, nl, rfl⟩
        (unfold Builtin.«set.__init__» noKeywords Builtin.Frozenset.updateFrom)
        generalize hPI : pyIter = PI
        wp_walk
        subst hPI
        (refine wpAny_pyIter_list hl1 ?_)
        (refine wpAny_bind (wpAny_runValue ?_))
        (have hlS : l < s.heap.objs.size := Heap.lt_size hol)
        (have hh3 : A.in1.in1.in1.handled = none := by simp [hh])
        have hneI : l ≠ (s.heap.push (Gd.fso w)).objs.size := by
          (rw [Heap.size_push]; exact Nat.ne_of_lt (Nat.lt_succ_of_lt hlS))
        have hSf : s.heap.objs.size ∉ [(s.heap.push (Gd.fso w)).objs.size, l] := by
          (rw [Heap.size_push]; simp only [List.mem_cons, List.mem_singleton, List.not_mem_nil, or_false, not_or])
          (exact ⟨Nat.ne_of_lt (Nat.lt_succ_self _), Nat.ne_of_gt hlS⟩)
        have hval : ∀ (i : Nat) (v : Value), items[i]? = some v → ∃ p, ks[i]? = some p ∧ v = .ref p.1 := fun i v hv => by -- -
          (have q : items.toList[i]? = some v := by rw [Array.getElem?_toList]; exact hv)
          (rw [hit, List.getElem?_map] at q)
          cases hq : ks[i]? with
          | none => rw [hq] at q; cases q -- -
          | some p =>
            rw [hq] at q
            (exact ⟨p, rfl, (Option.some.inj q).symm⟩)
        have none_of : ∀ b, s.heap.objs.size ≤ b → s.heap.get? b = none := fun b hb => by -- -
          cases q : s.heap.get? b with
          | none => rfl
          | some o => exact absurd (Nat.lt_of_lt_of_le (Heap.lt_size q) hb) (Nat.lt_irrefl _) -- -
        refine set_updT ((Walks.list hh3 _ l hneI items).toS) s.heap.objs.size hSf ks u hisz hfew huu hval s.heap hk (none_of _ (Nat.le_refl _)) (fun b hb => none_of b (by
            (rw [List.mem_singleton.mp hb, Heap.size_push])
            exact Nat.le_succ _)) hu (items.size - 0) 0 _ (by omega) (Nat.zero_le _) ⟨⟨_, Heap.get?_push_size _ rfl, rfl, rfl⟩, (hl1.push _)⟩ (fun b o e => Heap.get?_push_of_some _ (Heap.get?_push_of_some _ e)) ?hS0 ?hR
        case hS0 =>
          have hget : ((s.heap.push (Gd.fso w)).push { cls := .type "list_iterator", data := .fields #[.ref l, .int 0 0] }).get? s.heap.objs.size = some (Gd.fso w) := Heap.get?_push_of_some _ hS
          (exact ⟨[], #[], 0, _, setTR_fresh hget, Got.zero ks⟩)
        case hR =>
          (intro s' L es ep t hm hS' g' hkp)
          (obtain ⟨h', g2, d', tk', os'⟩ := s')
          (have eg : g2 = s.gens := hm.gens)
          (have ed : d' = s.drawn := hm.drawn)
          have eo : os' = s.os := hm.os
          subst eg; subst ed; subst eo
          show wpAny _ _ _ _ _ _
          refine wpAny_pure ?_
          (show wpAny _ _ (ret Value.none) _ _ _)
          rw [hisz] at g'
          (exact wpAny_pure ⟨rfl, h', tk', L, es, ep, t, rfl, hS', g', hkp⟩)
      · cases r₂ with
        | error e => exact hr₂
        | ok fl₂ =>
          cases fl₂ with
          | ret r =>
            (obtain ⟨rfl, h', tk, L, es, ep, t, rfl, hS', g', hk'⟩ := hr₂)
            repeat (any_goals (first | assumption | wp_step)) -- -
            exact h _ _ _ _ _ _ hS' g' hk' -- -
          | _ => exact hr₂.elim
    | _ => exact hr.elim
end
end Gd

namespace Gd
open PySem PySem.W PySem.Calls PySem.SeqAt PyProof.Rows L2
/-! ### the order of rows -/
theorem dataLe_encT : dataLe false encT = fun p q : List Int => decide (p ≤ q) := by
  funext p q
  show (!dataLt (.tuple (q.map .int)) (.tuple (p.map .int))) = _
  rw [dataLt_tuple]
  show (!rowLt (q.map .int) (p.map .int)) = _
  rw [dataLt_ints]
  by_cases h : q < p
  · have h' : ¬ p ≤ q := fun r => List.not_lt.mpr r h
    simp [h, h']
  · have h' : p ≤ q := List.not_lt.mp h
    simp [h, h']
theorem sortT_pw (rows : List (List Int)) : (sortB encT rows).Pairwise (fun p q => p ≤ q) := by
  unfold sortB
  rw [dataLe_encT]
  have h1 : (rows.mergeSort fun p q : List Int => decide (p ≤ q)).Pairwise (fun a b => decide (a ≤ b) = true) := List.pairwise_mergeSort (le := fun p q : List Int => decide (p ≤ q)) (fun a b c h1 h2 => decide_eq_true (List.le_trans (of_decide_eq_true h1) (of_decide_eq_true h2))) (fun a b => by
    rcases List.le_total a b with h | h <;> simp [h]) _
  exact h1.imp fun h => of_decide_eq_true h
theorem sortT_perm (rows : List (List Int)) : (sortB encT rows).Perm rows := List.mergeSort_perm _ _
theorem sortT_eq {a b : List (List Int)} (h : a.Perm b) : sortB encT a = sortB encT b :=
  List.Perm.eq_of_pairwise (fun a b _ _ h1 h2 => List.le_antisymm h1 h2) (sortT_pw a) (sortT_pw b) ((sortT_perm a).trans (h.trans (sortT_perm b).symm))
theorem nodup_dups {α : Type} [BEq α] [LawfulBEq α] (ns : List α) : ns.eraseDups.Nodup := by
  suffices h : ∀ n (l : List α), l.length ≤ n → l.eraseDups.Nodup from h _ ns (Nat.le_refl _)
  intro n
  induction n with
  | zero => intro l hl; cases l with
    | nil => simp
    | cons a l => simp at hl
  | succ n ih =>
    intro l hl
    cases l with
    | nil => simp
    | cons a l =>
      rw [List.eraseDups_cons, List.nodup_cons]
      refine ⟨?_, ih _ ?_⟩
      · rw [List.mem_eraseDups, List.mem_filter]
        simp
      · have := List.length_filter_le (fun b => !b == a) l
        simp at hl
        omega
/-- the members, in order, each once -/
def sdT (ks : List (List Int)) : List (List Int) := sortB encT ks.eraseDups
theorem sdT_mem {ks : List (List Int)} {k : List Int} : k ∈ sdT ks ↔ k ∈ ks := by
  unfold sdT sortB
  rw [List.mem_mergeSort, List.mem_eraseDups]
theorem sdT_nodup (ks : List (List Int)) : (sdT ks).Nodup := (List.mergeSort_perm _ _).nodup_iff.mpr (nodup_dups ks)
theorem sdT_of {ks L : List (List Int)} (nd : L.Nodup) (h : ∀ k, k ∈ L ↔ k ∈ ks) : sortB encT L = sdT ks := by
  refine sortT_eq ((List.perm_ext_iff_of_nodup nd (nodup_dups ks)).mpr fun k => ?_)
  rw [h k, List.mem_eraseDups]
/-! ### sorting rows -/
theorem each_right {α β : Type} {R : α → β → Prop} : ∀ {as : List α} {bs : List β}, EachIs R as bs → ∀ b, b ∈ bs → ∃ a, a ∈ as ∧ R a b
  | _, _, .nil => fun b hb => by cases hb
  | _, _, .cons h t => fun b hb => by
    (rcases List.mem_cons.mp hb with rfl | hb)
    · exact ⟨_, List.mem_cons_self, h⟩
    · obtain ⟨a, h1, h2⟩ := each_right t b hb
      exact ⟨a, List.mem_cons_of_mem _ h1, h2⟩
section
variable {prog : Program} {w : World} {A : Around} {s : Shared}
theorem sortsAtT {vs : List Value} {ds : List PyData} (e : EachIs (fun v d => ∃ as, Reads s.heap v d as) vs ds) (hal : AllAlike ds) (ht : ∀ d ∈ ds, ∃ xs, d = .tuple xs) (hu : ∀ d, d ∈ ds → A.units + d.depth < cLine) : SortsAt prog w A s (dataKind s.heap ds) vs := by
  by_cases h1 : ∀ d ∈ ds, d ≠ .tuple []
  · exact SortsAt.data e hal (.inl fun d hd => by
      obtain ⟨xs, rfl⟩ := ht d hd
      cases xs with
      | nil => exact absurd rfl (h1 _ hd)
      | cons x r => exact ⟨x, r, rfl⟩) hu
  by_cases h2 : ∃ r, ds = .tuple [] :: r
  · exact sortsAt0 e hal ⟨h2, ht⟩ hu
  (have room : ∀ {d d' : PyData}, d ∈ ds → A.units + min d.depth d'.depth < cLine := fun {d d'} hd => Nat.lt_of_le_of_lt (Nat.add_le_add_left (Nat.min_le_left _ _) _) (hu d hd))
  refine ⟨fun v hv => ?_, general', ?_, ?_⟩
  · (obtain ⟨d, hd, as, r⟩ := e.left v hv)
    (exact ⟨_, dataKind_some hal hd r⟩)
  · intro E x y a b Q ha hb hq
    (obtain ⟨d, as, hd, ra, rfl⟩ := dataKind_inv ha)
    (obtain ⟨d', as', hd', rb, rfl⟩ := dataKind_inv hb)
    obtain ⟨xs, rfl⟩ := ht d hd
    show wpAny _ _ (oneLt' false x y) _ _ _
    rw [oneLt'_eq]
    (simp only [Bool.false_eq_true, if_false])
    refine wpAny_bind ?_
    first
    | exact rcLt_alike _ _ _ _ _ _ _ _ ra rb (hal _ hd _ hd') (by intro z; cases z) (room hd) _ _ _ _ (wpAny_truthy_bool hq)
    | exact wpAny_pure (wpAny_bind (rcLt_alike _ _ _ _ _ _ _ _ ra rb (hal _ hd _ hd') (by intro z; cases z) (room hd) _ _ _ _ (wpAny_truthy_bool hq)))
  · intro h3 E Q hq
    (rw [keyKind'_eq, List.mapM_toArray, map_eq_pure_bind])
    have tl : ∀ v ∈ vs, Looks (model prog w) s.heap (typeOf v) (Value.type "tuple") := by
      intro v hv
      obtain ⟨d, hd, as, rr⟩ := e.left v hv
      obtain ⟨xs, rfl⟩ := ht d hd
      exact looks_reads rr
    refine wpAny_bind (wpAny_bind (mapM_some (T := fun v x => ∀ xs as, Reads s.heap v (.tuple xs) as → (x.isSome = true ↔ xs ≠ [])) _ (fun v hv Q' hq' => ?_) fun rs hrs => wpAny_pure ?_))
    · rw [kas_first_eq]
      refine wpAny_bind ((tl v hv).here ?_)
      rw [if_neg (by decide)]
      obtain ⟨d, hd, as, rr⟩ := e.left v hv
      obtain ⟨xs, rfl⟩ := ht d hd
      cases rr with
      | @tuple l o its n _ _ g1 g2 g3 g4 =>
        refine wpAny_bind (listItems_at g1 g3 (wpAny_pure (hq' _ fun xs' as' rr' => ?_)))
        cases rr' with
        | @tuple l' o' its' n' _ _ k1 k2 k3 k4 =>
          rw [g1] at k1
          cases k1
          rw [g3] at k3
          injection k3 with k3 _
          subst k3
          have hz : its.size = xs'.length := by simpa using ReadsAll.length _ _ _ k4
          cases xs' with
          | nil =>
            have : its[0]? = none := Array.getElem?_eq_none (by rw [hz]; exact Nat.zero_le _)
            simp [this]
          | cons x r =>
            have : its[0]? = some (its[0]'(by rw [hz]; simp)) := Array.getElem?_eq_getElem _
            simp [this]
    · have n1 : (rs.toArray.all fun x => x.isSome) = false := by
        rw [Bool.eq_false_iff]
        intro hall
        apply h1
        intro d hd hd0
        subst hd0
        obtain ⟨v, hv, as, rr⟩ := each_right e _ hd
        obtain ⟨x, hx, hT⟩ := hrs.left v hv
        have := (hT [] as rr).mp (by
          rw [List.all_toArray, List.all_eq_true] at hall
          exact hall x hx)
        exact this rfl
      have n2 : (rs.toArray[0]?.bind id).isSome = true := by
        cases e with
        | nil => simp at h3
        | @cons v0 d0 vr dr h0 t =>
          obtain ⟨as0, r0⟩ := h0
          obtain ⟨xs0, rfl⟩ := ht d0 List.mem_cons_self
          cases hrs with
          | @cons _ x0 _ xr hx0 ht0 =>
            have : x0.isSome = true := (hx0 xs0 as0 r0).mpr fun z => h2 ⟨dr, by rw [z]⟩
            simpa using this
      rw [if_neg (by rw [n1]; exact Bool.false_ne_true), if_pos n2]
      exact wpAny_pure hq
end
/-! ### by values -/
/-- a set of tuples of ints, that nobody changes any more -/
def sSetT (P : Program) (w : World) (ks : List (List Int)) : Slot :=
  ⟨fun K G v => ∃ (p : Addr) (L : List (Addr × List Int)), v = .ref p ∧ G p = some (SetTO P w p L) ∧ (∀ e ∈ L, SqT K G e.1 (e.2.map V.int)) ∧ ∀ k : List Int, k ∈ L.map (fun e : Addr × List Int => e.2) ↔ k ∈ ks, fun e ⟨p, L, h, q, r, m⟩ => ⟨p, L, h, e _ _ q, fun x hx => sqT_mono e (r x hx), m⟩⟩
section
variable {X : Cx} {ks : List (List Int)}
def rSetT (X : Cx) : List V → Hp → VK → Prop := fun vs H Q => ∃ (l : Addr) (es : List (Addr × List Int)) (u : List (List Int)), vs = [.ref l] ∧ SqL X.K H l (es.map fun p => V.ref p.1) ∧ (∀ p ∈ es, SqT X.K H p.1 (p.2.map V.int)) ∧ u.length < 63 ∧ (∀ p ∈ es, p.2 ∈ u) ∧
  ∀ (a : Addr) (L : List (Addr × List Int)), H a = none → (∀ p ∈ L, p ∈ es) → (∀ p ∈ es, p.2 ∈ L.map (·.2)) → Q (.ref a) (upd H a (SetTO X.prog X.w a L))
theorem cr_setT {k : Nat} (hr : Room k X.A) (hc : X.calm = true) : CallR X (.type "set") (rSetT X) := by
  (intro pins s σ H xs us Q I r h)
  obtain ⟨l, es, u, rfl, hl, hk, hf, hu, q⟩ := h
  rw [Vals.ref1 r]
  (obtain ⟨its, rv, pl, hz⟩ := I.list hl)
  (have hn : H s.heap.objs.size = none := I.hok.fresh (Nat.le_refl _))
  have hroom := hr.units
  refine call_set_lstT (P := X.prog) (w := X.w) es u (I.ok.hd hc) pl.isList (by simpa using refs_of_vals rv) (fun p hp => I.isT (hk p hp)) hf hu (by omega) fun h' tk L es2 ep t R g k => ?_
  (refine ⟨.ref s.heap.objs.size, upd H s.heap.objs.size (SetTO X.prog X.w s.heap.objs.size L), I.laid (t' := tk) k (Nat.le_refl _) (setTO_new R.t0), rfl, q _ L hn (fun p hp => ?_) fun p hp => ?_⟩)
  · (exact List.mem_of_mem_take (g.sub p hp))
  · (exact g.all p (by rw [List.take_length]; exact hp))
theorem rows_pairs {K : Fg} {G : Hp} : ∀ {vs : List V} {ks : List (List Int)}, All2 K G (sTupl sInt) vs ks → ∃ es : List (Addr × List Int), vs = es.map (fun p => V.ref p.1) ∧ es.map (·.2) = ks ∧ ∀ p ∈ es, SqT K G p.1 (p.2.map V.int)
  | _, _, .nil => ⟨[], rfl, rfl, fun p hp => by cases hp⟩
  | _, _, .cons h t => by
    obtain ⟨es, e1, e2, e3⟩ := rows_pairs t
    obtain ⟨p, vs, rfl, hp, r⟩ := h
    have e := r.vals (f := V.int)
    subst e
    refine ⟨(p, _) :: es, by rw [e1]; rfl, by rw [← e2]; rfl, fun q hq => ?_⟩
    (rcases List.mem_cons.mp hq with rfl | hq)
    · exact hp
    · exact e3 q hq
theorem c_setRows {k : Nat} (u : List (List Int)) (hr : Room k X.A) (hu : ∀ r ∈ ks, r ∈ u) (hf : u.length < 63) (hc : X.calm = true := by rfl) : CallE X (.type "set") [sLst (sTupl sInt) ks] (sSetT X.prog X.w ks) :=
  ⟨_, cr_setT hr hc, fun B δ O σ G H Q xs st h kk => by
    obtain ⟨v, rfl, p, vs, rfl, hp, r⟩ := alls1 h
    obtain ⟨es, rfl, e2, e3⟩ := rows_pairs r
    refine ⟨p, es, u, rfl, SqL.of (st.stp.gh _ _ hp), fun q hq => sqT_up st.stp.gh (e3 q hq), hf, fun q hq => hu _ (by rw [← e2]; exact List.mem_map.mpr ⟨q, hq, rfl⟩), fun a L ha h1 h2 => ?_⟩
    have sg : Same G (upd G a (SetTO X.prog X.w a L)) := same_new (gnone st.stp ha)
    refine kk _ _ _ sg (st.freshG ha) ⟨a, L, rfl, upd_same, fun e he => sqT_mono sg (e3 e (h1 e he)), fun k => ?_⟩
    rw [← e2]
    refine ⟨fun hk => ?_, fun hk => ?_⟩
    · obtain ⟨e, he, rfl⟩ := List.mem_map.mp hk
      exact List.mem_map.mpr ⟨e, h1 e he, rfl⟩
    · obtain ⟨e, he, rfl⟩ := List.mem_map.mp hk
      exact h2 e he⟩
theorem reads_ints {h : Heap} : ∀ {k : List Int} {vs : List Value}, IntsAre vs k → ∃ as, ReadsAll h vs (k.map .int) as
  | _, _, .nil => ⟨[], .nil⟩
  | _, _, .cons n t r => by
    obtain ⟨as, q⟩ := reads_ints (h := h) r
    exact ⟨[] ++ as, .cons (.int n t) q⟩
theorem reads_tup {P : Program} {w : World} {h : Heap} {k : List Int} {b : Addr} (x : IsT P w h k b) : ∃ as, Reads h (.ref b) (encT k) as := by
  (obtain ⟨o, items, n, ho, hc, hd, hi⟩ := x)
  obtain ⟨as, r⟩ := reads_ints (h := h) (ints_of_items hi)
  exact ⟨as, .tuple ho hc hd r⟩
def rSrtT (X : Cx) : List V → Hp → VK → Prop := fun vs H Q => ∃ (a : Addr) (L : List (Addr × List Int)), vs = [.ref a] ∧ H a = some (SetTO X.prog X.w a L) ∧ (∀ e ∈ L, SqT X.K H e.1 (e.2.map V.int)) ∧
  ∀ (p : Addr) (L' : List (Addr × List Int)), H p = none → L'.Perm L → (L.map (·.2)).Nodup → L'.map (·.2) = sortB encT (L.map (·.2)) → Q (.ref p) (upd H p (.lst (L'.map fun e => V.ref e.1)))
theorem cr_srtT {k : Nat} (hr : Room k X.A) (hc : X.calm = true) : CallR X (.builtin "sorted") (rSrtT X) := by
  (intro pins s σ H vs us Q I r h)
  obtain ⟨a, L, rfl, ha, hk, q⟩ := h
  (have R0 : SetT0 X.prog X.w s.heap a L := (I.hok a _ ha).1)
  (obtain ⟨es, ep, t, R⟩ := R0.full fun p hp => I.isT (hk p hp))
  rw [Vals.ref1 r]
  (obtain ⟨o, ho, hex, hd⟩ := R.ob)
  have hsz := R.size
  have hfew := R.few
  have hroom := hr.units
  (refine Calls.call_function_entry kind_sorted plain_sorted entry_sorted (args_sorted1 _) ?_)
  unfold Builtin.«sorted»
  (refine wpAny_bind (m := checkCount "sorted" 1 1 _) (wpAny_pure ?_))
  refine wpAny_bind (collect_set (A := X.A.in1) (I.ok.hd hc) ⟨o, ho, hex.1, hd⟩ R.fits (by unfold scanBound; omega) R.tab.ris R.led fun s1 vs k1 hz g1 o1 pm => ?_)
  have hes : es.toList.map (·.2) = L.map fun q => Value.ref q.1 := by -- -
    rw [R.rows]
    unfold L2.rowsOf
    rw [List.map_map] <;> rfl
  rw [hes] at pm
  obtain ⟨L1, pL, eL⟩ : ∃ L1 : List (Addr × List Int), L1.Perm L ∧ vs = L1.map fun q => Value.ref q.1 := by
    clear hes
    suffices h : ∀ (vs ws : List Value), vs.Perm ws → ∀ L : List (Addr × List Int), ws = (L.map fun q => Value.ref q.1) → ∃ L1 : List (Addr × List Int), L1.Perm L ∧ vs = L1.map fun q => Value.ref q.1 from h _ _ pm L rfl
    intro vs ws pm
    induction pm with
    | nil => intro L e; cases L with
      | nil => exact ⟨[], .nil, rfl⟩
      | cons a L => cases e
    | cons x _ ih => intro L e; cases L with
      | nil => cases e
      | cons a L =>
        rw [List.map_cons] at e
        injection e with e1 e2
        obtain ⟨L1, p1, rfl⟩ := ih L e2
        exact ⟨a :: L1, .cons a p1, by rw [e1]; rfl⟩
    | swap x y l => intro L e; match L, e with
      | a :: b :: L, e =>
        (rw [List.map_cons, List.map_cons] at e)
        injection e with e1 e2
        injection e2 with e2 e3
        exact ⟨b :: a :: L, .swap a b L, by rw [e1, e2, e3]; rfl⟩
    | trans _ _ ih1 ih2 => intro L e; obtain ⟨L2, p2, e2⟩ := ih2 L e; obtain ⟨L1, p1, e1⟩ := ih1 L2 e2; exact ⟨L1, p1.trans p2, e1⟩
  (have hvl : vs.length < 64 := by rw [pm.length_eq, List.length_map]; exact hfew)
  (refine wpAny_bind (wpAny_newList ?_ (by rw [sizeLine_eq]; omega)))
  (have hoL : (s1.heap.push (seqObj "list" vs.toArray 0)).get? s1.heap.objs.size = some (seqObj "list" vs.toArray 0) := Heap.get?_push_size _ rfl)
  have old : ∀ out b u, s.heap.get? b = some u → (sortedHeap (s1.heap.push (seqObj "list" vs.toArray 0)) s1.heap.objs.size vs out).get? b = some u := fun out b u e => by
    have q := k1 b u e
    have hlt := Heap.lt_size q
    (rw [sortedHeap_old (Nat.ne_of_lt hlt) (by rw [size_push']; exact Nat.lt_succ_of_lt hlt)])
    (exact Heap.get?_push_of_some _ q)
  have oldS : ∀ b u, s.heap.get? b = some u → (sortingHeap (s1.heap.push (seqObj "list" vs.toArray 0)) s1.heap.objs.size vs).get? b = some u := fun b u e => by
    have q := k1 b u e
    exact sortingHeap_old (Nat.ne_of_lt (Heap.lt_size q)) (Heap.get?_push_of_some _ q)
  have er : EachIs (fun v e => ∃ as, Reads (sortingHeap (s1.heap.push (seqObj "list" vs.toArray 0)) s1.heap.objs.size vs) v (encT e.2) as) vs L1 := by
    have rd : ∀ e ∈ L1, ∃ as, Reads (sortingHeap (s1.heap.push (seqObj "list" vs.toArray 0)) s1.heap.objs.size vs) (.ref e.1) (encT e.2) as := fun e he =>
      reads_tup (P := X.prog) (w := X.w) (isT_keep (R.tup e (pL.mem_iff.mp he)) oldS)
    have key : ∀ (hh : Heap) (l : List (Addr × List Int)), (∀ e ∈ l, ∃ as, Reads hh (.ref e.1) (encT e.2) as) → EachIs (fun v e => ∃ as, Reads hh v (encT e.2) as) (l.map fun q => Value.ref q.1) l := by
      intro hh l
      induction l with
      | nil => intro _; exact .nil
      | cons e l ih => intro hl; exact .cons (hl e List.mem_cons_self) (ih fun x hx => hl x (List.mem_cons_of_mem _ hx))
    have := key _ L1 rd
    rwa [← eL] at this
  have ev : EachIs (fun v (e : Addr × List Int) => v = Value.ref e.1) vs L1 := by
    rw [eL]
    clear er eL pL
    induction L1 with
    | nil => exact .nil
    | cons e l ih => exact .cons rfl ih
  have hal : AllAlike (L1.map fun e => encT e.2) := AllAlike.of fun a b => by
    show PySem.W.alike (.tuple (a.2.map .int)) (.tuple (b.2.map .int)) = true
    simp [PySem.W.alike, PySem.W.alike_ints]
  have em := each_map (R := fun v d => ∃ as, Reads (sortingHeap (s1.heap.push (seqObj "list" vs.toArray 0)) s1.heap.objs.size vs) v d as) (fun e : Addr × List Int => encT e.2) er
  have S : SortsAt X.prog X.w X.A.in1.in1 { s1 with heap := sortingHeap (s1.heap.push (seqObj "list" vs.toArray 0)) s1.heap.objs.size vs } (dataKind (sortingHeap (s1.heap.push (seqObj "list" vs.toArray 0)) s1.heap.objs.size vs) (L1.map fun e => encT e.2)) vs := by
    refine sortsAtT (s := { s1 with heap := sortingHeap (s1.heap.push (seqObj "list" vs.toArray 0)) s1.heap.objs.size vs }) em hal (fun d hd => ?_) (fun d hd => ?_)
    · obtain ⟨e, _, rfl⟩ := List.mem_map.mp hd
      exact ⟨_, rfl⟩
    · obtain ⟨e, _, rfl⟩ := List.mem_map.mp hd
      rw [depth_encT]
      show X.A.in1.in1.units + 1 < cLine
      have e : X.A.in1.in1.units = X.A.units + 2 := rfl
      omega
  have out := sortVals_data false ev er hal
  have nd : (L.map (·.2)).Nodup := R.nd
  generalize hL2 : L1.mergeSort (dataLe false fun e => encT e.2) = L2 at out
  have pm2 : L2.Perm L1 := by rw [← hL2]; exact List.mergeSort_perm _ _
  have e2 : L2.map (·.2) = sortB encT (L.map (·.2)) := by
    rw [← hL2]
    have : (L1.mergeSort (dataLe false fun e => encT e.2)).map (·.2) = sortB encT (L1.map (·.2)) := by
      unfold sortB
      exact List.map_mergeSort fun a _ b _ => rfl
    rw [this]
    exact sortT_eq (pL.map _)
  refine wpAny_bind (wpAny_holding (wpAny_call_entry slot_list_sort ⟨_, hoL, rfl⟩ entry_list_sort (list_sort_vals (κ := dataKind (sortingHeap (s1.heap.push (seqObj "list" vs.toArray 0)) s1.heap.objs.size vs) (L1.map fun e => encT e.2)) (s := { s1 with heap := s1.heap.push (seqObj "list" vs.toArray 0) }) hoL S (by rw [sizeLine_eq]; omega) ⟨_, rfl, ?_⟩) (args_list_sort _)))
  generalize sortVals (dataKind (sortingHeap (s1.heap.push (seqObj "list" vs.toArray 0)) s1.heap.objs.size vs) (L1.map fun e => encT e.2)) false vs vs = ws at out
  have ew : ws = L2.map fun q => Value.ref q.1 := by
    clear e2 pm2 hL2
    induction out with
    | nil => rfl
    | cons h _ ih => rw [h, ih]; rfl
  obtain ⟨c, hc'⟩ := sortedHeap_at (vs := vs) (out := ws.toArray) hoL
  have hlen : (L2.map fun q => V.ref q.1).length ≤ sizeLine := by
    rw [List.length_map, (pm2.trans pL).length_eq, sizeLine_eq]
    omega
  have hn : H s1.heap.objs.size = none := I.hok.fresh hz
  have hv : Vals (L2.map fun q => V.ref q.1) ws := by rw [ew]; exact vals_of_refs L2
  have J : Inv X pins σ (upd H s1.heap.objs.size (.lst (L2.map fun q => V.ref q.1))) { s with heap := sortedHeap (s1.heap.push (seqObj "list" vs.toArray 0)) s1.heap.objs.size vs ws.toArray, gens := s1.gens, drawn := s1.drawn, toks := s1.toks } :=
    I.call (ch := []) (Un.laid (old _) hz hn) (I.hok.laid (old _) hz ⟨hlen, ws, c, hv, hc'⟩) (by rw [g1]; exact I.bare) (fun _ z => nomatch z)
  (refine wpAny_pure ⟨_, rfl, ?_⟩)
  have e : ({ s1 with heap := sortedHeap (s1.heap.push (seqObj "list" vs.toArray 0)) s1.heap.objs.size vs ws.toArray } : Shared) = { s with heap := sortedHeap (s1.heap.push (seqObj "list" vs.toArray 0)) s1.heap.objs.size vs ws.toArray, gens := s1.gens, drawn := s1.drawn, toks := s1.toks } := by
    cases s1
    cases s
    cases o1
    rfl
  rw [e]
  exact ⟨.ref s1.heap.objs.size, _, J, rfl, q _ L2 hn (pm2.trans pL) nd e2⟩
theorem c_sortRows {k : Nat} (hr : Room k X.A) (hc : X.calm = true := by rfl) : CallW X (.builtin "sorted") [sSetT X.prog X.w ks] (fun p => oLst p (sTupl sInt) (sdT ks)) :=
  ⟨_, cr_srtT hr hc, fun B δ O σ G H Q xs st h kk => by
    obtain ⟨v, rfl, p, L, rfl, hp, r, m⟩ := alls1 h
    refine ⟨p, L, rfl, st.stp.gh _ _ hp, fun e he => sqT_up st.stp.gh (r e he), fun q L' hq pm nd e2 => ?_⟩
    refine kk q G _ (none_of st hq) (Same.refl _) (st.freshO (w := oLst q (sTupl sInt) (sdT ks)) hq rfl ⟨_, rfl, ?_⟩)
    rw [← sdT_of nd m, ← e2]
    have key : ∀ l : List (Addr × List Int), (∀ e ∈ l, SqT X.K G e.1 (e.2.map V.int)) → All2 X.K G (sTupl sInt) (l.map fun e => V.ref e.1) (l.map (·.2)) := by
      intro l
      induction l with
      | nil => intro _; exact .nil
      | cons e l ih => intro hl; exact .cons ⟨e.1, _, rfl, hl e List.mem_cons_self, All2.ofVals _⟩ (ih fun x hx => hl x (List.mem_cons_of_mem _ hx))
    exact key L' fun e he => r e (pm.mem_iff.mp he)⟩
end
end Gd

/-! Dicts whose keys are tuples: walked, sorted, compared -/
namespace Gd
open PySem PySem.W PySem.Calls PySem.SeqAt PySem.Spec PyProof.Rows L2
section
variable {P : Program} {w : World} {K : Fg} {tg : Expr} {d : Addr} {ob : Obj} {xs : List (NestedKey × Addr × Value)}
/-- the keys of the dict at d, in their order -/
def Itn (w : World) (d : Addr) (ob : Obj) (xs : List (NestedKey × Addr × Value)) : It :=
  ⟨fun i H => H d = some (dO w d xs ob) ∧ i < xs.length, fun i H x H' => H' = H ∧ ∃ e, xs[i]? = some e ∧ x = .ref e.2.1, fun i H => H d = some (dO w d xs ob) ∧ xs.length ≤ i⟩
theorem turn_keysN {es : Array DictEntry} {ep : Nat} (it : Addr) (hod : ob.data = .dict es ep) : Turn P w K tg (Itn w d ob xs) [it] it (fun i h => h.IsKeyIter it d i xs.length ep) where
  mem := by simp
  obj := fun i h st b hb => by
    obtain rfl : b = it := by simpa using hb
    obtain ⟨oi, e, c, dd⟩ := st
    (exact ⟨oi, e, fun v z => by rw [dd] at z; cases z⟩)
  keep := fun i h h' st k => st.at fun oi e => k it (by simp) oi e -- -
  item := by
    (intro X hP hw hK hc i pins s σ H E I hf st hg)
    subst hP hw hK
    obtain ⟨hd, hi⟩ := hg
    (obtain ⟨f0, f1, f2, f3, f4, f5⟩ := hf it (by simp))
    obtain ⟨⟨es', ep', e1, e2, e3, e4, e5, e6⟩, _⟩ := I.hok d _ hd
    rw [hod] at e3
    cases e3
    have hx := List.getElem?_eq_getElem hi
    generalize xs[i] = e at hx
    have hsz : es.size = xs.length := by
      have := congrArg List.length e4
      rwa [Array.length_toList, List.length_map] at this
    have hen : es[i]? = some (⟨e.1.hash X.w, .ref e.2.1, e.2.2⟩ : DictEntry) := by
      rw [← Array.getElem?_toList, e4, List.getElem?_map, hx]
      rfl
    refine next_key_item st e1 hod hsz hen fun h' st' sb => ?_
    (have I1 : Inv X pins σ H { s with heap := h' } := I.turned (t' := s.toks) (fun b ob hb e => (sb.2 b hb).trans e) f0 f1 f3 f4 f5)
    obtain ⟨oi, ee, c, dd⟩ := id st'
    exact ⟨_, rfl, go_of (s := { s with heap := h' }) ee c dd (by decide) ⟨.ref e.2.1, H, I1, rfl, ⟨rfl, e, hx, rfl⟩, st', fun b hb => (hf b hb).1⟩⟩
  done := by
    (intro X hP hw hK hc i pins s σ H E I hf st hg)
    subst hP hw hK
    obtain ⟨hd, hi⟩ := hg
    (obtain ⟨f0, f1, f2, f3, f4, f5⟩ := hf it (by simp))
    obtain ⟨⟨es', ep', e1, e2, e3, e4, e5, e6⟩, _⟩ := I.hok d _ hd
    rw [hod] at e3
    cases e3
    have hsz : es.size = xs.length := by
      have := congrArg List.length e4
      rwa [Array.length_toList, List.length_map] at this
    exact next_key_end (I.ok.hd hc) st e1 hod hsz hi fun h' eb => ⟨rfl, I.turned (t' := s.toks) (fun b ob hb e => eb b ob hb e) f0 f1 f3 f4 f5⟩
  self := fun A i s Q E st h => by -- -
    refine wpAny_pyIter_slot st.typeIs PySem.F.slot_dict_keyiterator_iter (wpAny_call_entry PySem.F.slot_dict_keyiterator_iter st.typeIs PySem.F.entry_dict_keyiterator_iter ?_ (PySem.F.args_dict_keyiterator_iter_1 _))
    (show wpAny _ _ (ret (.ref it)) _ _ s)
    exact wpAny_pure ⟨_, rfl, "dict_keyiterator", _, st.typeIs, PySem.F.slot_dict_keyiterator_next.lookup, h⟩
end
section
variable {X : Cx} {δ : List (Option Slot)} {O O1 O2 : List Own} {e e2 tg : Expr} {p pos tpos : Pos} {α β : Type} {R : α → Slot} {N : α → NestedKey} {fv : β → V} {m : List (α × β)} {k : Nat}
def iKeysN (X : Cx) (td : TE) : TI := fun σ H R => td σ H fun x H1 => ∃ d ob xs, x = .ref d ∧ H1 d = some (dO X.w d xs ob) ∧ R (Itn X.w d ob xs) H1
theorem pi_keysN {td : TE} (he : PE X e td) : PI X tg e (iKeysN X td) := by
  (refine ⟨fun pins s σ H R I h => ?_⟩)
  refine thn (he.run pins s σ H _ I h) fun u s1 ⟨x, H1, I1, rx, d, ob, xs, ex, hd, q⟩ => ?_
  subst ex
  (obtain rfl : u = Value.ref d := rx)
  obtain ⟨⟨es, ep, e1, e2, e3, e4, e5, e6⟩, _⟩ := I1.hok d _ hd
  have hsz : es.size = xs.length := by
    have := congrArg List.length e4
    rwa [Array.length_toList, List.length_map] at this
  refine iter_keys e6 e1 e2 e3 (pi_one (tk := s1.toks) I1 _ (turn_keysN _ e3) ⟨_, Heap.get?_push_size _ rfl, rfl, ?_⟩ q)
  rw [hsz] <;> rfl
theorem dp_get {K : Fg} {G : Hp} : ∀ {xs : List (NestedKey × Addr × Value)} {m : List (α × β)} {i : Nat} {y : α}, DP K G N R fv xs m → (m.map Prod.fst)[i]? = some y → ∃ e, xs[i]? = some e ∧ (R y).ok K G (.ref e.2.1)
  | _, _, 0, y, .cons (a := a) h1 h2 t, h => by
    rw [List.map_cons, List.getElem?_cons_zero] at h
    cases h
    exact ⟨_, rfl, h1.2⟩
  | _, _, i + 1, y, .cons h1 h2 t, h => by
    rw [List.map_cons, List.getElem?_cons_succ] at h
    obtain ⟨e, a, b⟩ := dp_get t h
    exact ⟨e, by rw [List.getElem?_cons_succ]; exact a, b⟩
  | _, _, i, y, .nil, h => by simp at h
/-- for k in d -/
theorem it_dicK (h : E X δ O e (sDic X.w N R fv m) O1) : IT X δ O tg e R (m.map Prod.fst) O1 :=
  ⟨_, pi_keysN pe_w, fun B σ G H Q st kk => h B σ G H _ st fun v G1 H1 m1 st1 hv => by
    obtain ⟨d, xs, ob, rfl, hd, r⟩ := hv
    refine ⟨d, ob, xs, rfl, st1.stp.gh _ _ hd, kk _ G1 H1 m1 st1 fun B' δ' O' σ' G' H' i e st' => ⟨fun y hy => ?_, fun hi => ?_⟩⟩
    · obtain ⟨en, hen, hr⟩ := dp_get r hy
      have hi : i < xs.length := (List.getElem?_eq_some_iff.mp hen).1
      refine ⟨⟨st'.stp.gh _ _ (e _ _ hd), hi⟩, fun v H'' hy' => ?_⟩
      obtain ⟨rfl, en', he', rfl⟩ := hy'
      rw [hen] at he'
      cases he'
      exact ⟨G', Same.refl _, st', (R y).mono e hr⟩
    · refine ⟨st'.stp.gh _ _ (e _ _ hd), ?_⟩
      rw [r.length]
      rwa [List.length_map] at hi⟩
theorem vals_refsN : ∀ xs : List (NestedKey × Addr × Value), Vals (xs.map fun x => V.ref x.2.1) (xs.map fun x => Value.ref x.2.1)
  | [] => .nil
  | x :: xs => .cons rfl (vals_refsN xs)
/-- sorted(d) -/
def rSrtD (X : Cx) (enc : α → PyData) (Pp : V → α → Prop) : List V → Hp → VK → Prop := fun vs H Q => ∃ (d : Addr) (ob : Obj) (xs : List (NestedKey × Addr × Value)) (bs : List α), vs = [.ref d] ∧ H d = some (dO X.w d xs ob) ∧ EachIs Pp (xs.map fun x => V.ref x.2.1) bs ∧ DpAll X.K H (xs.map fun x => V.ref x.2.1) (bs.map enc) ∧ AllAlike (bs.map enc) ∧ (∀ b ∈ bs, ∃ ys, enc b = .tuple ys) ∧ (∀ b ∈ bs, (enc b).depth ≤ 8) ∧ bs.length ≤ sizeLine ∧
  ∀ p zs, H p = none → EachIs Pp zs (bs.mergeSort (dataLe false enc)) → Q (.ref p) (upd H p (.lst zs))
theorem cr_srtD (hr : Room k X.A) (hc : X.calm = true) {enc : α → PyData} {Pp : V → α → Prop} : CallR X (.builtin "sorted") (rSrtD X enc Pp) := by
  (intro pins s σ H vs us Q I r h)
  obtain ⟨d, ob, xs, bs, rfl, hd, hP, hdp, hal, hso, hdep, hz, q⟩ := h
  rw [Vals.ref1 r]
  obtain ⟨⟨es, ep, e1, e2, e3, e4, e5, e6⟩, _⟩ := I.hok d _ hd
  have hsz : es.size = xs.length := by
    have := congrArg List.length e4
    rwa [Array.length_toList, List.length_map] at this
  have hxl : xs.length = bs.length := by simpa using hP.length
  have hroom := hr.units
  (refine Calls.call_function_entry kind_sorted plain_sorted entry_sorted (args_sorted1 _) ?_)
  unfold Builtin.«sorted»
  (refine wpAny_bind (m := checkCount "sorted" 1 1 _) (wpAny_pure ?_))
  refine wpAny_bind (kdu_collect (A := X.A.in1) (KdlSrc.rawDict (es := es) (ep := ep) e6) (I.ok.hd hc) ⟨ob, e1, e2, e3⟩ (by rw [hsz, hxl]; exact hz) fun h1 tk acc k1 hit => ?_)
  have hvs : acc.toList = xs.map fun x => Value.ref x.2.1 := by
    apply List.ext_getElem?
    intro i
    rw [Array.getElem?_toList, List.getElem?_map]
    rcases Nat.lt_or_ge i acc.size with z | z
    · rw [Array.getElem?_eq_getElem z]
      obtain ⟨hi, hv⟩ := hit.2 i acc[i] (Array.getElem?_eq_getElem z)
      have hx := List.getElem?_eq_getElem (show i < xs.length by omega)
      generalize xs[i]'(by omega) = x at hx
      have hen : es[i]? = some (⟨x.1.hash X.w, .ref x.2.1, x.2.2⟩ : DictEntry) := by
        rw [← Array.getElem?_toList, e4, List.getElem?_map, hx]
        rfl
      rw [Array.getElem?_eq_getElem hi] at hen
      rw [hv, Option.some.inj hen, hx]
      rfl
    · rw [Array.getElem?_eq_none z, List.getElem?_eq_none (by rw [← hsz, ← hit.1]; exact z)]
      rfl
  generalize acc.toList = ws at hvs
  have I1 : Inv X pins σ H { s with heap := h1, toks := tk } := I.kept k1
  have rv : Vals (xs.map fun x => V.ref x.2.1) ws := by
    rw [hvs]
    exact vals_refsN xs
  obtain ⟨as, hra⟩ := Dp.readsAll I1 _ _ _ hdp rv
  have er : EachIs (fun v b => ∃ as, Reads h1 v (enc b) as) ws bs := readsAll_each enc hra
  have e := each_vals rv hP
  have hwl : ws.length = bs.length := e.length
  refine wpAny_bind (wpAny_newList ?_ (by rw [hwl]; exact hz))
  have hoL : (h1.push (seqObj "list" ws.toArray 0)).get? h1.objs.size = some (seqObj "list" ws.toArray 0) := Heap.get?_push_size _ rfl
  have old : ∀ out b u, h1.get? b = some u → (sortedHeap (h1.push (seqObj "list" ws.toArray 0)) h1.objs.size ws out).get? b = some u := fun out b u e => by
    have hlt := Heap.lt_size e
    (rw [sortedHeap_old (Nat.ne_of_lt hlt) (by rw [size_push']; exact Nat.lt_succ_of_lt hlt)])
    (exact Heap.get?_push_of_some _ e)
  have oldS : ∀ b u, h1.get? b = some u → (sortingHeap (h1.push (seqObj "list" ws.toArray 0)) h1.objs.size ws).get? b = some u := fun b u e =>
    sortingHeap_old (Nat.ne_of_lt (Heap.lt_size e)) (Heap.get?_push_of_some _ e)
  have er' : EachIs (fun v b => ∃ as, Reads (sortingHeap (h1.push (seqObj "list" ws.toArray 0)) h1.objs.size ws) v (enc b) as) ws bs := er.mono fun _ _ ⟨as, r⟩ => ⟨as, PyProof.Rows.Reads.keeps oldS r⟩
  have em := each_map (R := fun v d => ∃ as, Reads (sortingHeap (h1.push (seqObj "list" ws.toArray 0)) h1.objs.size ws) v d as) enc er'
  have S : SortsAt X.prog X.w X.A.in1.in1 { s with heap := sortingHeap (h1.push (seqObj "list" ws.toArray 0)) h1.objs.size ws, toks := tk } (dataKind (sortingHeap (h1.push (seqObj "list" ws.toArray 0)) h1.objs.size ws) (bs.map enc)) ws := by
    refine sortsAtT (s := { s with heap := sortingHeap (h1.push (seqObj "list" ws.toArray 0)) h1.objs.size ws, toks := tk }) em hal (fun d hd => ?_) (fun d hd => ?_)
    · obtain ⟨b, hb, rfl⟩ := List.mem_map.mp hd
      exact hso b hb
    · obtain ⟨b, hb, rfl⟩ := List.mem_map.mp hd
      have := hdep b hb
      have e : X.A.in1.in1.units = X.A.units + 2 := rfl
      omega
  have out := sortVals_data false e er' hal
  refine wpAny_bind (wpAny_holding (wpAny_call_entry slot_list_sort ⟨_, hoL, rfl⟩ entry_list_sort (list_sort_vals (κ := dataKind (sortingHeap (h1.push (seqObj "list" ws.toArray 0)) h1.objs.size ws) (bs.map enc)) (s := { s with heap := h1.push (seqObj "list" ws.toArray 0), toks := tk }) hoL S (by rw [hwl]; exact hz) ⟨_, rfl, ?_⟩) (args_list_sort _)))
  generalize sortVals (dataKind (sortingHeap (h1.push (seqObj "list" ws.toArray 0)) h1.objs.size ws) (bs.map enc)) false ws ws = ts at out
  obtain ⟨zs, z1, z2⟩ := vals_each out
  obtain ⟨c, hc'⟩ := sortedHeap_at (vs := ws) (out := ts.toArray) hoL
  have hlen : zs.length ≤ sizeLine := by
    rw [z2.length, List.length_mergeSort]
    exact hz
  (refine wpAny_pure ⟨_, rfl, ?_⟩)
  exact ⟨.ref h1.objs.size, _, I1.laid (t' := tk) (a := h1.objs.size) (o := .lst zs) (old _) (Nat.le_refl _) ⟨hlen, ts, c, z1, hc'⟩, rfl, q _ zs (I1.hok.fresh (Nat.le_refl _)) z2⟩
theorem dp_each {K : Fg} {G : Hp} : ∀ {xs : List (NestedKey × Addr × Value)} {m : List (α × β)}, DP K G N R fv xs m → All2 K G R (xs.map fun x => V.ref x.2.1) (m.map Prod.fst)
  | _, _, .nil => .nil
  | _, _, .cons h1 h2 t => .cons h1.2 (dp_each t)
theorem c_sortDic (hr : Room k X.A) {enc : α → PyData} (hR : ∀ a, IsD (R a) (enc a)) (hal : AllAlike ((m.map Prod.fst).map enc)) (hso : ∀ a, ∃ ys, enc a = .tuple ys) (hdp : ∀ a, (enc a).depth ≤ 8) (hz : m.length ≤ sizeLine) (hc : X.calm = true := by rfl) :
    CallW X (.builtin "sorted") [sDic X.w N R fv m] (fun p => oLst p R (sortB enc (m.map Prod.fst))) := by
  refine ⟨fun vs H Q => ∃ Pp, rSrtD X enc Pp vs H Q, fun pins s σ H vs us Q I r ⟨P, h⟩ => cr_srtD hr hc pins s σ H vs us Q I r h, fun B δ O σ G H Q xs st h kk => ?_⟩
  obtain ⟨v, rfl, d, es, ob, rfl, hd, r⟩ := alls1 h
  have r2 := dp_each r
  refine ⟨fun v a => (R a).ok X.K G v, d, ob, es, m.map Prod.fst, rfl, st.stp.gh _ _ hd, each_of_all2 r2, dpAll_up st.stp.gh (dpAll hR r2), hal, fun b _ => hso b, fun b _ => hdp b, by rw [List.length_map]; exact hz, fun l zs hl hzs => ?_⟩
  exact kk l G _ (none_of st hl) (Same.refl _) (st.freshO (w := oLst l R (sortB enc (m.map Prod.fst))) hl rfl ⟨zs, rfl, all2_of_each hzs⟩)
end
end Gd

/-! {k: v for x in xs}, the keys tuples of any depth -/
namespace Gd
open PySem L2 PySem.Spec PyProof.Rows
/-- a comprehension's d[k] = v -/
theorem put_dic {X : Cx} {k : Nat} (hr : Room k X.A) {pins : List (Addr × Obj)} {σ : SS} {H : Hp} {s : Shared} {E : Value → Shared → Prop} {D : Addr} {y z : V} {kv vv : Value} {Q : Hp → Prop} {T : Unit → Shared → Prop} (I : Inv X pins σ H s) (ry : RelV y kv) (rz : RelV z vv) (h : rDSet X (.ref D) y z H Q)
    (hT : ∀ s' H', Inv X pins σ H' s' → Q H' → T () s') : wpAny (model X.prog X.w) X.A (dictSet D kv vv) T E s := by
  obtain ⟨d, xs, kk, q, e0, rfl, hd, hz, hq⟩ := h
  cases e0
  cases ry
  obtain ⟨h1, h2, h3⟩ := hd.of I
  refine wpAny_dictSet_heap (hsz := hz) (by have := hr.units; show X.A.units + 8 < cLine; omega) h3 h1 fun h' hm hs => ?_
  obtain ⟨ob, new⟩ := dof_raw (X := X) hm h2
  obtain ⟨ob0, h0⟩ := hd.1
  have he : ∃ o, h'.get? D = some o := by
    obtain ⟨_, _, e, _⟩ := new
    exact ⟨ob, e⟩
  exact hT _ _ (I.write (x := D) (e := D) (o := dO X.w D (storedH xs kk q vv) ob) (by rw [h0]; exact True.intro) (.inl rfl) (fun b o hb e => (hs.2 b hb).trans e) he (dO_new new)) (hq vv ob rz)
section
variable {X : Cx}
def tDcN (X : Cx) (wi : TI) (g : TG) (tk tv : TE) (vs : List Nat) : TE := fun σ H Q => wi σ H fun J H1 => ∀ D ob, H1 D = none → ∃ W : Nat → Nat → Hp → Prop, (∃ m, W 0 m (upd H1 D (dO X.w D [] ob))) ∧ ∀ i m H, W i m H →
  (J.stop i H ∧ Q (.ref D) H) ∨ (J.go i H ∧ ∃ Nx : Hp → Prop, (∀ H', Nx H' → ∃ m', m' < m ∧ W (i + 1) m' H') ∧ ∀ x H', J.yld i H x H' → g x (wipe σ vs) H' fun σ2 H2 => wipe σ2 vs = wipe σ vs ∧ tk σ2 H2 fun y H4 => tv σ2 H4 fun z H5 => rDSet X (.ref D) y z H5 Nx)
theorem pe_dcN {k : Nat} {kx vx tg iter : Expr} {scope : Scope} {own : List (Str × Nat)} {pos : Pos} {wi : TI} {g : TG} {tk tv : TE} (hr : Room k X.A) (hc : X.calm = true) (hN : X.N.Nodup) (hi : PI X tg iter wi) (ok : BlkOk X.N X.env.scope scope own)
    (hg : ∀ s H C cl fp, PG (Blk X scope s H C cl fp) tg g) (hk : ∀ s H C cl fp, PE (Blk X scope s H C cl fp) kx tk) (he : ∀ s H C cl fp, PE (Blk X scope s H C cl fp) vx tv) (hs : ∀ x, foldedSetIterable iter X.env x = pure x) :
    PE X (.DictComp kx vx [⟨tg, iter, [], 0⟩] scope pos) (tDcN X wi g tk tv (own.map (·.2))) := by
  (refine ⟨fun pins s σ H Q I h => ?_⟩)
  rw [arm_eval_DictComp]
  have hfree : ∀ y ∈ scope.names, y.2 = .free → ∃ c, X.env.cells.lookup y.1 = some c := fun y hy e => (ok.free y hy e).elim (fun k => I.ok.has _ (.inl k)) fun k => I.ok.has _ (.inr k)
  refine wpAny_comprehension_free rfl hs (closure_ok hfree) ok.kind (fun y hy e => by rw [ok.uniq y hy, e])
    (thn (hi.run pins s σ H _ I h) fun xv s1 hx => thn hx fun itv s2 h2 => ?_) -- -
  (obtain ⟨it, fp, tn, J, H2, e, I2, T, st2, f2, q⟩ := h2)
  subst e
  (refine wpAny_newObj_type (newEnv_comp ?_))
  have hlo : (s2.heap.objs.size == sysModules) = false := beq_eq_false_iff_ne.mpr (Nat.ne_of_gt I2.big)
  have hx0 : (s2.heap.push { cls := .type "dict", data := .dict #[] }).DictOfH (nestedKind X.prog X.w) s2.heap.objs.size [] := Heap.DictOfH.new s2.heap
  obtain ⟨ob, new⟩ := dof_raw (X := X) hx0 hlo
  have fresh := I2.hok.fresh (Nat.le_refl s2.heap.objs.size)
  obtain ⟨W, ⟨m0, w0⟩, turn⟩ := q s2.heap.objs.size ob fresh
  have I3 : Inv X pins σ (upd H2 s2.heap.objs.size (dO X.w s2.heap.objs.size [] ob)) { s2 with heap := s2.heap.push { cls := .type "dict", data := .dict #[] } } := I2.laid (t' := s2.toks) (fun b o e => Heap.get?_push_of_some _ e) (Nat.le_refl _) (dO_new new)
  have sz : ∀ b ∈ fp, b < s2.heap.objs.size := fun b hb => by -- -
    (obtain ⟨o, e, _⟩ := T.obj _ _ st2 b hb)
    exact Heap.lt_size e
  generalize hD : s2.heap.objs.size = D at I3 w0 turn fresh
  generalize hs3 : ({ s2 with heap := s2.heap.push { cls := .type "dict", data := .dict #[] } } : Shared) = s3 at I3
  (have h3 : s3.heap = s2.heap.push { cls := .type "dict", data := .dict #[] } := by rw [← hs3])
  have f3 : ∀ b ∈ fp, FpOk X pins (upd H2 D (dO X.w D [] ob)) b ∧ b < s3.heap.objs.size := fun b hb => by
    have hlt := sz b hb
    (refine ⟨⟨?_, (f2 b hb).2⟩, by rw [h3, Heap.size_push]; exact Nat.lt_succ_of_lt hlt⟩)
    (rw [upd_ne (by rw [← hD]; exact Nat.ne_of_lt hlt)])
    exact (f2 b hb).1
  (have st3 : tn 0 s3.heap := T.keep _ _ _ st2 fun b _ o e => by rw [h3]; exact Heap.get?_push_of_some _ e)
  generalize upd H2 D (dO X.w D [] ob) = H3 at I3 w0 f3
  (have I4 := block_start I3 ok hN f3)
  have nfp : ∀ b ∈ fp, H3 b = none := fun b hb => (f3 b hb).1.1
  have hcl : compEnvC scope (cellsFrom (s3.heap.objs.size + 1) scope.names (cloFrom X.env.cells scope.names [])) s3.heap.objs.size X.env = compEnvC scope (cellsFrom (s3.heap.objs.size + 1) scope.names (cloFrom X.env.cells scope.names [])) s3.heap.objs.size X.env := rfl
  have pg := hg s3 H3 s3.heap.objs.size (cellsFrom (s3.heap.objs.size + 1) scope.names (cloFrom X.env.cells scope.names [])) fp
  have pk := hk s3 H3 s3.heap.objs.size (cellsFrom (s3.heap.objs.size + 1) scope.names (cloFrom X.env.cells scope.names [])) fp
  have pe := he s3 H3 s3.heap.objs.size (cellsFrom (s3.heap.objs.size + 1) scope.names (cloFrom X.env.cells scope.names [])) fp
  show codeAny _ _ (.compStart (.DictComp kx vx [⟨tg, iter, [], 0⟩] scope pos) 0 (.ref it) (.ref D) (compEnvC scope (cellsFrom (s3.heap.objs.size + 1) scope.names (cloFrom X.env.cells scope.names [])) s3.heap.objs.size X.env)) (compPost (model X.prog X.w) X.A X.xe _ _ (.ref D) s3.heap.objs.size) { s3 with heap := pushCells (s3.heap.push { cls := .type "dict", data := .dict #[] }) scope.names }
  have pg : PG (X.blk s3 H3 scope (compEnvC scope (cellsFrom (s3.heap.objs.size + 1) scope.names (cloFrom X.env.cells scope.names [])) s3.heap.objs.size X.env) fp) tg g := pg
  have pk : PE (X.blk s3 H3 scope (compEnvC scope (cellsFrom (s3.heap.objs.size + 1) scope.names (cloFrom X.env.cells scope.names [])) s3.heap.objs.size X.env) fp) kx tk := pk
  have pe : PE (X.blk s3 H3 scope (compEnvC scope (cellsFrom (s3.heap.objs.size + 1) scope.names (cloFrom X.env.cells scope.names [])) s3.heap.objs.size X.env) fp) vx tv := pe
  generalize hce : compEnvC scope (cellsFrom (s3.heap.objs.size + 1) scope.names (cloFrom X.env.cells scope.names [])) s3.heap.objs.size X.env = ce at I4 pg pk pe ⊢
  (have cL : ce.locals = s3.heap.objs.size := by subst hce; rfl)
  generalize hs4 : ({ s3 with heap := pushCells (s3.heap.push { cls := .type "dict", data := .dict #[] }) scope.names } : Shared) = s4 at I4 ⊢ -- -
  (have st4 : tn 0 s4.heap := T.keep _ _ _ st3 fun b _ o e => by rw [← hs4]; exact pushCells_keeps _ _ _ _ (Heap.get?_push_of_some _ e))
  have stat : ∀ {σ' : SS} {H' : Hp} {s' : Shared}, Inv (X.blk s3 H3 scope ce fp) [] σ' H' s' → (∀ b ∈ fp, H' b = none) → ∀ b ∈ fp, FpOk (X.blk s3 H3 scope ce fp) [] H' b := fun {σ' H' s'} I' hn b hb =>
    ⟨hn b hb, (I'.ok.exf b hb).1, I'.ok.exfs b hb, .inl hb, fun x c e => (I'.ok.exf b hb).2 x c e, fun p hp => absurd (show p ∈ ([] : List (Addr × Obj)) ++ [] from hp) (by simp)⟩ -- -
  refine codeAny_compStart_dict ?loop (T.self X.A 0 _ _ _ st4 ?loop)
  (refine compLoop_anyD (fun n s' => ∃ i H', Inv (X.blk s3 H3 scope ce fp) [] (wipe σ (own.map (·.2))) H' s' ∧ tn i s'.heap ∧ (∀ b ∈ fp, H' b = none) ∧ W i n H') ?_ m0 ⟨0, H3, I4, st4, nfp, w0⟩)
  rintro n s5 ⟨i, H5, I5, st5, n5, w5⟩ -- -
  (rcases turn i n H5 w5 with ⟨stop, qq⟩ | ⟨go, Nx, hNx, step⟩)
  · refine thnF (T.done (X.blk s3 H3 scope ce fp) rfl rfl rfl hc i [] s5 _ H5 (fun _ _ => False) I5 (stat I5 n5) st5 stop) fun r s6 ⟨hr, I6⟩ => ?_
    subst hr
    (have I7 : Inv X pins σ H5 s6 := I3.call' (ch := fp) I6.os I6.base I6.hok I6.bare fun b hb => ⟨(f3 b hb).1.2.2.2.1, (f3 b hb).1.2.1, (f3 b hb).1.2.2.2.2.1, (f3 b hb).1.2.2.2.2.2⟩)
    have nC : H5 s3.heap.objs.size = none := by -- -
      rw [← cL]
      exact I6.free
    obtain ⟨m, hn, _⟩ := I6.loc
    (have hn : s6.heap.Ns ce.locals m := hn)
    rw [cL] at hn
    obtain ⟨f0, f1, f2, f3, f4, f5⟩ := I3.fpOk (Nat.le_refl _) nC
    exact ⟨m, hn, fun h'' sb => ⟨.ref D, H5, I7.turned (t' := s6.toks) (fun b o hb e => (sb.2 b hb).trans e) f0 f1 f3 f4 f5, rfl, qq⟩⟩
  · refine thnF (T.item (X.blk s3 H3 scope ce fp) rfl rfl rfl hc i [] s5 _ H5 (fun _ _ => False) I5 (stat I5 n5) st5 go) fun r s6 ⟨u, hr, h6⟩ => ?_
    subst hr
    (refine thnF h6 fun _ s7 ⟨x, H7, I7, r7, y7, st7, n7⟩ => ?_)
    (have I7' := I7.pinned (stat I7 n7) (T.obj _ _ st7))
    (refine thnF (pg.run _ s7 _ H7 x u _ I7' r7 (step x H7 y7)) fun _ s8 ⟨σ8, H8, I8, hw8, q8⟩ => ?_)
    refine thnF ((pts_nil (X := X.blk s3 H3 scope ce fp)).run _ s8 σ8 H8 (fun b H => b = true ∧ H = H8) I8 ⟨rfl, rfl⟩) fun b s9 ⟨H9, I9, eb, e9⟩ => ?_
    subst eb e9
    simp only [if_true]
    refine thnF (pk.run _ s9 σ8 H9 _ I9 q8) fun z s10 ⟨yk, H10, I10, r10, q10⟩ => ?_
    refine thnF (pe.run _ s10 σ8 H10 _ I10 q10) fun z2 s11 ⟨yv, H11, I11, r11, q11⟩ => ?_
    refine put_dic (X := X.blk s3 H3 scope ce fp) (k := k) hr I11 r10 r11 q11 fun s12 H12 I12 nx => ?_
    obtain ⟨m2, hm, w2⟩ := hNx H12 nx
    have pin : ∀ b ∈ fp, ∀ o, s7.heap.get? b = some o → s12.heap.get? b = some o ∧ H12 b = none := fun b hb o e =>
      let z := I12.pin (b, o) (List.mem_append_right _ (List.mem_append_right _ (mem_pinsAt hb e)))
      ⟨z.1, z.2.1⟩
    refine ⟨m2, hm, i + 1, H12, (I12.unpinned (pins := [])).weak (by rw [← hw8, wipe_length]) (fun j v e => ?_), T.keep _ _ _ st7 fun b hb o e => (pin b hb o e).1, fun b hb => ?_, w2⟩
    · rw [← hw8] at e
      exact (wipe_some e).1
    · (obtain ⟨o, e, _⟩ := T.obj _ _ st7 b hb)
      exact (pin b hb o e).2
variable {B : Bs} {δ : List (Option Slot)} {O O1 : List Own} {kx vx iter : Expr} {scope : Scope} {own : List (Str × Nat)} {pos px : Pos} {x : Str} {α β κ : Type} {R : α → Slot} {RK : κ → Slot} {N : κ → NestedKey} {fv : β → V} {as : List α}
theorem ew_dc [DecidableEq κ] {k : Nat} (i : Nat) (hNi : ∀ a b, N a = N b → a = b) (hr : Room k X.A) (hK : KeyS RK N) (kf : α → κ) (vf : α → β) (hN : X.N.Nodup) (hi : IT X δ O (.Name x px) iter R as O1) (ok : BlkOk X.N X.env.scope scope own)
    (hkx : ∀ y, y ∈ as → ∀ s H C cl fp, E (Blk X scope s H C cl fp) ((wipeD δ (own.map (·.2))).set i (some (R y))) O1 kx (RK (kf y)) O1) (hvx : ∀ y, y ∈ as → ∀ s H C cl fp, E (Blk X scope s H C cl fp) ((wipeD δ (own.map (·.2))).set i (some (R y))) O1 vx (sVal (fv (vf y))) O1) (hz : as.length ≤ sizeLine)
    (hin : i ∈ own.map (·.2) := by decide) (hix : X.N[i]? = some x := by rfl) (hx : ∀ s H C cl fp, Loc (Blk X scope s H C cl fp).env.scope x := by intro _ _ _ _ _; first | exact Or.inl rfl | exact Or.inr rfl)
    (hf : ∀ s H C cl fp, (Blk X scope s H C cl fp).fn x = true ∨ (Blk X scope s H C cl fp).env.scope.names.lookup x = some .local := by intro _ _ _ _ _; first | exact .inl rfl | exact .inr rfl)
    (hc : X.calm = true := by rfl) (hs : noSet iter = true := by rfl) :
    EW X δ O (.DictComp kx vx [⟨.Name x px, iter, [], 0⟩] scope pos) (fun p => oDic X.w p N RK fv (as.foldl (fun m y => put m (kf y) (vf y)) [])) O1 := by
  obtain ⟨wi, h1, h2⟩ := hi
  intro B σ G H Q st k
  refine e_of (pe_dcN (tk := fun σ H Q => ∀ s H0 C cl fp, wE (Blk X scope s H0 C cl fp) kx σ H Q) (tv := fun σ H Q => ∀ s H0 C cl fp, wE (Blk X scope s H0 C cl fp) vx σ H Q) hr hc hN h1 ok (fun s H C cl fp => pg_name hN hix (hx s H C cl fp) (hf s H C cl fp))
    (fun s H C cl fp => ⟨fun pins s' σ H' Q I h => (h s H C cl fp).run pins s' I⟩) (fun s H C cl fp => ⟨fun pins s' σ H' Q I h => (h s H C cl fp).run pins s' I⟩) (folded_plain hs)) ?_
  refine h2 B σ G H _ st fun Jt G1 H1 m1 st1 wk => ?_
  intro Da ob hDa
  have hlen : ∀ n, ((as.take n).foldl (fun m y => put m (kf y) (vf y)) []).length ≤ n := by
    intro n
    induction n with
    | zero => exact Nat.le_refl _
    | succ n ih =>
      rcases Nat.lt_or_ge n as.length with z | z
      · rw [take_succ (List.getElem?_eq_getElem z), List.foldl_append, List.foldl_cons, List.foldl_nil]
        exact Nat.le_trans (put_len _ _ _) (Nat.succ_le_succ ih)
      · rw [List.take_of_length_le z] at ih
        rw [List.take_of_length_le (Nat.le_succ_of_le z)]
        omega
  refine ⟨fun n m H' => m = as.length - n ∧ n ≤ as.length ∧ ∃ G', Same G1 G' ∧ Sta X.K B δ (oDic X.w Da N RK fv ((as.take n).foldl (fun m y => put m (kf y) (vf y)) []) :: O1) σ G' H', ⟨_, rfl, Nat.zero_le _, G1, Same.refl _, st1.freshO (w := oDic X.w Da N RK fv []) hDa rfl ⟨[], ob, rfl, .nil⟩⟩, ?_⟩
  rintro n m H2 ⟨rfl, hn, G2, e2, st2⟩
  obtain ⟨w1, w2⟩ := wk B _ _ σ G2 H2 n e2 st2
  by_cases hlt : n < as.length
  · have hget := List.getElem?_eq_getElem hlt
    have hmem := List.mem_of_getElem? hget
    obtain ⟨hgo, hy⟩ := w1 as[n] hget
    refine .inr ⟨hgo, fun H' => ∃ G', Same G1 G' ∧ Sta X.K B δ (oDic X.w Da N RK fv ((as.take (n + 1)).foldl (fun m y => put m (kf y) (vf y)) []) :: O1) σ G' H', fun H' ⟨G', e', st'⟩ => ⟨as.length - (n + 1), by omega, rfl, hlt, G', e', st'⟩, fun v H3 y3 => ?_⟩
    obtain ⟨G3, e3, st3, r3⟩ := hy v H3 y3
    have st4 := (st3.wiped (own.map (·.2))).set (i := i) r3
    refine ⟨by rw [wipe_set hin, wipe_wipe _ _ fun _ h => h], fun s H0 C cl fp => ?_⟩
    have rot : ∀ {O' : List Own} {δ' : List (Option Slot)} {σ' : SS} {G' H' : Hp} {w : Own}, Sta X.K B δ' (w :: O') σ' G' H' → Sta X.K B δ' (O' ++ [w]) σ' G' H' := fun {O' δ' σ' G' H' w} q => q.perm (fun v hv => by simp at hv ⊢; exact hv.symm) (by
      have nd := q.nd
      (rw [List.map_cons, List.nodup_cons] at nd)
      (rw [List.map_append, List.nodup_append])
      refine ⟨nd.2, by simp, fun q hq r hr e => nd.1 ?_⟩
      simp at hr
      rw [← hr, ← e]; exact hq)
    have unrot : ∀ {O' : List Own} {δ' : List (Option Slot)} {σ' : SS} {G' H' : Hp} {w : Own}, Sta X.K B δ' (O' ++ [w]) σ' G' H' → Sta X.K B δ' (w :: O') σ' G' H' := fun {O' δ' σ' G' H' w} q => q.perm (fun v hv => by simp at hv ⊢; exact hv.symm) (by
      have nd := q.nd
      rw [List.map_append, List.nodup_append] at nd
      (rw [List.map_cons, List.nodup_cons])
      exact ⟨fun hm => nd.2.2 _ hm _ (by simp) rfl, nd.1⟩)
    refine e_frame (O := [oDic X.w Da N RK fv ((as.take n).foldl (fun m y => put m (kf y) (vf y)) [])]) (hkx _ hmem s H0 C cl fp) B _ G3 H3 _ (rot st4) fun yk G5 H5 m5 st5 hk5 => fun s H0 C cl fp => ?_
    refine e_frame (O := [oDic X.w Da N RK fv ((as.take n).foldl (fun m y => put m (kf y) (vf y)) [])]) (hvx _ hmem s H0 C cl fp) B _ G5 H5 _ st5 fun yv G6 H6 m6 st6 hv6 => ?_
    cases hv6
    have st7 := unrot st6
    obtain ⟨xs, ob2, hh, _, dp⟩ := own_dic (jw := 0) st7 rfl
    have hk6 := (RK (kf as[n])).mono m6 hk5
    obtain ⟨q, rfl, hka⟩ := hK _ X.K G6 yk hk6
    refine ⟨Da, xs, _, q, rfl, rfl, ⟨⟨ob2, hh⟩, G6, st7.stp.gh, dp.key, hka⟩, ?_, fun u ob3 ru => ⟨G6, fun q z w => m6 _ _ (m5 _ _ (e3 _ _ (e2 _ _ w))), ?_⟩⟩
    · rw [dp.length]
      exact Nat.le_trans (hlen n) (Nat.le_trans (Nat.le_of_lt hlt) hz)
    · rw [take_succ hget, List.foldl_append, List.foldl_cons, List.foldl_nil]
      have st8 := st7.put (w' := oDic X.w Da N RK fv (put ((as.take n).foldl (fun m y => put m (kf y) (vf y)) []) (kf as[n]) (vf as[n]))) rfl ⟨_, ob3, rfl, dp.put hNi ⟨hka, hk6⟩ ru⟩
      exact ⟨st8.stp, st3.env.mono (m5.trans m6), st3.len, st8.own, st8.new, st8.nd⟩
  · have e : n = as.length := by omega
    subst e
    rw [List.take_length] at st2
    exact .inl ⟨w2 (Nat.le_refl _), k Da G2 H2 (none_of st1 hDa) (m1.trans e2) st2⟩
end
end Gd

namespace K51
open PySem L2 Gd
/-! ### changes as keys -/
def nkC (c : Ch) : NestedKey := .tup [.num c.first, .num c.last, .tup (c.words.map .text)]
theorem text_inj : ∀ {a b : List Str}, a.map NestedKey.text = b.map NestedKey.text → a = b
  | [], [], _ => rfl
  | [], _ :: _, h => by simp at h -- -
  | _ :: _, [], h => by simp at h -- -
  | x :: a, y :: b, h => by
    (rw [List.map_cons, List.map_cons] at h)
    injection h with h1 h2
    injection h1 with h1
    rw [h1, text_inj h2]
theorem nkC_inj (a b : Ch) (h : nkC a = nkC b) : a = b := by
  obtain ⟨a1, a2, a3⟩ := a
  obtain ⟨b1, b2, b3⟩ := b
  unfold nkC at h
  injection h with h
  injection h with h1 h
  injection h with h2 h
  injection h with h3 _
  injection h1 with h1
  injection h2 with h2
  injection h3 with h3
  have h1 : a1 = b1 := h1
  have h2 : a2 = b2 := h2
  have h3 : a3 = b3 := text_inj h3
  rw [h1, h2, h3]
theorem depth_texts : ∀ ws : List Str, NestedKey.depthAll (ws.map .text) = 0
  | [] => by simp [NestedKey.depthAll]
  | w :: ws => by simp [NestedKey.depthAll, NestedKey.depth, depth_texts ws]
theorem nested_texts {h : Heap} : ∀ {ws : List Str} {us : List Value}, Vals (ws.map V.str) us → NestedAll h (ws.map .text) us
  | [], _, .nil => .nil
  | w :: ws, _, .cons r t => by
    obtain ⟨tk, rfl⟩ := r
    exact .cons (.text w tk) (nested_texts t)
theorem keyC : KeyS sCh nkC := by
  intro c K G v h
  obtain ⟨p, vs, rfl, hp, r⟩ := h
  obtain ⟨v1, v2, v3, rfl, e1, e2, p2, ws, rfl, hp2, r2⟩ := alls3 r
  cases e1
  cases e2
  have ew := r2.vals (f := V.str)
  subst ew
  refine ⟨p, rfl, fun X pins σ H s hk sg I => ?_⟩
  subst hk
  obtain ⟨its, rv, pt, _⟩ := I.tuple (sqT_up sg hp)
  obtain ⟨its2, rv2, pt2, _⟩ := I.tuple (sqT_up sg hp2)
  obtain ⟨o, g1, g2, n, g3⟩ := pt
  obtain ⟨o2, k1, k2, n2, k3⟩ := pt2
  refine ⟨.tup g1 g2 g3 ?_, ?_⟩
  · cases rv with
    | cons z1 z2 =>
      cases z2 with
      | cons z2 z3 =>
        cases z3 with
        | cons z3 z4 =>
          cases z4
          obtain ⟨t1, rfl⟩ := z1
          obtain ⟨t2, rfl⟩ := z2
          cases z3
          exact .cons (.int c.first t1) (.cons (.int c.last t2) (.cons (.tup k1 k2 k3 (nested_texts rv2)) .nil))
  · show NestedKey.depth (.tup [.num c.first, .num c.last, .tup (c.words.map .text)]) ≤ 8
    simp [NestedKey.depth, NestedKey.depthAll, depth_texts]
theorem alike_texts : ∀ a b : List Str, PySem.W.alikeAll (a.map .str) (b.map .str) = true
  | [], [] => by simp [PySem.W.alikeAll]
  | [], _ :: _ => by simp [PySem.W.alikeAll]
  | _ :: _, [] => by simp [PySem.W.alikeAll]
  | x :: a, y :: b => by simp [PySem.W.alikeAll, PySem.W.alike, alike_texts a b]
theorem alikeC (cs : List Ch) : PySem.W.AllAlike (cs.map chD) := PySem.W.AllAlike.of fun a b => by
  show PySem.W.alike (.tuple [.int a.first, .int a.last, .tuple (a.words.map .str)]) (.tuple [.int b.first, .int b.last, .tuple (b.words.map .str)]) = true
  simp [PySem.W.alike, PySem.W.alikeAll, alike_texts]
theorem depthC (c : Ch) : (chD c).depth ≤ 8 := by
  have := depth_ch [c]
  simp only [List.map_cons, List.map_nil, PyData.depthAll] at this
  omega
section
variable {P : Program} {w : World} {K : Fg} {mg : Str → Option Value} {base : Heap}
theorem scSide : FnScope ["changes", "change"] ["changes"] (defScope sSide) := ⟨rfl, rfl, rfl, by decide +kernel, rfl, by decide +kernel, by decide +kernel⟩
theorem wsum_erase {c : Ch} : ∀ {cs : List Ch}, c ∈ cs → wsum cs = c.words.length + wsum (cs.erase c)
  | d :: r, h => by
    have e : wsum (d :: r) = d.words.length + wsum r := by simp [wsum]
    by_cases z : d = c
    · subst z
      rw [List.erase_cons_head, e]
    · have hr : c ∈ r := (List.mem_cons.mp h).elim (fun q => absurd q.symm z) fun q => q
      have i := wsum_erase hr
      have e2 : (d :: r).erase c = d :: r.erase c := by rw [List.erase_cons, if_neg (by simpa using z)]
      have e3 : wsum (d :: r.erase c) = d.words.length + wsum (r.erase c) := by simp [wsum]
      rw [e2, e, e3]
      omega
theorem wsum_sub : ∀ {ds cs : List Ch}, ds.Nodup → (∀ c ∈ ds, c ∈ cs) → wsum ds ≤ wsum cs
  | [], _, _, _ => Nat.zero_le _ -- -
  | c :: r, cs, nd, h => by
    obtain ⟨h1, h2⟩ := List.nodup_cons.mp nd
    have e : wsum (c :: r) = c.words.length + wsum r := by simp [wsum]
    have i := wsum_sub (ds := r) (cs := cs.erase c) h2 fun d hd => (List.mem_erase_of_ne fun z => h1 (by rw [← z]; exact hd)).mpr (h d (List.mem_cons_of_mem _ hd))
    rw [e, wsum_erase (h c List.mem_cons_self)]
    omega
theorem side_nodup (cs : List Ch) : (sideL cs).Nodup := (List.mergeSort_perm _ _).nodup_iff.mpr (dd_nodup cs)
theorem ok_side {f fJ : Addr} {fd : FuncData} (F : Fun K "side_by_side" "side_by_side" sSide f fd) (b : Binds K fd ["changes"] []) (zs : mg "sorted" = none) (gJ : mg "joined" = some (.ref fJ)) (FJ : DefOk P w K mg base 1 fJ [] fsJoined) : DefOk P w K mg base 2 f [] fsSide := by
  refine fn_ok F scSide b .nil (fun _ => rfl) fun cs cdv A outer s G H D EE hr hp hf hn => ?_
  have hp : (∀ c ∈ cs, okStrs c.words) ∧ cs.length ≤ 60 ∧ wsum cs ≤ 2000 := hp
  have hr1 : Room 1 _ := hr
  have hl := dd_len cs
  have hw : wsum (sideL cs) ≤ 100000 := by
    have := wsum_sub (side_nodup cs) fun c hc => side_mem.mp hc
    omega
  refine j_ret (O1 := []) (e_call (S := fsJoined) (O2 := []) (sideL cs) FJ hr1 gJ (ea_cons (e_lst (ew_callB (c_sortDic (m := ddM cs) hr1 isD_ch (alikeC _) (fun c => ⟨_, rfl⟩) depthC (szl (by omega))) zs (by decide +kernel)
    (ea_cons (e_freeze (ew_dc (R := sCh) (RK := sCh) (N := nkC) (fv := V.bl) (as := cs) 1 nkC_inj hr1 keyC (fun c => c) (fun _ => true) scSide.nd (it_lst (e_name 0)) (blkOk_by (own := [("change", 1)]) (N := ["changes", "change"]) (sc := defScope sSide) (by decide +kernel)) (fun y hy s H _ cl fp => e_name 1) (fun y hy s H _ cl fp => e_bl) (szl (by omega))) (fun _ => rfl) (fun K G p o => frz_dic K G p o)) ea_nil))) ea_nil)
    ⟨fun c hc => hp.1 c (side_mem.mp hc), hw, Nat.le_trans (side_len cs) (by omega)⟩) (fin_ret hf (fun w hw => nomatch hw) fun G v hv => hv)
end
end K51

/-! == of two tuples whose things are instances with an own __eq__ (the answer is True) -/
namespace Gd
open PySem PySem.Spec PyProof.Rows L2
section
variable {X : Cx} {B : Bs} {δ : List (Option Slot)} {O : List Own} {σ : SS} {G H : Hp} {ι : Type} {S : FS ι} {C f : Addr} {k : Nat}
theorem Sta.ext {K : Fg} {H' : Hp} (st : Sta K B δ O σ G H) (e : Ext H H') : Sta K B δ O σ G H' :=
  ⟨⟨fun a o z => e _ _ (st.stp.gh _ _ z), st.stp.ex, fun a o z zn => e _ _ (st.stp.fr _ _ z zn), fun a o z => by
    obtain ⟨o', h'⟩ := st.stp.th _ _ z
    exact ⟨o', e _ _ h'⟩, st.stp.nf⟩, st.env, st.len, fun w hw => by
    obtain ⟨o', h1, h2, h3⟩ := st.own w hw
    exact ⟨o', e _ _ h1, h2, h3⟩, st.new, st.nd⟩
/-- two instances of C of which S says that they are equal -/
def DOwn (K : Fg) (C : Addr) (S : FS ι) : Eqv := fun x y H => ∃ a b dx dy fs gs, x = .ref a ∧ y = .ref b ∧ H a = some (.ins C dx fs) ∧ H b = some (.ins C dy gs) ∧ ∃ (G : Hp) (j : ι), Same G H ∧ S.pre j ∧ AllS K G [.ref a, .ref b] (S.args j) ∧ S.own j = [] ∧ S.own' j = [] ∧ S.res j = sBl true
theorem mon_own {K : Fg} : Mon (DOwn K C S) := fun x y H H' e ⟨a, b, dx, dy, fs, gs, hx, hy, h1, h2, G, j, sg, r⟩ => ⟨a, b, dx, dy, fs, gs, hx, hy, e _ _ h1, e _ _ h2, G, j, fun p o z => e _ _ (sg _ _ z), r⟩
theorem rc_own (hs : PySem.W.findIn X.K (.ref C) "__eq__" = some (some (.ref f))) (hf : PySem.W.isFn X.K (.ref f) = true) (F : DefX X k f [] S) : RcG X k (DOwn X.K C S) := by
  (intro A pins s σ H x y u v sb I rx ry d)
  obtain ⟨a, b, dx, dy, fs, gs, rfl, rfl, ha, hb, G, j, sg, hp, hargs, h1, h2, hres⟩ := d
  cases rx
  cases ry
  obtain ⟨od, J⟩ := inst_at I ha
  obtain ⟨od2, J2⟩ := inst_at I hb
  obtain ⟨m, hF⟩ := I.fr
  refine PySem.W.cmp_K (op := .Eq) (tb := .ref C) sb.room.units0 hF I.ok.mod.kin J J2.type (by simp [PySem.W.notFirst]) hs hf (wpAny_mono (run_in (us := [.ref a, .ref b]) (ws := [.ref a, .ref b]) (Q := fun v H' => v = .bl true ∧ Ext H H') F.raw sb.room sb.fr I (.cons rfl (.cons rfl .nil)) ?_) (fun w s' z => ?_) fun _ _ x => x)
  · refine ⟨j, G, hp, sg, hargs, ?_, ?_, fun v G' H' st _ hv => ?_⟩
    · rw [h1]
      intro w hw
      cases hw
    · rw [h1]
      exact List.nodup_nil
    rw [hres] at hv
    refine ⟨hv, fun p o z => st.fr _ _ z ?_⟩
    rw [h1]
    simp
  · obtain ⟨z', H', I', rz, ez, qz⟩ := z
    subst ez
    cases rz
    exact ⟨rfl, H', I', qz⟩
theorem eq_own (hs : PySem.W.findIn X.K (.ref C) "__eq__" = some (some (.ref f))) (hf : PySem.W.isFn X.K (.ref f) = true) (F : DefX X k f [] S) : EqG X k (DOwn X.K C S) := (rc_own hs hf F).eqG fun _ _ _ ⟨a, b, _, _, _, _, hx, hy, _⟩ => ⟨a, b, hx, hy⟩
/-- (x, y, z) == (x', y', z') -/
theorem o_eqT3 {t1 t2 t3 u1 u2 u3 : List (Str × Slot)} (j1 j2 j3 : ι) (hs : PySem.W.findIn X.K (.ref C) "__eq__" = some (some (.ref f))) (hf : PySem.W.isFn X.K (.ref f) = true) (F : DefX X k f [] S) (hr : Room (k + 1) X.A) (p1 : S.pre j1) (p2 : S.pre j2) (p3 : S.pre j3)
    (a1 : S.args j1 = [sIns C t1, sIns C u1] := by rfl) (a2 : S.args j2 = [sIns C t2, sIns C u2] := by rfl) (a3 : S.args j3 = [sIns C t3, sIns C u3] := by rfl) (hres : ∀ j ∈ [j1, j2, j3], S.res j = sBl true) (h1 : ∀ j, S.own j = [] := by intro _; rfl) (h2 : ∀ j, S.own' j = [] := by intro _; rfl) :
    OpE X (compareOp .Eq) (sTup [sIns C t1, sIns C t2, sIns C t3]) (sTup [sIns C u1, sIns C u2, sIns C u3]) (sBl true) := by
  refine ⟨_, op_eqG (rcG_tup mon_own (eq_own hs hf F)) hr, fun B δ O σ G H Q x y st hx hy q => ?_⟩
  obtain ⟨pa, xs, rfl, ha, rx⟩ := hx
  obtain ⟨pb, ys, rfl, hb, ry⟩ := hy
  obtain ⟨x1, x2, x3, rfl, hx1, hx2, hx3⟩ := alls3 rx
  obtain ⟨y1, y2, y3, rfl, hy1, hy2, hy3⟩ := alls3 ry
  have one : ∀ {t u : List (Str × Slot)} {x y : V} (j : ι), (sIns C t).ok X.K G x → (sIns C u).ok X.K G y → S.pre j → S.args j = [sIns C t, sIns C u] → S.res j = sBl true → DOwn X.K C S x y H := fun {t u x y} j hx hy hp hargs hr => by
    obtain ⟨p, dx, fs, rfl, hp1⟩ := sIns_at hx st.stp.gh
    obtain ⟨p2, dy, gs, rfl, hp2⟩ := sIns_at hy st.stp.gh
    exact ⟨p, p2, dx, dy, fs, gs, rfl, rfl, hp1, hp2, G, j, st.stp.gh, hp, by rw [hargs]; exact .cons hx (.cons hy .nil), h1 j, h2 j, hr⟩
  refine ⟨⟨pa, pb, _, _, rfl, rfl, sqT_up st.stp.gh ha, sqT_up st.stp.gh hb, .cons (one j1 hx1 hy1 p1 a1 (hres _ (by simp))) (.cons (one j2 hx2 hy2 p2 a2 (hres _ (by simp))) (.cons (one j3 hx3 hy3 p3 a3 (hres _ (by simp))) .nil))⟩, fun H' e => ?_⟩
  exact q _ G H' (Same.refl _) (st.ext e) rfl
end
end Gd

/-! x = [z for y in ys for z in a tuple of y] -/
namespace Gd
open PySem PySem.Spec PyProof.Rows L2
section
variable {X : Cx} {B B1 : Bs} {δ δ' : List (Option Slot)} {O O1 O2 O3 : List Own} {D : Ends} {rest : List Stmt} {α β : Type} {R : α → Slot} {S : β → Slot} {as : List α}
theorem sta_rot {K : Fg} {O' : List Own} {δ' : List (Option Slot)} {σ' : SS} {G' H' : Hp} {w : Own} (q : Sta K B δ' (w :: O') σ' G' H') : Sta K B δ' (O' ++ [w]) σ' G' H' := q.perm (fun v hv => by simp at hv ⊢; exact hv.symm) (by
  have nd := q.nd
  (rw [List.map_cons, List.nodup_cons] at nd)
  (rw [List.map_append, List.nodup_append])
  refine ⟨nd.2, by simp, fun q hq r hr e => nd.1 ?_⟩
  simp at hr
  rw [← hr, ← e]; exact hq)
theorem sta_unrot {K : Fg} {O' : List Own} {δ' : List (Option Slot)} {σ' : SS} {G' H' : Hp} {w : Own} (q : Sta K B δ' (O' ++ [w]) σ' G' H') : Sta K B δ' (w :: O') σ' G' H' := q.perm (fun v hv => by simp at hv ⊢; exact hv.symm) (by
  have nd := q.nd
  rw [List.map_append, List.nodup_append] at nd
  (rw [List.map_cons, List.nodup_cons])
  exact ⟨fun hm => nd.2.2 _ hm _ (by simp) rfl, nd.1⟩)
theorem j_setComp2 {elt iter iter1 : Expr} {scope : Scope} {own : List (Str × Nat)} {px px1 py pos spos : Pos} {x x1 y : Str} (iy i j : Nat) (g : α → List β) (hN : X.N.Nodup) (hi : IT X δ O (.Name x px) iter R as O1) (ok : BlkOk X.N X.env.scope scope own)
    (hin1 : ∀ y, y ∈ as → ∀ s H C cl fp, E (Blk X scope s H C cl fp) ((wipeD δ (own.map (·.2))).set i (some (R y))) O1 iter1 (sTupl S (g y)) O1)
    (helt : ∀ y, y ∈ as → ∀ z, z ∈ g y → ∀ s H C cl fp, E (Blk X scope s H C cl fp) ((wipeD ((wipeD δ (own.map (·.2))).set i (some (R y))) [j]).set j (some (S z))) O1 elt (S z) O1) (hz : (as.flatMap g).length < sizeLine)
    (q : ∀ r, B.H r = none → J X B (δ.set iy (some (sRef r))) (oLst r S (as.flatMap g) :: O1) rest D) (hyN : X.N[iy]? = some y := by rfl) (hyl : X.env.scope.names.lookup y = some .local := by rfl)
    (hsw : swapsWith (.ListComp elt [⟨.Name x px, iter, [], 0⟩, ⟨.Name x1 px1, iter1, [], 0⟩] scope pos) (some (.Name y py)) spos.line X.env = pure true := by exact sw_true rfl rfl rfl (by decide +kernel))
    (hin : i ∈ own.map (·.2) := by decide) (hjn : j ∈ own.map (·.2) := by decide) (hix : X.N[i]? = some x := by rfl) (hjx : X.N[j]? = some x1 := by rfl)
    (hx : ∀ s H C cl fp, Loc (Blk X scope s H C cl fp).env.scope x := by intro _ _ _ _ _; first | exact Or.inl rfl | exact Or.inr rfl) (hx1 : ∀ s H C cl fp, Loc (Blk X scope s H C cl fp).env.scope x1 := by intro _ _ _ _ _; first | exact Or.inl rfl | exact Or.inr rfl)
    (hf : ∀ s H C cl fp, (Blk X scope s H C cl fp).fn x = true ∨ (Blk X scope s H C cl fp).env.scope.names.lookup x = some .local := by intro _ _ _ _ _; first | exact .inl rfl | exact .inr rfl) (hf1 : ∀ s H C cl fp, (Blk X scope s H C cl fp).fn x1 = true ∨ (Blk X scope s H C cl fp).env.scope.names.lookup x1 = some .local := by intro _ _ _ _ _; first | exact .inl rfl | exact .inr rfl)
    (hc : X.calm = true := by rfl) (hs : noSet iter = true := by rfl) (hs1 : noSet iter1 = true := by rfl) :
    J X B δ O (.Assign [.Name y py] (.ListComp elt [⟨.Name x px, iter, [], 0⟩, ⟨.Name x1 px1, iter1, [], 0⟩] scope pos) spos :: rest) D := by
  obtain ⟨wi, h1, h2⟩ := hi
  refine j_cons fun σ G H st => s_of (ps_setLc2 (vs1 := [j]) (wi1 := iTup X.K (fun σ H Q => ∀ s H0 C cl fp, wE (Blk X scope s H0 C cl fp) iter1 σ H Q)) (te := fun σ H Q => ∀ s H0 C cl fp, wE (Blk X scope s H0 C cl fp) elt σ H Q) hc hN hyN hyl hsw h1 ok (fun k hk => by rw [List.mem_singleton.mp hk]; exact hjn)
    (fun s H C cl fp => pg_name hN hix (hx s H C cl fp) (hf s H C cl fp)) (fun s H C cl fp => pts_nil)
    (fun s H C cl fp => pi_tup (tl := fun σ H Q => ∀ s H0 C cl fp, wE (Blk X scope s H0 C cl fp) iter1 σ H Q) ⟨fun pins s' σ H' Q I h => (h s H C cl fp).run pins s' I⟩)
    (fun s H C cl fp => pg_name hN hjx (hx1 s H C cl fp) (hf1 s H C cl fp)) (fun s H C cl fp => pts_nil)
    (fun s H C cl fp => ⟨fun pins s' σ H' Q I h => (h s H C cl fp).run pins s' I⟩) (folded_plain hs) (fun env => folded_plain hs1)) ?_
  show tLc2 _ _ _ _ _ _ _ _ _ σ H (fun v H1 => wSs X rest D (σ.set iy (some v)) H1)
  refine h2 B σ G H _ st fun Jt G1 H1 m1 st1 wk => ?_
  intro Da hDa
  refine ⟨fun n m H' => m = as.length - n ∧ n ≤ as.length ∧ ∃ G', Same G1 G' ∧ Sta X.K B δ (oLst Da S ((as.take n).flatMap g) :: O1) σ G' H', ⟨_, rfl, Nat.zero_le _, G1, Same.refl _, st1.freshO (w := oLst Da S []) hDa rfl ⟨[], rfl, .nil⟩⟩, ?_⟩
  rintro n m H2 ⟨rfl, hn, G2, e2, st2⟩
  obtain ⟨w1, w2⟩ := wk B _ _ σ G2 H2 n e2 st2
  by_cases hlt : n < as.length
  · have hget := List.getElem?_eq_getElem hlt
    have hmem := List.mem_of_getElem? hget
    obtain ⟨hgo, hy⟩ := w1 as[n] hget
    refine .inr ⟨hgo, fun H' => ∃ G', Same G1 G' ∧ Sta X.K B δ (oLst Da S ((as.take (n + 1)).flatMap g) :: O1) σ G' H', fun H' ⟨G', e', st'⟩ => ⟨as.length - (n + 1), by omega, rfl, hlt, G', e', st'⟩, fun v H3 y3 => ?_⟩
    obtain ⟨G3, e3, st3, r3⟩ := hy v H3 y3
    have st4 := (st3.wiped (own.map (·.2))).set (i := i) r3
    refine ⟨by rw [wipe_set hin, wipe_wipe _ _ fun _ h => h], ?_⟩
    simp only [tYes, if_true]
    intro s H0 C cl fp
    have hlen : ∀ k, ((as.take n).flatMap g ++ (g as[n]).take k).length ≤ (as.flatMap g).length := fun k => by
      have e : as.flatMap g = (as.take n).flatMap g ++ (g as[n] ++ (as.drop (n + 1)).flatMap g) := by
        rw [← List.flatMap_cons, ← List.flatMap_append, ← List.drop_eq_getElem_cons hlt, List.take_append_drop]
      rw [e, List.length_append, List.length_append, List.length_append, List.length_take]
      omega
    refine e_frame (O := [oLst Da S ((as.take n).flatMap g)]) (hin1 _ hmem s H0 C cl fp) B _ G3 H3 _ (sta_rot st4) fun tv G5 H5 m5 st5 htv => ?_
    obtain ⟨p, vs, rfl, hp, rr⟩ := htv
    refine ⟨p, rfl, ⟨vs, sqT_up st5.stp.gh hp⟩, ?_⟩
    refine ⟨fun k m H' => m = (g as[n]).length - k ∧ k ≤ (g as[n]).length ∧ ∃ G', Same G5 G' ∧ Sta X.K B ((wipeD δ (own.map (·.2))).set i (some (R as[n]))) (oLst Da S ((as.take n).flatMap g ++ (g as[n]).take k) :: O1) ((wipe σ (own.map (·.2))).set i (some v)) G' H', ⟨_, rfl, Nat.zero_le _, G5, Same.refl _, by rw [List.take_zero, List.append_nil]; exact sta_unrot st5⟩, ?_⟩
    rintro k m H6 ⟨rfl, hk, G6, e6, st6⟩
    have hq : SqT X.K H6 p vs := sqT_up st6.stp.gh (sqT_mono e6 hp)
    by_cases hkl : k < (g as[n]).length
    · have hgk := List.getElem?_eq_getElem hkl
      have hmk := List.mem_of_getElem? hgk
      obtain ⟨zv, hzv, hzr⟩ := rr.get hgk
      refine .inr ⟨⟨vs, zv, hq, hzv⟩, fun H' => ∃ G', Same G5 G' ∧ Sta X.K B ((wipeD δ (own.map (·.2))).set i (some (R as[n]))) (oLst Da S ((as.take n).flatMap g ++ (g as[n]).take (k + 1)) :: O1) ((wipe σ (own.map (·.2))).set i (some v)) G' H', fun H' ⟨G', e', st'⟩ => ⟨(g as[n]).length - (k + 1), by omega, rfl, hkl, G', e', st'⟩, fun x7 H7 y7 => ?_⟩
      obtain ⟨rfl, y7⟩ := y7
      have y7 := y7 vs hq
      rw [hzv] at y7
      cases y7
      have st8 := (st6.wiped [j]).set (i := j) ((S _).mono e6 hzr)
      refine ⟨by rw [wipe_set (by simp), wipe_wipe _ _ fun _ h => h], ?_⟩
      intro s H0 C cl fp
      refine e_frame (O := [oLst Da S ((as.take n).flatMap g ++ (g as[n]).take k)]) (helt _ hmem _ hmk s H0 C cl fp) B _ G6 _ _ (sta_rot st8) fun ev G9 H9 m9 st9 hev => ?_
      have st10 := sta_unrot st9
      obtain ⟨o6, h6, _, ac, rfl, r6⟩ := st10.own _ List.mem_cons_self
      refine ⟨ac, h6, by rw [r6.length]; exact Nat.lt_of_le_of_lt (hlen k) hz, G9, fun q z w => m9 _ _ (e6 _ _ w), ?_⟩
      have st11 := st10.put (w' := oLst Da S ((as.take n).flatMap g ++ (g as[n]).take k ++ [(g as[n])[k]])) rfl ⟨_, rfl, r6.append (.cons hev .nil)⟩
      rw [take_succ hgk, ← List.append_assoc]
      exact ⟨st11.stp, st6.env.mono m9, st6.len, st11.own, st11.new, st11.nd⟩
    · have ek : k = (g as[n]).length := by omega
      subst ek
      refine .inl ⟨⟨vs, hq, by rw [rr.length]; exact Nat.le_refl _⟩, G6, fun q z w => e6 _ _ (m5 _ _ (e3 _ _ (e2 _ _ w))), ?_⟩
      rw [List.take_length] at st6
      rw [take_succ hget, List.flatMap_append, List.flatMap_cons, List.flatMap_nil, List.append_nil]
      exact ⟨st6.stp, st3.env.mono (m5.trans e6), st3.len, st6.own, st6.new, st6.nd⟩
  · have e : n = as.length := by omega
    subst e
    rw [List.take_length] at st2
    exact .inl ⟨w2 (Nat.le_refl _), q Da (none_of st1 hDa) _ G2 H2 (st2.set rfl)⟩
end
end Gd

namespace Gd
open PySem L2
section
variable {X : Cx} {δ : List (Option Slot)} {O O1 O2 O3 : List Own} {e : Expr} {pos : Pos} {α β : Type} {R : α → Slot} {as : List α} {tp : Bool}
theorem e_sliceQ {lo hi : Option Expr} {l v : Option Int} {p2 : Pos} (he : E X δ O e (sSq tp R as) O1) (hl : PoE X δ O1 lo l O2) (hu : PoE X δ O2 hi v O3) : E X δ O (.Subscript e (.Slice lo hi none p2) pos) (sSq tp R (cutA as l v)) O3 := by
  cases tp
  · exact e_lst (ew_slice he hl hu)
  · exact e_sliceT he hl hu
theorem head_flat {xs : List α} {f : α → List β} {n : Nat} {p : α} {e : β} (hn : xs[n]? = some p) (h1 : (xs.take n).flatMap f = []) (h : (f p).head? = some e) : (xs.flatMap f).head? = some e := by
  obtain ⟨hl, he⟩ := List.getElem?_eq_some_iff.mp hn
  have e1 : xs.flatMap f = (xs.take n).flatMap f ++ (f p ++ (xs.drop (n + 1)).flatMap f) := by
    rw [← List.flatMap_cons, ← List.flatMap_append, ← he, ← List.drop_eq_getElem_cons hl, List.take_append_drop]
  rw [e1, h1, List.nil_append, List.head?_append, h]
  rfl
theorem head_filt {ys : List α} {t : α → Bool} {g : α → β} {m : Nat} {q : α} (hm : ys[m]? = some q) (h2 : (ys.take m).filter t = []) (h : t q = true) : ((ys.filter t).map g).head? = some (g q) := by
  obtain ⟨hl, he⟩ := List.getElem?_eq_some_iff.mp hm
  have e1 : ys.filter t = (ys.take m).filter t ++ (q :: ys.drop (m + 1)).filter t := by
    rw [← List.filter_append, ← he, ← List.drop_eq_getElem_cons hl, List.take_append_drop]
  rw [e1, h2, List.nil_append, List.filter_cons_of_pos h]
  rfl
end
end Gd
namespace K51
open PySem L2 Gd
def isOk : TgR → Bool
  | .ok _ => true
  | .clash _ _ => false
theorem ok_iff (p q : Pa) : isOk (togV p q) = true ↔ Fit p.changes q.changes := by
  rw [← bad_none]
  unfold togV
  cases h : badV p.changes q.changes with
  | nil => simp [isOk]
  | cons e r => simp [isOk]
inductive AllR where
  | pair (i j : Int)
  | pa (p : Pa)
def sAll (CP : Addr) : AllR → Slot
  | .pair i j => sTup [sInt i, sInt j]
  | .pa p => sPa CP p
def rowP (ps : List Pa) (q : Pa × Nat) : List (Int × Int) := ((ps.take q.2).zipIdx.filter fun o => !isOk (togV o.1 q.1)).map fun o => ((o.2 : Int), (q.2 : Int))
def pairBad (ps : List Pa) : List (Int × Int) := ps.zipIdx.flatMap (rowP ps)
def allPa (ps : List Pa) : Pa := ⟨wholeV (ps.flatMap (·.changes)), maxDV (ps.map (·.least)) 0⟩
def allV (ps : List Pa) : AllR := match (pairBad ps).head? with
  | some e => .pair e.1 e.2
  | none => .pa (allPa ps)
structure AllOk (ps : List Pa) : Prop where
  tog : ∀ p ∈ ps, ∀ q ∈ ps, TogOk (p, q)
  few : ps.length ≤ 1000
  tot : (ps.flatMap (·.changes)).length ≤ 60
  sum : wsum (ps.flatMap (·.changes)) ≤ 2000
  res : pairBad ps = [] → (allPa ps).ok
abbrev allN : List Str := ["patches", "one", "number", "other", "place", "changes", "change"]
section
variable {P : Program} {w : World} {K : Fg} {mg : Str → Option Value} {base : Heap} {C CP CT CC : Addr}
theorem scTEq : FnScope ["self", "other"] ["self", "other"] (defScope sTEq) := ⟨rfl, rfl, rfl, by decide +kernel, rfl, by decide +kernel, by decide +kernel⟩
def fsTEq (CP CT : Addr) : FS To := { args := fun t => [sTo CP CT t, sTo CP CT t], pre := fun t => t.whole.ok ∧ t.one.ok ∧ t.other.ok, res := fun _ => sBl true }
theorem ok_teq {f fQ : Addr} {fd : FuncData} (F : Fun K "__eq__" "Together.__eq__" sTEq f fd) (b : Binds K fd ["self", "other"] []) (Cc : Cs K mg) (TC : ToC K mg CT) (CI : ClsI K CT)
    (sQ : PySem.W.findIn K (.ref CP) "__eq__" = some (some (.ref fQ))) (nQ : PySem.W.isFn K (.ref fQ) = true) (FQ : DefOk P w K mg base 1 fQ [] (fsPEq CP)) : DefOk P w K mg base 3 f [] (fsTEq CP CT) := by
  refine fn_ok F scTEq b .nil (fun _ => rfl) fun t cdv A outer s G H D EE hr hp hf hn => ?_
  obtain ⟨p1, p2, p3⟩ := (show t.whole.ok ∧ t.one.ok ∧ t.other.ok from hp)
  refine j_if (O1 := []) (u := false) (t_eq (t_not (t_val (e_callB (c_isiC (k := true) (ty_ins CI) kit_self) Cc.isi (by decide +kernel) (ea_cons (e_name 1) (ea_cons (e_gref TC.gT) ea_nil))))) rfl) (fun h => nomatch h) (fun _ => j_on ?_)
  refine j_ret (O1 := []) (s := sBl true) (e_cmp (o_eqT3 (S := fsPEq CP) (t.whole, t.whole) (t.one, t.one) (t.other, t.other) sQ nQ FQ hr ⟨p1, p1⟩ ⟨p2, p2⟩ ⟨p3, p3⟩ rfl rfl rfl (fun j hj => by
    simp only [List.mem_cons, List.not_mem_nil, or_false] at hj
    rcases hj with rfl | rfl | rfl <;> simp [fsPEq]))
    (e_tup (ea_cons (e_fld 0 TC.cl TC.nW (e_name 0)) (ea_cons (e_fld 1 TC.cl TC.n1 (e_name 0)) (ea_cons (e_fld 2 TC.cl TC.n2 (e_name 0)) ea_nil))) (szl (by simp)))
    (e_tup (ea_cons (e_fld 0 TC.cl TC.nW (e_name 1)) (ea_cons (e_fld 1 TC.cl TC.n1 (e_name 1)) (ea_cons (e_fld 2 TC.cl TC.n2 (e_name 1)) ea_nil))) (szl (by simp)))) (fin_ret hf (fun w hw => hw) fun G v hv => hv)
/-- the truth of what together tells -/
theorem t_tog {X : Cx} {δ : List (Option Slot)} {O O1 : List Own} {e : Expr} {fT fC : Addr} (r : TgR) (sT : PySem.W.findIn X.K (.ref CT) "__bool__" = some (some (.ref fT))) (nT : PySem.W.isFn X.K (.ref fT) = true) (FT : DefX X 1 fT [] (fsTBool CP CT))
    (sC : PySem.W.findIn X.K (.ref CC) "__bool__" = some (some (.ref fC))) (nC : PySem.W.isFn X.K (.ref fC) = true) (FC : DefX X 1 fC [] (fsCBool CC)) (hr : Room 1 X.A) (h : E X δ O e (sTg CP CT CC r) O1) (hv : plainTest e = true := by rfl) : T X δ O e (isOk r) O1 := by
  cases r with
  | ok t => exact t_own (F := fsTBool CP CT) (u := true) t sT nT FT hr trivial h (hv := hv)
  | clash i j => exact t_own (F := fsCBool CC) (u := false) (i, j) sC nC FC hr trivial h (hv := hv)
theorem scAllT : FnScope allN ["patches"] (defScope sAllT) := ⟨rfl, rfl, rfl, by decide +kernel, rfl, by decide +kernel, by decide +kernel⟩
def fsAllT (CP : Addr) : FS (Bool × List Pa) := { args := fun i => [sSq i.1 (sPa CP) i.2], pre := fun i => AllOk i.2, res := fun i => sAll CP (allV i.2) }
theorem ok_allT {f fK fG fS fI fT fC : Addr} {fd : FuncData} (F : Fun K "all_together" "all_together" sAllT f fd) (b : Binds K fd ["patches"] []) (ze : mg "enumerate" = none) (zm : mg "max" = none) (PC : PaC K mg CP)
    (gK : mg "check_patch" = some (.ref fK)) (FK : DefOk P w K mg base 1 fK [] (fsCheckPatch CP)) (gG : mg "together" = some (.ref fG)) (FG : DefOk P w K mg base 6 fG [] (fsTog CP CT CC)) (gS : mg "side_by_side" = some (.ref fS)) (FS_ : DefOk P w K mg base 2 fS [] fsSide) (MP : Mk K CP fI) (FI : DefOk P w K mg base 4 fI [] (fsPInit CP))
    (sT : PySem.W.findIn K (.ref CT) "__bool__" = some (some (.ref fT))) (nT : PySem.W.isFn K (.ref fT) = true) (FT : DefOk P w K mg base 1 fT [] (fsTBool CP CT)) (sC : PySem.W.findIn K (.ref CC) "__bool__" = some (some (.ref fC))) (nC : PySem.W.isFn K (.ref fC) = true) (FC : DefOk P w K mg base 1 fC [] (fsCBool CC)) : DefOk P w K mg base 7 f [] (fsAllT CP) := by
  refine fn_ok F scAllT b .nil (fun _ => rfl) fun ⟨tp, ps⟩ cdv A outer s G H D EE hr hp hf hn => ?_
  have hp : AllOk ps := hp
  have hr6 : Room 6 _ := hr
  have hr5 : Room 5 _ := hr.mono (by decide)
  (have hr2 : Room 2 _ := hr.mono (by decide))
  (have hr1 : Room 1 _ := hr.mono (by decide))
  have hfew : ps.length ≤ 1000 := hp.few
  have htot := hp.tot
  refine j_for (O1 := []) (R := sPa CP) (as := ps) (fun n (g : Nat) => g = n) (fun _ => [some (sSq tp (sPa CP) ps), none, none, none, none, none, none]) (fun _ => []) (fun p => [(1, sPa CP p)]) (it_sq (e_name 0)) (tg_name 1 scAllT.nd) ⟨0, rfl, fun _ _ _ _ h => h⟩ ?_ ?_
  · rintro B1 n p g hB hy rfl
    exact j_expr (O1 := []) (e_call (O2 := []) (S := fsCheckPatch CP) p FK hr1 gK (ea_cons (e_name 1) ea_nil) trivial) (j_nil fun σ G H st => ⟨_, G, rfl, st.wk (.same (.skip (.same (.same (.same (.same (.same .nil)))))))⟩)
  rintro g rfl
  refine j_for (O1 := []) (R := fun y : Pa × Nat => sTup [sInt (y.2 : Nat), sPa CP y.1]) (as := ps.zipIdx) (fun n (g : Nat) => g = n ∧ (ps.zipIdx.take n).flatMap (rowP ps) = []) (fun _ => [some (sSq tp (sPa CP) ps), none, none, none, none, none, none]) (fun _ => []) (fun y => [(2, sInt (y.2 : Nat)), (3, sPa CP y.1)])
    (it_enumQ ze (e_name 0)) (tg_tup2 (r1 := fun y : Pa × Nat => sInt (y.2 : Nat)) (r2 := fun y : Pa × Nat => sPa CP y.1) 2 3 scAllT.nd) ⟨0, ⟨rfl, rfl⟩, fun _ _ _ _ h => h⟩ ?_ ?_
  · rintro B1 n ⟨q, i⟩ g hB hy ⟨rfl, hg⟩
    have hzi := List.mem_zipIdx (List.mem_of_getElem? hy)
    have hq : q ∈ ps := by
      rw [hzi.2.2]
      exact List.getElem_mem _
    have hcut : cutA ps none (some ((i : Nat) : Int)) = ps.take i := by
      rw [cutA_take _ (by omega)]
      rfl
    refine j_for (O1 := []) (R := fun y : Pa × Nat => sTup [sInt (y.2 : Nat), sPa CP y.1]) (as := (ps.take i).zipIdx) (fun m (g : Nat) => g = m ∧ ((ps.take i).zipIdx.take m).filter (fun o => !isOk (togV o.1 q)) = []) (fun _ => [some (sSq tp (sPa CP) ps), none, some (sInt (i : Nat)), some (sPa CP q), none, none, none]) (fun _ => []) (fun y => [(4, sInt (y.2 : Nat)), (1, sPa CP y.1)])
      (it_enumQ ze (e_eqS (e_sliceQ (e_name (s := sSq tp (sPa CP) ps) 0) po_n (po_s (e_name (s := sInt (i : Nat)) 2))) (by rw [hcut]))) (tg_tup2 (r1 := fun y : Pa × Nat => sInt (y.2 : Nat)) (r2 := fun y : Pa × Nat => sPa CP y.1) 4 1 scAllT.nd) ⟨0, ⟨rfl, rfl⟩, fun _ _ _ _ h => h⟩ ?_ ?_
    · rintro B2 m ⟨o, k⟩ g2 hB2 hy2 ⟨rfl, hg2⟩
      have ho : o ∈ ps := by
        have := (List.mem_zipIdx (List.mem_of_getElem? hy2)).2.2
        have h2 : o ∈ ps.take i := by
          rw [this]
          exact List.getElem_mem _
        exact List.mem_of_mem_take h2
      refine j_if (O1 := []) (u := !isOk (togV o q)) (t_not (t_tog (CP := CP) (CT := CT) (CC := CC) (togV o q) sT nT FT sC nC FC hr1 (e_callR (S := fsTog CP CT CC) (O2 := []) (o, q) FG hr6 gG (ea_cons (e_name 1) (ea_cons (e_name 3) ea_nil)) (hp.tog o ho q hq)))) (fun h => ?_) (fun h => j_on (j_nil fun σ G H st => ⟨_, G, ⟨rfl, ?_⟩, st.wk (.same (.skip (.same (.same (.skip (.same (.same .nil)))))))⟩))
      · have hd : (pairBad ps).head? = some ((k : Int), (i : Int)) := head_flat hy hg (head_filt (g := fun o : Pa × Nat => ((o.2 : Int), (i : Int))) hy2 hg2 h)
        refine j_ret (O1 := []) (s := sTup [sInt (k : Nat), sInt (i : Nat)]) (e_tup (ea_cons (e_name 4) (ea_cons (e_name 2) ea_nil)) (szl (by simp))) (fin_ret ((hf.le hB).le hB2) (fun w hw => nomatch hw) fun G v hv => ?_)
        show (sAll CP (allV ps)).ok _ _ _
        unfold allV
        rw [hd]
        exact hv
      · have h : isOk (togV o q) = true := by simpa using h
        rw [take_succ hy2, List.filter_append, hg2, List.nil_append, List.filter_cons, if_neg (by simp [h])]
        rfl
    · rintro g2 ⟨rfl, hg2⟩
      rw [List.take_length] at hg2
      refine j_nil fun σ G H st => ⟨_, G, ⟨rfl, ?_⟩, st.wk (.same (.same (.skip (.skip (.same (.same (.same .nil)))))))⟩
      rw [take_succ hy, List.flatMap_append, hg, List.nil_append, List.flatMap_cons, List.flatMap_nil, List.append_nil]
      unfold rowP
      rw [hg2]
      rfl
  · rintro g ⟨rfl, hg⟩
    rw [List.take_length] at hg
    have hbad : pairBad ps = [] := hg
    have hres := hp.res hbad
    refine j_setComp2 (R := sPa CP) (S := sCh) (as := ps) (own := [("one", 1), ("change", 6)]) 5 1 6 (fun p => p.changes) scAllT.nd (it_sq (e_name 0)) (blkOk_by (own := [("one", 1), ("change", 6)]) (N := allN) (sc := defScope sAllT) (by decide +kernel))
      (fun p hp s H _ cl fp => e_fld 0 PC.cl PC.nC (e_name (s := sPa CP p) 1)) (fun p hp z hz s H _ cl fp => e_name 6) (Nat.lt_of_le_of_lt htot (by decide)) (fun r hr' => ?_)
    refine j_freeze 5 (s := sLst sCh (ps.flatMap fun p => p.changes)) rfl hr' (fun K G o => frz_lst K G r o) ?_
    refine j_ret (O1 := []) (s := sPa CP (allPa ps)) (e_patch (allPa ps) MP FI hr5 PC.gP hres (ea_cons (s := sTupl sCh (allPa ps).changes) (e_callR (S := fsSide) (O2 := []) (ps.flatMap fun p => p.changes) FS_ hr2 gS (ea_cons (e_name 5) ea_nil) ⟨fun c hc => ?_, htot, hp.sum⟩)
      (ea_cons (s := sInt (allPa ps).least) (e_maxD hr1 zm (e_lst (ew_map (R := sPa CP) (S := sInt) (as := ps) 1 (fun p => p.least) scAllT.nd (it_sq (e_name 0)) (blkOk_by (own := [("one", 1)]) (N := allN) (sc := defScope sAllT) (by decide +kernel)) (fun p hp s H _ cl fp => e_fld 1 PC.cl PC.nL (e_name (s := sPa CP p) 1)) (szl (by omega)))) e_int) ea_nil))) (fin_ret hf (fun w hw => nomatch hw) fun G v hv => ?_)
    · obtain ⟨p, hp1, hp2⟩ := List.mem_flatMap.mp hc
      exact (hp.tog p hp1 p hp1).sm1.str c hp2
    · show (sAll CP (allV ps)).ok _ _ _
      unfold allV
      rw [hbad]
      exact hv
end
end K51

namespace K51
open PySem L2 Gd
/-! ### what the law's data are -/
theorem Hand.mono {L M : Int} {A : List Ch} (h : Hand L A) (hl : L ≤ M) : Hand M A := ⟨h.good, fun c hc => Int.le_trans (h.ends c hc) hl, h.few, h.words⟩
structure PH (p : Pa) : Prop where
  hand : Hand p.least p.changes
  l0 : 0 ≤ p.least
  l10 : p.least ≤ 10
theorem PH.ok {p : Pa} (h : PH p) : p.ok := ⟨h.hand.good, Nat.le_trans h.hand.few (by decide), lastEnd_le h.l0 h.hand.ends⟩
theorem PH.small {p : Pa} (h : PH p) : SmallC p.changes ∧ wsum p.changes ≤ 10 := h.hand.small
theorem whole_ok {L : Int} {U : List Ch} (h : Uni L U) (h0 : 0 ≤ L) {l : Int} (hl : L ≤ l) : (Pa.mk (wholeV U) l).ok := by
  obtain ⟨a, _, b⟩ := h.whole
  refine ⟨a, ?_, lastEnd_le (by show 0 ≤ l; omega) fun c hc => Int.le_trans (b c hc) hl⟩
  have h1 := (joined_small (sideL U)).2
  have h2 := side_len U
  have h3 := h.few
  show (joinedV (sideL U)).length ≤ 1000
  omega
theorem two_uni {L : Int} {A B : List Ch} (hA : Hand L A) (hB : Hand L B) (f : Fit A B) : Uni L (A ++ B) := hA.uni1.app hB.uni1 f (by have := hA.few; have := hB.few; omega)
section
variable {p q : Pa}
abbrev LL (p q : Pa) : Int := max p.least q.least
theorem pair_facts (hp : PH p) (hq : PH q) (hf : Fit p.changes q.changes) : Uni (LL p q) (p.changes ++ q.changes) ∧ (toV p q).whole.ok ∧ (toV p q).one.ok ∧ (toV p q).other.ok ∧
    Beh (LL p q) (p.changes ++ q.changes) p.changes p (toV p q).other ∧ Beh (LL p q) (p.changes ++ q.changes) q.changes q (toV p q).one := by
  have h0 : 0 ≤ LL p q := by have := hp.l0; show 0 ≤ max _ _; omega
  have hA := hp.hand.mono (show p.least ≤ LL p q by show _ ≤ max _ _; omega)
  have hB := hq.hand.mono (show q.least ≤ LL p q by show _ ≤ max _ _; omega)
  have U := two_uni hA hB hf
  have u1 : ∀ c, c ∈ p.changes ++ q.changes ↔ c ∈ p.changes ∨ c ∈ q.changes := fun c => List.mem_append
  have u2 : ∀ c, c ∈ p.changes ++ q.changes ↔ c ∈ q.changes ∨ c ∈ p.changes := fun c => List.mem_append.trans or_comm
  have m1 := (moved_ok U hA hB u1 h0).1
  have m2 := (moved_ok U hB hA u2 h0).1
  have g1 : 0 ≤ LL p q + grow p.changes := by
    have := appC_lenW (N := LL p q) (s := 0) (cs := p.changes) hA.good.wk hA.ends h0
    omega
  have g2 : 0 ≤ LL p q + grow q.changes := by
    have := appC_lenW (N := LL p q) (s := 0) (cs := q.changes) hB.good.wk hB.ends h0
    omega
  refine ⟨U, whole_ok U h0 (Int.le_refl _), ⟨m2.good, Nat.le_trans m2.small.2 (by decide), lastEnd_le g2 m2.ends⟩, ⟨m1.good, Nat.le_trans m1.small.2 (by decide), lastEnd_le g1 m1.ends⟩, ?_, ?_⟩
  · exact behind_whole U hA hB u1 h0 (l := p.least) (by show _ ≤ max _ _; omega)
  · exact behind_whole U hB hA u2 h0 (l := q.least) (by show _ ≤ max _ _; omega)
theorem beh_ok {L : Int} {U A : List Ch} {p o : Pa} (h : Beh L U A p o) (hp : p.ok) (ho : o.ok) (hw : (Pa.mk (wholeV U) L).ok) : BehOk (p, o) := ⟨hp, ho, h.pok, by rw [h.eq]; exact hw⟩
theorem tog_ok (hp : PH p) (hq : PH q) : TogOk (p, q) := by
  refine ⟨hp.ok, hq.ok, hp.small.1, hq.small.1, ?_, fun h => ?_⟩
  · have h1 := hp.hand.few
    have h2 := hq.hand.few
    show (p.changes ++ q.changes).length ≤ 60
    rw [List.length_append]
    omega
  · obtain ⟨_, a, b, c, _⟩ := pair_facts hp hq (bad_none.mp h)
    exact ⟨a, b, c⟩
theorem tog_fit (h : Fit p.changes q.changes) : togV p q = .ok (toV p q) := by
  unfold togV
  rw [bad_none.mpr h]
  rfl
theorem tog_swap (hp : PH p) (hq : PH q) (h : Fit p.changes q.changes) : toV q p = ⟨(toV p q).whole, (toV p q).other, (toV p q).one⟩ := by
  have h0 : 0 ≤ LL p q := by have := hp.l0; show 0 ≤ max _ _; omega
  have hA := hp.hand.mono (show p.least ≤ LL p q by show _ ≤ max _ _; omega)
  have hB := hq.hand.mono (show q.least ≤ LL p q by show _ ≤ max _ _; omega)
  have U := two_uni hA hB h
  have U2 := two_uni hB hA fun a ha b hb => fit_symm (h b hb a ha)
  have e1 : max q.least p.least = max p.least q.least := by omega
  have e2 : sideL (q.changes ++ p.changes) = sideL (p.changes ++ q.changes) := side_same U2 U fun c => by rw [List.mem_append, List.mem_append]; exact or_comm
  unfold toV wholeV
  rw [e1, e2]
end
/-! ### several hands -/
theorem le_foldmax (is : List Int) : ∀ a : Int, a ≤ is.foldl max a ∧ ∀ x ∈ is, x ≤ is.foldl max a := by
  induction is with
  | nil => intro a; exact ⟨Int.le_refl _, fun x hx => nomatch hx⟩
  | cons y r ih =>
    intro a
    obtain ⟨h1, h2⟩ := ih (max a y)
    refine ⟨by rw [List.foldl_cons]; omega, fun x hx => ?_⟩
    rw [List.foldl_cons]
    (rcases List.mem_cons.mp hx with rfl | hx)
    · omega
    · exact h2 x hx
theorem le_maxD {is : List Int} {x : Int} (h : x ∈ is) : x ≤ maxDV is 0 := by
  cases is with
  | nil => cases h
  | cons i r =>
    obtain ⟨h1, h2⟩ := le_foldmax r i
    (rcases List.mem_cons.mp h with rfl | h)
    · exact h1
    · exact h2 x h
structure Hands (ps : List Pa) : Prop where
  ph : ∀ p ∈ ps, PH p
  few : ps.length ≤ 3
  tot : (ps.flatMap (·.changes)).length ≤ 13
theorem Hands.top {ps : List Pa} (h : Hands ps) : 0 ≤ maxDV (ps.map (·.least)) 0 := by
  cases hps : ps with
  | nil => exact Int.le_refl _
  | cons p r =>
    have hm : p ∈ ps := by rw [hps]; exact List.mem_cons_self
    have := le_maxD (is := ps.map (·.least)) (List.mem_map.mpr ⟨p, hm, rfl⟩)
    have := (h.ph p hm).l0
    rw [← hps]
    omega
theorem Hands.uni {ps : List Pa} (h : Hands ps) (hf : ∀ p ∈ ps, ∀ q ∈ ps, Fit p.changes q.changes) : Uni (maxDV (ps.map (·.least)) 0) (ps.flatMap (·.changes)) where
  fit a ha b hb := by
    obtain ⟨p, hp, ha⟩ := List.mem_flatMap.mp ha
    obtain ⟨q, hq, hb⟩ := List.mem_flatMap.mp hb
    exact hf p hp q hq a ha b hb
  ne c hc := by
    obtain ⟨p, hp, hc⟩ := List.mem_flatMap.mp hc
    exact good_ne1 (h.ph p hp).hand.good c hc
  lo c hc := by
    obtain ⟨p, hp, hc⟩ := List.mem_flatMap.mp hc
    exact (h.ph p hp).hand.lo c hc
  ends c hc := by
    obtain ⟨p, hp, hc⟩ := List.mem_flatMap.mp hc
    exact Int.le_trans ((h.ph p hp).hand.ends c hc) (le_maxD (List.mem_map.mpr ⟨p, hp, rfl⟩))
  few := h.tot
  words c hc := by
    obtain ⟨p, hp, hc⟩ := List.mem_flatMap.mp hc
    exact (h.ph p hp).hand.words c hc
theorem pair_none {ps : List Pa} (h : Hands ps) (hb : pairBad ps = []) : ∀ p ∈ ps, ∀ q ∈ ps, Fit p.changes q.changes := by
  have key : ∀ i j (hi : i < ps.length) (hj : j < ps.length), i < j → Fit ps[i].changes ps[j].changes := fun i j hi hj hij => by
    unfold pairBad at hb
    rw [List.flatMap_eq_nil_iff] at hb
    have h1 := hb (ps[j], j) (List.mem_iff_getElem?.mpr ⟨j, by rw [List.getElem?_zipIdx, List.getElem?_eq_getElem hj]; simp⟩)
    unfold rowP at h1
    rw [List.map_eq_nil_iff, List.filter_eq_nil_iff] at h1
    have h2 := h1 (ps[i], i) (List.mem_iff_getElem?.mpr ⟨i, by
      rw [List.getElem?_zipIdx]
      have : (ps.take j)[i]? = some ps[i] := by rw [List.getElem?_take_of_lt hij, List.getElem?_eq_getElem hi]
      rw [this]
      simp⟩)
    exact (ok_iff _ _).mp (by simpa using h2)
  intro p hp q hq
  (obtain ⟨i, hi, rfl⟩ := List.getElem_of_mem hp)
  obtain ⟨j, hj, rfl⟩ := List.getElem_of_mem hq
  rcases Nat.lt_trichotomy i j with z | z | z
  · exact key i j hi hj z
  · subst z
    exact (h.ph _ hp).hand.fit
  · exact fun a ha b hb => fit_symm (key j i hj hi z b hb a ha)
theorem pair_nil {ps : List Pa} (hf : ∀ p ∈ ps, ∀ q ∈ ps, Fit p.changes q.changes) : pairBad ps = [] := by
  unfold pairBad
  rw [List.flatMap_eq_nil_iff]
  rintro ⟨q, j⟩ hq
  unfold rowP
  rw [List.map_eq_nil_iff, List.filter_eq_nil_iff]
  rintro ⟨p, i⟩ hp
  have h1 : q ∈ ps := by
    rw [(List.mem_zipIdx hq).2.2]
    exact List.getElem_mem _
  have h2 : p ∈ ps := by
    have : p ∈ ps.take j := by
      rw [(List.mem_zipIdx hp).2.2]
      exact List.getElem_mem _
    exact List.mem_of_mem_take this
  have := (ok_iff p q).mpr (hf p h2 q h1)
  simp [this]
theorem all_ok {ps : List Pa} (h : Hands ps) : AllOk ps where
  tog p hp q hq := tog_ok (h.ph p hp) (h.ph q hq)
  few := Nat.le_trans h.few (by decide)
  tot := Nat.le_trans h.tot (by decide)
  sum := by
    have h1 := wsum_two (cs := ps.flatMap (·.changes)) fun c hc => by
      obtain ⟨p, hp, hc⟩ := List.mem_flatMap.mp hc
      exact (h.ph p hp).hand.words c hc
    have h2 := h.tot
    omega
  res hb := whole_ok (h.uni (pair_none h hb)) h.top (Int.le_refl _)
theorem all_fit {ps : List Pa} (hb : pairBad ps = []) : allV ps = .pa (allPa ps) := by
  unfold allV
  rw [hb]
  rfl
theorem side_one {L : Int} {A : List Ch} (h : Hand L A) (h0 : 0 ≤ L) : wholeV A = A := by
  have U := h.uni1
  have e : sideL A = A := uniqL U.pw (good_pw h.good) (fun c hc => (U.ne c (side_mem.mp hc)).le) fun c => side_mem
  obtain ⟨a, b, c⟩ := U.whole
  refine appC_inj (N := L) a h.good c h.ends h0 ?_
  rw [b, e]
theorem all_one {p : Pa} (h : PH p) : allV [p] = .pa p := by
  have hb : pairBad [p] = [] := rfl
  rw [all_fit hb]
  have e : allPa [p] = p := by
    unfold allPa
    rw [show [p].flatMap (·.changes) = p.changes by simp, side_one h.hand h.l0]
    rfl
  rw [e]
theorem all_nil : allV [] = .pa ⟨[], 0⟩ := by
  have hb : pairBad [] = [] := rfl
  rw [all_fit hb]
  have e : sideL [] = [] := by
    have := side_len []
    exact List.eq_nil_of_length_eq_zero (by simpa using this)
  have : allPa [] = ⟨[], 0⟩ := by
    unfold allPa
    show Pa.mk (joinedV (sideL [])) 0 = _
    rw [e]
    rfl
  rw [this]
section
variable {p q r : Pa}
def at3 (p q r : Pa) (i : Int) : Pa := if i = 0 then p else if i = 1 then q else r
def pr3 (p q r : Pa) : List (Int × Int) := [(0, 1), (0, 2), (1, 2)].filter fun e => !isOk (togV (at3 p q r e.1) (at3 p q r e.2))
theorem pair3 : pairBad [p, q, r] = pr3 p q r := by
  have e : pairBad [p, q, r] = rowP [p, q, r] (p, 0) ++ (rowP [p, q, r] (q, 1) ++ (rowP [p, q, r] (r, 2) ++ [])) := rfl
  have e0 : rowP [p, q, r] (p, 0) = [] := rfl
  have e1 : rowP [p, q, r] (q, 1) = if isOk (togV p q) = true then [] else [(0, 1)] := by
    show ([(p, 0)].filter fun o : Pa × Nat => !isOk (togV o.1 q)).map _ = _
    cases h : isOk (togV p q) <;> simp [h]
  have e2 : rowP [p, q, r] (r, 2) = (if isOk (togV p r) = true then [] else [(0, 2)]) ++ (if isOk (togV q r) = true then [] else [(1, 2)]) := by
    show ([(p, 0), (q, 1)].filter fun o : Pa × Nat => !isOk (togV o.1 r)).map _ = _
    cases h : isOk (togV p r) <;> cases h2 : isOk (togV q r) <;> simp [h, h2]
  rw [e, e0, e1, e2]
  unfold pr3 at3
  cases h1 : isOk (togV p q) <;> cases h : isOk (togV p r) <;> cases h2 : isOk (togV q r) <;> simp [h1, h, h2]
theorem all_turn (h : Hands [p, q, r]) (hf : ∀ x ∈ [p, q, r], ∀ y ∈ [p, q, r], Fit x.changes y.changes) : Hands [r, p, q] ∧ allV [r, p, q] = .pa (allPa [p, q, r]) := by
  have hm : ∀ x, x ∈ [r, p, q] → x ∈ [p, q, r] := fun x hx => by
    simp only [List.mem_cons, List.not_mem_nil, or_false] at hx ⊢
    rcases hx with z | z | z
    · exact .inr (.inr z)
    · exact .inl z
    · exact .inr (.inl z)
  have h2 : Hands [r, p, q] := ⟨fun x hx => h.ph x (hm x hx), Nat.le_refl _, by
    have := h.tot
    simp only [List.flatMap_cons, List.flatMap_nil, List.append_nil, List.length_append] at this ⊢
    omega⟩
  refine ⟨h2, ?_⟩
  have hf2 : ∀ x ∈ [r, p, q], ∀ y ∈ [r, p, q], Fit x.changes y.changes := fun x hx y hy => hf x (hm x hx) y (hm y hy)
  rw [all_fit (pair_nil hf2)]
  have U := h.uni hf
  have U2 := h2.uni hf2
  have e : sideL ([r, p, q].flatMap (·.changes)) = sideL ([p, q, r].flatMap (·.changes)) := by
    refine uniqL U2.pw U.pw (fun c hc => (U2.ne c (side_mem.mp hc)).le) fun c => ?_
    rw [side_mem, side_mem]
    simp only [List.flatMap_cons, List.flatMap_nil, List.append_nil, List.mem_append]
    constructor
    · rintro (z | z | z)
      · exact .inr (.inr z)
      · exact .inl z
      · exact .inr (.inl z)
    · rintro (z | z | z)
      · exact .inr (.inl z)
      · exact .inr (.inr z)
      · exact .inl z
  have e2 : maxDV ([r, p, q].map (·.least)) 0 = maxDV ([p, q, r].map (·.least)) 0 := by
    show max (max r.least p.least) q.least = max (max p.least q.least) r.least
    omega
  unfold allPa wholeV
  rw [e, e2]
end
/-- what sorted tells of a set of changes that go together -/
theorem sort_side {L : Int} {U Z : List Ch} (h : Uni L U) (nd : Z.Nodup) (hm : ∀ c, c ∈ Z ↔ c ∈ U) : sortB chD Z = sideL U := by
  have pm : (sortB chD Z).Perm Z := List.mergeSort_perm _ _
  have mm : ∀ c, c ∈ sortB chD Z ↔ c ∈ U := fun c => pm.mem_iff.trans (hm c)
  have pw : (sortB chD Z).Pairwise lt2 := by
    refine (List.Pairwise.and_mem.mp (List.Pairwise.and (sortC_pw Z) (pm.nodup_iff.mpr nd))).imp fun {a b} ⟨ha, hb, h3, h4⟩ => ?_
    have ma := (mm a).mp ha
    have mb := (mm b).mp hb
    exact lt_of_fit (h.ne a ma).le (h.ne b mb).le (h.fit a ma b mb) h4 (dle_first h3)
  exact uniqL pw h.pw (fun c hc => (h.ne c ((mm c).mp hc)).le) fun c => by rw [mm, side_mem]
/-- two lone changes -/
theorem carried_moved {L : Int} {a b : Ch} (hA : Hand L [a]) (hB : Hand L [b]) (hf : fitC a b = true) (hne : a ≠ b) : ∀ m, carriedV a b = some m → movedV [a] [b] = [m] := by
  intro m hm
  have na := good_ne1 hA.good a List.mem_cons_self
  have nb := good_ne1 hB.good b List.mem_cons_self
  have la := na.le
  have lb := nb.le
  have hmore : moreC [b] a = if aheadC b a = true then b.growth else 0 := by
    unfold moreC
    rw [List.filter_cons]
    split <;> simp
  have hj : ∀ g : Int, joinedV [shiftC g a] = [shiftC g a] := fun g => by
    have hk : keepCh (shiftC g a) = true := by
      unfold keepCh shiftC
      have := na.real
      simp only [Bool.or_eq_true, decide_eq_true_eq, Bool.not_eq_true', decide_eq_false_iff_not]
      by_cases z : a.words = []
      · left
        have : a.first ≠ a.last := fun e => na.real ⟨e, z⟩
        omega
      · right
        exact z
    show ([shiftC g a].filter keepCh) = _
    rw [List.filter_cons_of_pos hk]
    rfl
  have hmv : movedV [a] [b] = [shiftC (moreC [b] a) a] := by
    unfold movedV
    have : ([a].filter fun c => !decide (c ∈ [b])) = [a] := by
      simp [hne]
    rw [this, List.map_singleton, hj]
  rw [hmv, hmore]
  unfold carriedV at hm
  unfold fitC at hf
  rw [if_neg hne] at hf
  split at hm
  · rename_i h
    cases hm
    have : ¬ aheadC b a = true := fun z => by
      have := (ahead_iff b a).mp z
      unfold lt2 at this
      omega
    rw [if_neg this]
    show [Ed.mk (a.first + 0) (a.last + 0) a.words] = [a]
    rw [Int.add_zero, Int.add_zero]
  · rename_i h
    split at hm
    · rename_i h2
      cases hm
      have : aheadC b a = true := by
        rw [ahead_iff]
        refine ⟨h2, fun z => ?_⟩
        split at hf
        · rename_i y
          have : ¬ a.first = b.first := by simpa using hf
          omega
        · rename_i y
          omega
      rw [if_pos this]
      rfl
    · cases hm
/-! ### changes put in front -/
theorem good_filter {cs : List Ch} : ∀ {e e' : Int} {t : Ch → Bool}, goodFrom e cs → (∀ c ∈ cs, t c = true → e' < c.first) → goodFrom e' (cs.filter t) := by
  induction cs with
  | nil => intro e e' t _ _; trivial
  | cons c r ih =>
    intro e e' t h ht
    rw [List.filter_cons]
    split
    · rename_i z
      exact ⟨ht c List.mem_cons_self z, h.2.1, h.2.2.1, h.2.2.2.1, h.2.2.2.2.1, ih h.2.2.2.2.2 fun d hd _ => (h.2.2.2.2.2.all d hd).2.2.1⟩
    · exact ih h.2.2.2.2.2 fun d hd hz => ht d (List.mem_cons_of_mem _ hd) hz
theorem hand_front {L : Int} {a : Ch} {B : List Ch} (ha : Ne1 a) (h0 : 0 ≤ a.first) (hl : a.last ≤ L) (hw : a.words.length ≤ 2) (hB : Hand L B) (few : B.length ≤ 4) : Hand L ([a] ++ B.filter fun c => decide (c.first > a.last)) where
  good := ⟨by omega, ha.le, ha.ok, ha.few, ha.real, good_filter hB.good fun c _ hc => by simpa using hc⟩
  ends c hc := by
    (rcases List.mem_cons.mp hc with rfl | hc)
    · exact hl
    · exact hB.ends c (List.mem_filter.mp hc).1
  few := by
    have := List.length_filter_le (fun c : Ch => decide (c.first > a.last)) B
    (rw [List.length_append, List.length_singleton])
    omega
  words c hc := by
    (rcases List.mem_cons.mp hc with rfl | hc)
    · exact hw
    · exact hB.words c (List.mem_filter.mp hc).1
end K51

/-! x.f(..), the field f of x an instance that may be called -/
namespace Gd
open PySem PySem.Spec PyProof.Rows L2
section
variable {X : Cx} {δ : List (Option Slot)} {O O1 O2 : List Own} {ι : Type} {S : FS ι} {C CT f : Addr} {k : Nat}
theorem e_callFO {pl : Sem Bool} {tab tab2 : List (Str × Slot)} {o e : Expr} {es : List Expr} {x : Str} {apos pos : Pos} {ss : List Slot} (jf : Nat) (j : ι) (ct : Cls X.K CT) (n : NoAttr X.K CT x) (c : StX.CallO X.K C f) (F : DefX X k f [] S) (hr : Room k X.A) (ho : E X δ O o (sIns CT tab) O1) (ha : EA X δ O1 (e :: es) ss O2) (hp : S.pre j)
    (hj : tab[jf]? = some (x, sIns C tab2) := by rfl) (hargs : S.args j = sIns C tab2 :: ss := by rfl) (h1 : S.own j = [] := by rfl) (h2 : S.own' j = [] := by rfl) (he : noStar e = true := by rfl) (hpl : noStars es = true := by rfl)
    (ht : eval (.Call (.Attribute o x apos) (e :: es) [] pos) X.env = (do
      let ov ← eval o X.env
      standAt apos.atName
      let (f, first) ← holding [ov] (getMethod ov x pl)
      callWith pos f first (backTo pos (starEach (e :: es) X.env)) (backToKw pos (keywordEach [] X.env))) := by rfl) : -- -
    E X δ O (.Call (.Attribute o x apos) (e :: es) [] pos) (S.res j) O2 := by
  intro B σ G H Q st kk
  refine e_of (t := fun σ H Q => wE X o σ H fun v H1 => ∃ a dx fs a2, v = .ref a ∧ H1 a = some (.ins CT dx fs) ∧ fs.lookup x = some (.ref a2) ∧ wA X (e :: es) σ H1 fun vs H2 => StX.InsC X H2 a2 C ∧ S.sp X.K (V.ref a2 :: vs) H2 Q E0) ⟨fun pins s σ H Q I h => ?_⟩ ?_
  · refine PySem.W.methodCall_KW (pl := pl) (thn (pe_w.run pins s σ H _ I h) fun u s1 ⟨y, H1, I1, ry, a, dx, fs, a2, ey, ea, l, q⟩ => ?_) ht
    subst ey
    (obtain rfl : u = Value.ref a := ry)
    refine getmeth_fld I1 ea ct n l fun u2 s2 I2 r2 => ?_
    obtain rfl : u2 = Value.ref a2 := r2
    refine StX.callO_with (thn (pa_w.run pos pins s2 σ H1 _ I2 q) fun us s3 ⟨vs, H3, I3, r, hi, q2⟩ => ?_) (starEach_plain he) (backTo_plain hpl)
    obtain ⟨ox, od, J, hd⟩ := StX.insC_at I3 hi
    exact ⟨⟨C, ox, od, J, hd⟩, StX.run_callO c F.raw hr pass0 I3 hi r q2⟩
  · refine ho B σ G H _ st fun v G1 H1 m1 st1 hv => ?_
    obtain ⟨q, o1, rfl, hq, dx, fs, rfl, _, h3, _⟩ := hv
    obtain ⟨v2, h4, h5⟩ := h3 x _ (List.mem_of_getElem? hj)
    have h50 := h5
    obtain ⟨q2, dx2, fs2, rfl, hq2⟩ := sIns_at h5 (Same.refl G1)
    refine ⟨q, dx, fs, q2, rfl, st1.stp.gh _ _ hq, h4, ?_⟩
    refine ha B σ G1 H1 _ st1 fun vs G2 H2 m2 st2 hvs => ⟨.inr ⟨dx2, fs2, st2.stp.gh _ _ (m2 _ _ hq2)⟩, ?_⟩
    exact fs_pure j hp st2 (by rw [hargs]; exact .cons ((sIns C tab2).mono m2 h50) hvs) h1 h2 fun v G' H' m st' hv' => kk v G' H' (m1.trans (m2.trans m)) st' hv'
end
end Gd

/-! Small sets of tuples of any depth (whole numbers, texts, tuples of such) -/
namespace Gd
open PySem PySem.Spec PyProof.Rows L2
/-! ### what the model asks of a thing put into a set -/
section
variable {P : Program} {w : World}
/-- of no own class, n levels down -/
def Plain1 (P : Program) (w : World) (n : Nat) (s : Shared) (v : Value) : Prop := ∀ (A : Around) (E : Value → Shared → Prop) (Q : Bool → Shared → Prop), Q false s → wpAny (model P w) A (ofAClassStatement n v) Q E s
/-- whether it hashes by value is told, n levels down -/
def Told1 (P : Program) (w : World) (n : Nat) (s : Shared) (v : Value) : Prop := ∀ (A : Around) (E : Value → Shared → Prop) (Q : Bool → Shared → Prop), (∀ b, Q b s) → wpAny (model P w) A (hashByValue n v) Q E s
theorem plain_tup {n m : Nat} {s : Shared} {a : Addr} {o : Obj} {vs : Array Value} (ho : s.heap.get? a = some o) (hc : o.cls = .type "tuple") (hd : o.data = .seq vs m) (h : ∀ v ∈ vs.toList, Plain1 P w n s v) : Plain1 P w (n + 1) s (.ref a) := fun A E Q q => by
  unfold ofAClassStatement
  (refine wpAny_bind (wpAny_typeOf ⟨o, ho, hc⟩ ?_))
  dsimp only
  (have e : (("tuple" : String) == "tuple") = true := by decide)
  (simp only [e, if_true, Bool.not_true, Bool.false_eq_true, if_false])
  try refine wpAny_bind (wpAny_pure ?_) -- -
  try simp only [Bool.not_true, Bool.false_eq_true, if_false] -- -
  show wpAny _ _ (seqItems? (.ref a) >>= _) _ _ s
  (refine wpAny_bind (wpAny_seqItems ho hd ?_))
  dsimp only
  refine wpAny_bind ?_
  (show wpAny _ _ (forIn vs _ _) _ _ s)
  rw [← Array.forIn_toList]
  refine wpAny_forIn_list _ (fun rest r s1 => r.1 = none ∧ s1 = s ∧ ∀ v ∈ rest, Plain1 P w n s v) _ (fun v rest r s1 ⟨h1, h2, h3⟩ => ?_) (fun r s1 ⟨h1, h2, _⟩ => ?_) _ _ ⟨rfl, rfl, h⟩
  · subst h2
    refine wpAny_bind (h3 v List.mem_cons_self _ _ _ ?_)
    (simp only [Bool.false_eq_true, if_false])
    exact wpAny_pure ⟨rfl, rfl, fun u hu => h3 u (List.mem_cons_of_mem _ hu)⟩
  · obtain ⟨r1, r2⟩ := r
    dsimp only at h1
    subst h1 h2
    exact wpAny_pure q
theorem told_tup {n m : Nat} {s : Shared} {a : Addr} {o : Obj} {vs : Array Value} (ho : s.heap.get? a = some o) (hc : o.cls = .type "tuple") (hd : o.data = .seq vs m) (h : ∀ v ∈ vs.toList, Told1 P w n s v) : Told1 P w (n + 1) s (.ref a) := fun A E Q q => by
  unfold hashByValue
  refine wpAny_bind (wpAny_specialOf (show s.TypeIs (.ref a) "tuple" from ⟨o, ho, hc⟩) PySem.F.slot_tuple_hash.lookup ?_)
  show wpAny _ _ (seqItems? (.ref a) >>= _) _ _ s
  (refine wpAny_bind (wpAny_seqItems ho hd ?_))
  refine wpAny_bind ?_
  (show wpAny _ _ (forIn vs _ _) _ _ s)
  rw [← Array.forIn_toList]
  refine wpAny_forIn_list _ (fun rest r s1 => s1 = s ∧ ∀ v ∈ rest, Told1 P w n s v) _ (fun v rest r s1 ⟨h2, h3⟩ => ?_) (fun r s1 ⟨h2, _⟩ => ?_) _ _ ⟨rfl, h⟩
  · subst h2
    refine wpAny_bind (h3 v List.mem_cons_self _ _ _ fun b => ?_)
    cases b
    · exact wpAny_pure (wpAny_pure (q _))
    · exact wpAny_pure ⟨rfl, fun u hu => h3 u (List.mem_cons_of_mem _ hu)⟩
  · obtain ⟨r1, r2⟩ := r
    subst h2
    cases r1 with
    | none => exact wpAny_pure (q _)
    | some b => exact wpAny_pure (q _)
theorem plain_val {n : Nat} {s : Shared} {v : Value} (h : ofAClassStatement n v = pure false) : Plain1 P w n s v := fun A E Q q => by
  rw [h]
  exact wpAny_pure q
theorem told_val {n : Nat} {s : Shared} {v : Value} {b : Bool} (h : hashByValue n v = pure b) : Told1 P w n s v := fun A E Q q => by
  rw [h]
  exact wpAny_pure (q b)
mutual
theorem asks_key : ∀ (k : NestedKey) (v : Value) (n : Nat) (s : Shared), NestedIs s.heap k v → k.depth ≤ n → Plain1 P w n s v ∧ Told1 P w n s v
  | .none, _, n, s, x, _ => by
    cases x
    cases n <;> exact ⟨plain_val rfl, told_val (b := true) rfl⟩
  | .num i, _, n, s, x, _ => by
    cases x <;> cases n <;> exact ⟨plain_val rfl, told_val (b := true) rfl⟩
  | .text y, _, n, s, x, _ => by
    cases x
    cases n <;> exact ⟨plain_val rfl, told_val (b := false) rfl⟩
  | .tup ks, _, n, s, x, hn => by -- -
    cases x with
    | tup h1 h2 h3 h4 =>
      (simp only [NestedKey.depth] at hn)
      cases n with
      | zero => omega
      | succ n =>
        have i := asks_keys ks _ n s h4 (by omega)
        exact ⟨plain_tup h1 h2 h3 fun v hv => (i v hv).1, told_tup h1 h2 h3 fun v hv => (i v hv).2⟩
theorem asks_keys : ∀ (ks : List NestedKey) (vs : List Value) (n : Nat) (s : Shared), NestedAll s.heap ks vs → NestedKey.depthAll ks ≤ n → ∀ v ∈ vs, Plain1 P w n s v ∧ Told1 P w n s v
  | [], _, n, s, x, _, v, hv => by
    cases x
    cases hv
  | k :: ks, _, n, s, x, hn, v, hv => by -- -
    cases x with
    | cons x1 x2 =>
      (simp only [NestedKey.depthAll] at hn)
      (rcases List.mem_cons.mp hv with e | hv)
      · rw [e]
        exact asks_key k _ n s x1 (by omega)
      · exact asks_keys ks _ n s x2 (by omega) v hv
end
/-- the tuple at a is the key k -/
abbrev IsN (h : Heap) (k : NestedKey) (a : Addr) : Prop := NestedIs h k (.ref a) ∧ k.depth ≤ 8
theorem isN_keep {h h' : Heap} {k : NestedKey} {a : Addr} (x : IsN h k a) (hk : ∀ b o vs n, h.get? b = some o → o.data = .seq vs n → h'.get? b = some o) : IsN h' k a := ⟨NestedIs.at hk k _ x.1, x.2⟩
section
variable {A : Around} {E : Value → Shared → Prop} {s : Shared}
/-- a search among such tuples shows nothing -/
theorem unseen {k : NestedKey} {x : Addr} {Q : Bool → Shared → Prop} (hx : IsN s.heap k x) {ys : List Value} (hy : ∀ y ∈ ys, ∃ k' c, y = Value.ref c ∧ IsN s.heap k' c) (q : Q false s) : wpAny (model P w) A (searchCouldBeSeen (.ref x) ys) Q E s := by
  unfold searchCouldBeSeen
  refine wpAny_bind ?_
  refine wpAny_forIn_list _ (fun rest r s1 => r.1 = none ∧ s1 = s ∧ ∀ y ∈ rest, ∃ k' c, y = Value.ref c ∧ IsN s.heap k' c) _ (fun v rest r s1 ⟨h1, h2, h3⟩ => ?_) (fun r s1 ⟨h1, h2, _⟩ => ?_) _ _ ⟨rfl, rfl, hy⟩
  · subst h2
    obtain ⟨k2, c, rfl, hc⟩ := h3 v List.mem_cons_self
    have go : (none : Option Bool) = none ∧ s1 = s1 ∧ ∀ y ∈ rest, ∃ k' c, y = Value.ref c ∧ IsN s1.heap k' c := ⟨rfl, rfl, fun u hu => h3 u (List.mem_cons_of_mem _ hu)⟩
    dsimp only
    by_cases hv : (x == c || (carriedByValue (.ref x) && carriedByValue (.ref c))) = true
    · exact wp_if_pos hv (wpAny_pure go)
    · refine wp_if_neg hv ?_
      refine wpAny_bind ((nestedKind P w).quiet hx ?_)
      (simp only [Bool.not_true, Bool.false_eq_true, if_false])
      refine wpAny_bind ((nestedKind P w).quiet hc ?_)
      (simp only [Bool.not_true, Bool.false_eq_true, if_false])
      refine wpAny_bind ((asks_key k _ 8 s1 hx.1 hx.2).1 _ _ _ ?_)
      (simp only [Bool.false_eq_true, if_false])
      refine wpAny_bind ((asks_key k2 _ 8 s1 hc.1 hc.2).1 _ _ _ ?_)
      (simp only [Bool.false_eq_true, if_false])
      exact wpAny_pure go
  · obtain ⟨r1, r2⟩ := r
    dsimp only at h1
    subst h1 h2
    exact wpAny_pure q
end
end
/-! ### the set -/
section
variable {P : Program} {w : World}
abbrev hsN (w : World) (p : Addr × NestedKey) : Int := p.2.hash w
abbrev entN (w : World) (p : Addr × NestedKey) : Int × Value := (hsN w p, .ref p.1)
structure SetN (w : World) (h : Heap) (a : Addr) (L : List (Addr × NestedKey)) (es : Array (Int × Value)) (ep : Nat) (t : SetTable) : Prop where
  ob : ∃ o, h.get? a = some o ∧ o.ExactSet ∧ o.data = .set es ep t -- -
  rows : es.toList = L.map (entN w)
  tab : TabOk t (L.map (hsN w))
  nd : (L.map (·.2)).Nodup
  key : ∀ p ∈ L, IsN h p.2 p.1
  led : w.params.followText "set-order" = true ∨ t.led = true -- -
  room : L.length * 5 < t.mask * 3 -- -
  few : L.length ≤ 18
variable {a : Addr} {L : List (Addr × NestedKey)} {es : Array (Int × Value)} {ep : Nat} {t : SetTable}
theorem len_rows (h : es.toList = L.map (entN w)) : es.size = L.length := by
  (have := congrArg List.length h)
  rwa [Array.length_toList, List.length_map] at this
theorem get_rows (h : es.toList = L.map (entN w)) (i : Nat) : es[i]? = (L[i]?).map (entN w) := by rw [← Array.getElem?_toList, h, List.getElem?_map]
theorem tab_fits (T : TabOk t (L.map (hsN w))) (hl : es.size = L.length) (hm : es.size ≤ t.mask) : t.fits es.size = true := by
  have h1 := T.sz
  rw [List.length_map] at h1
  (unfold SetTable.fits SetTable.fill)
  rw [T.dm, Bool.and_eq_true, beq_iff_eq, decide_eq_true_eq]
  exact ⟨by omega, by show t.place.size + 0 ≤ t.mask; omega⟩
theorem SetN.fits {h : Heap} (R : SetN w h a L es ep t) : t.fits es.size = true := by
  have h1 := len_rows R.rows
  have h2 := R.room
  exact tab_fits R.tab h1 (by omega)
theorem nth_dum (m : Nat) : ∀ (n : Nat) (p : SetTable.Probe), (nth m p n).dummy = p.dummy
  | 0, _ => rfl
  | n + 1, p => by
    show (nth m (adv m p) n).dummy = _
    rw [nth_dum m n]
    unfold adv
    split <;> rfl
section
variable {A : Around} {E : Value → Shared → Prop} {s : Shared}
theorem seek (R : SetN w s.heap a L es ep t) {x : Addr} {k : NestedKey} (hx : IsN s.heap k x) (hu : A.units + 8 < cLine) {Q : SetFound → Shared → Prop} {J : Nat} (hJ : J ∉ t.place.toList) (hin : k ∈ L.map (·.2) → Q (.there none) s) (hout : k ∉ L.map (·.2) → Q (.free J false) s) :
    ∀ (f K : Nat) (p : SetTable.Probe) (st : Option SetTable.Probe), st.getD (t.probeStart (k.hash w)) = p → p.dummy = none → K < f → K < 10 * SetTable.turns t.mask → (∀ q, q < K → (nth t.mask p q).j ∈ t.place.toList) → (nth t.mask p K).j = J →
      (∀ (i : Nat) (e : Addr × NestedKey), L[i]? = some e → e.2 = k → ∃ q, q < K ∧ t.place.toList[i]? = some (nth t.mask p q).j) → wpAny (model P w) A (setSearchFrom a (.ref x) (k.hash w) true f st) Q E s
  | 0, K, _, _, _, _, h, _, _, _, _ => absurd h (Nat.not_lt_zero _)
  | f + 1, K, p, st, hst, hdm, hf, hK, hocc, hend, hre => by
    (obtain ⟨o, ho, hex, hd⟩ := R.ob)
    rw [setSearchFrom_succ]
    (refine wpAny_bind (wpAny_setState_of ho hd R.fits ?_))
    dsimp only
    refine wp_if_neg (by unfold SetTable.gaveWay; rw [mask_odd R.tab.mok]; decide) ?_
    try refine wpAny_bind (wpAny_pure ?_) -- -
    have hat : ∀ (i : Nat) (e : Addr × NestedKey), L[i]? = some e → (es[i]?.map (·.1)).getD 0 = e.2.hash w := fun i e he => by rw [get_rows R.rows, he]; rfl
    rw [hst]
    rcases go_spec t R.tab.ris R.tab.dm (fun i => (es[i]?.map (·.1)).getD 0) (k.hash w) (10 * SetTable.turns t.mask) K p hdm hK hocc (by rw [hend]; exact hJ) with ⟨q, i, hq, hi, hh, hno, hpr⟩ | ⟨hno, hpr⟩
    · rw [show t.probe (fun i => (es[i]?.map (·.1)).getD 0) (k.hash w) p = _ from hpr]
      dsimp only
      have hil : i < L.length := by
        (have h1 : i < t.place.toList.length := (List.getElem?_eq_some_iff.mp hi).1)
        have h2 := R.tab.sz
        rw [List.length_map] at h2
        (rw [Array.length_toList] at h1)
        omega
      obtain ⟨e, he⟩ : ∃ e, L[i]? = some e := ⟨_, List.getElem?_eq_getElem hil⟩
      have hent : es[i]? = some (e.2.hash w, Value.ref e.1) := by rw [get_rows R.rows, he]; rfl
      have hem := List.mem_of_getElem? he
      have rest : wpAny (model P w) A (searchRest a (.ref x) (k.hash w) true f es t (nth t.mask p q).j i (nth t.mask p (q + 1))) Q E s := by
        unfold searchRest
        rw [hent]
        dsimp only
        refine wpAny_bind (wpAny_holding ((nestedKind P w).eqBool (show A.units + 8 < cLine from hu) (R.key e hem) hx ?_))
        (refine wpAny_bind (wpAny_setState_of ho hd R.fits ?_))
        dsimp only
        by_cases hk : e.2 = k
        · refine wp_if_pos (by simp [hk]) (wpAny_pure (hin (List.mem_map.mpr ⟨e, hem, hk⟩)))
        · refine wp_if_neg (by simp [hk]) ?_
          try refine wpAny_bind (wpAny_pure ?_) -- -
          rw [sameMem]
          dsimp only
          have hsl : t.slot (nth t.mask p q).j = .live i := slot_live R.tab.ris hi
          simp only [if_true, hsl, hent]
          (refine wpAny_bind (wpAny_isSame_ref_self (wpAny_bind (wpAny_pure ?_))))
          simp only [if_true]
          refine wp_if_neg (by simp [hk]) ?_
          have sh : ∀ r, nth t.mask (nth t.mask p (q + 1)) r = nth t.mask p (q + 1 + r) := fun r => (nth_add t.mask (q + 1) p r).symm
          refine seek R hx hu hJ hin hout f (K - (q + 1)) (nth t.mask p (q + 1)) _ rfl (by rw [nth_dum]; exact hdm) (by omega) (by omega) (fun r hr => by rw [sh]; exact hocc _ (by omega)) (by rw [sh, show q + 1 + (K - (q + 1)) = K by omega]; exact hend) fun i0 e0 h0 k0 => ?_
          obtain ⟨r, hr, hp⟩ := hre i0 e0 h0 k0
          refine ⟨r - (q + 1), ?_⟩
          have h1 : ¬ r < q := fun z => hno r i0 z hp (by show (es[i0]?.map (·.1)).getD 0 = _; rw [hat i0 e0 h0, k0])
          have h2 : r ≠ q := fun z => by
            subst z
            have s0 := slot_live R.tab.ris hp
            rw [hsl] at s0
            injection s0 with s0
            subst s0
            rw [he] at h0
            cases h0
            exact hk k0
          rw [sh, show q + 1 + (r - (q + 1)) = r by omega]
          exact ⟨by omega, hp⟩
      by_cases hl : t.led = true
      · (refine wp_if_neg (by simp [hl]) ?_)
        try refine wpAny_bind (wpAny_pure ?_) -- -
        exact rest
      · (refine wp_if_pos (by simp [hl]) ?_)
        refine wpAny_bind (unseen hx (fun y hy => ?_) ?_)
        · obtain ⟨z, hz, ez⟩ := List.mem_map.mp hy
          have hz1 : z ∈ es ∧ z.1 = k.hash w := by simpa using hz
          have hz2 : z ∈ es.toList := by simpa using hz1.1
          rw [R.rows] at hz2
          obtain ⟨p2, hp2, e2⟩ := List.mem_map.mp hz2
          exact ⟨p2.2, p2.1, by rw [← ez, ← e2], R.key p2 hp2⟩
        · (refine wp_if_neg (by decide) ?_)
          try refine wpAny_bind (wpAny_pure ?_) -- -
          exact rest
    · rw [show t.probe (fun i => (es[i]?.map (·.1)).getD 0) (k.hash w) p = _ from hpr]
      dsimp only
      rw [hend]
      (refine wpAny_pure (hout fun hm => ?_))
      obtain ⟨e0, h0, k0⟩ := List.mem_map.mp hm
      obtain ⟨i0, h1, e1⟩ := List.getElem_of_mem h0
      have h2 : L[i0]? = some e0 := by rw [List.getElem?_eq_getElem h1, e1]
      obtain ⟨r, hr, hp⟩ := hre i0 e0 h2 k0
      exact hno r i0 hr hp (by show (es[i0]?.map (·.1)).getD 0 = _; rw [hat i0 e0 h2, k0])
theorem seek0 (R : SetN w s.heap a L es ep t) {x : Addr} {k : NestedKey} (hx : IsN s.heap k x) (hu : A.units + 8 < cLine) {Q : SetFound → Shared → Prop} (hin : k ∈ L.map (·.2) → Q (.there none) s)
    (hout : ∀ K, k ∉ L.map (·.2) → way t.mask (k.hash w) K ∉ t.place.toList → (∀ c, c < K → way t.mask (k.hash w) c ∈ t.place.toList) → Q (.free (way t.mask (k.hash w) K) false) s) : wpAny (model P w) A (setSearch a (.ref x) (k.hash w) true) Q E s := by
  have hroom := R.room
  obtain ⟨K, h1, h2, h3⟩ := R.tab.first (by rw [List.length_map]; omega) (k.hash w)
  have hb : 10 * SetTable.turns t.mask ≤ 1420 := by
    unfold SetTable.turns
    (rcases R.tab.mok with e | e | e <;> omega)
  unfold setSearch
  refine seek R hx hu h2 hin (fun hn => hout K hn h2 h3) 100000 K _ none rfl rfl (by omega) h1 h3 rfl fun i e he hk => ?_
  have hi : (L.map (hsN w))[i]? = some (k.hash w) := by rw [List.getElem?_map, he, ← hk]; rfl
  have hil : i < t.place.toList.length := by -- -
    have z1 : i < L.length := (List.getElem?_eq_some_iff.mp he).1
    have z2 := R.tab.sz
    rw [List.length_map] at z2
    rw [Array.length_toList]
    omega
  obtain ⟨c, hc, ec⟩ := R.tab.before h2 hi (List.getElem?_eq_getElem hil)
  exact ⟨c, hc, by rw [List.getElem?_eq_getElem hil]; exact congrArg some ec.symm⟩
end
end
end Gd

/-! Small sets of tuples of any depth: adding, set(xs), sorted -/
namespace Gd
open PySem PySem.Spec PyProof.Rows L2
section
variable {P : Program} {w : World}
variable {a : Addr} {L : List (Addr × NestedKey)} {es : Array (Int × Value)} {ep : Nat} {t : SetTable}
theorem keyN_same {h h' : Heap} {k : NestedKey} {a b : Addr} {o : Obj} (x : IsN h k b) (ho : h.get? a = some o) (hd : o.data = .set es ep t) (hs : Heap.SameBut a h h') : IsN h' k b := isN_keep x fun c o1 vs n h1 h2 => by
  refine (hs.2 c fun e => ?_).trans h1
  subst e
  rw [ho] at h1
  cases h1
  rw [hd] at h2
  cases h2
theorem tab_plain {t : SetTable} {hs : List Int} (T : TabOk t hs) (b : Bool) : TabOk (if b = true then t else { t with plain := false }) hs := by
  cases b
  · exact ⟨T.ris, T.dm, T.sz, T.mok, T.bd, T.reach⟩
  · exact T
theorem pick_all {α : Type} : ∀ L : List α, (List.range L.length).filterMap (fun i => L[i]?) = L
  | [] => rfl
  | x :: L => by
    rw [List.length_cons, List.range_succ_eq_map, List.filterMap_cons_some (by rfl), List.filterMap_map]
    congr 1
    exact pick_all L
theorem pick_hash (w : World) {hs : Array Int} (hh : ∀ i : Nat, hs[i]? = (L[i]?).map (hsN w)) : ∀ l : List Nat, (∀ i ∈ l, i < L.length) → (l.filterMap fun i => L[i]?).map (hsN w) = l.map fun i => hs.getD i 0
  | [], _ => rfl
  | i :: l, h => by
    have hi := h i List.mem_cons_self
    (have e := List.getElem?_eq_getElem hi)
    rw [List.filterMap_cons_some e, List.map_cons, List.map_cons, pick_hash w hh l fun j hj => h j (List.mem_cons_of_mem _ hj)]
    congr 1
    have := hh i
    rw [e] at this
    rw [Array.getD_eq_getD_getElem?, this]
    rfl
section
variable {A : Around} {E : Value → Shared → Prop} {s : Shared}
/-- five of them: the table is laid anew, larger -/
theorem relay5 {o : Obj} (ho : s.heap.get? a = some o) (hex : o.ExactSet) (hd : o.data = .set es ep t) (rows : es.toList = L.map (entN w)) (T : TabOk t (L.map (hsN w))) (nd : (L.map (·.2)).Nodup) (key : ∀ p ∈ L, IsN s.heap p.2 p.1) (ld : w.params.followText "set-order" = true ∨ t.led = true) (h5 : L.length = 5) (hm : t.mask = 7)
    {Q : Unit → Shared → Prop} (hQ : ∀ h' L' es' ep' t', Heap.SameBut a s.heap h' → SetN w h' a L' es' ep' t' → L'.Perm L → Q () { s with heap := h' }) : wpAny (model P w) A (setRelay a (SetTable.grown 5)) Q E s := by
  have hl := len_rows rows
  have hf := tab_fits T hl (by omega)
  obtain ⟨t', order, e, hp, T2, em, el, _, _⟩ := relaid_ok t (hs := es.map (·.1)) (wanted := SetTable.grown 5) (M := 31) (by rw [size_20]) (.inr (.inl rfl)) (by rw [Array.size_map, hl]; omega)
  rw [Array.size_map, hl] at hp
  have lt : ∀ i ∈ order.toList, i < L.length := fun i hi => List.mem_range.mp (hp.mem_iff.mp hi)
  have pm : (order.toList.filterMap fun i => L[i]?).Perm L := by
    have := hp.filterMap fun i => L[i]?
    rwa [pick_all] at this
  have r2 : (order.filterMap (es[·]?)).toList = (order.toList.filterMap fun i => L[i]?).map (entN w) := by
    rw [Array.toList_filterMap, List.map_filterMap]
    congr 1
    funext i
    exact get_rows rows i
  have T3 : TabOk t' ((order.toList.filterMap fun i => L[i]?).map (hsN w)) := by
    rw [pick_hash w (hs := es.map (·.1)) (fun i => by rw [Array.getElem?_map, get_rows rows, Option.map_map]; rfl) _ lt]
    exact T2
  generalize order.toList.filterMap (fun i => L[i]?) = L2 at pm r2 T3
  have hs2 : (order.filterMap (es[·]?)).size = es.size := by rw [len_rows r2, pm.length_eq, hl]
  rw [setRelay_eq]
  (refine wpAny_bind (wpAny_setState_of ho hd hf ?_))
  dsimp only
  refine wp_if_neg (by rw [size_20, sizeLine_eq]; decide) ?_
  try refine wpAny_bind (wpAny_pure ?_) -- -
  rw [e]
  dsimp only
  refine wpAny_bind ?_
  (refine wp_if_neg (by rw [hs2]; simp) ?_)
  try refine wpAny_bind (wpAny_pure ?_) -- -
  refine wpAny_pure ?_
  dsimp only
  refine wpAny_storeSet_of ho hd ?_ (by rw [hs2, hl, sizeLine_eq]; omega)
  (have sb : Heap.SameBut a s.heap (s.heap.update a (Obj.putSet (order.filterMap (es[·]?)) t')) := Heap.SameBut.update ..)
  have pl := pm.length_eq
  exact hQ _ L2 _ (ep + 1) t' sb ⟨⟨_, store_at ho hd, ⟨hex.1, hex.2.1, hex.2.2⟩, rfl⟩, r2, T3, (pm.map (·.2)).nodup_iff.mpr nd, fun p hp => keyN_same (key p (pm.mem_iff.mp hp)) ho hd sb, by rw [el]; exact ld, by rw [em]; omega, by omega⟩ pm
theorem addN (R : SetN w s.heap a L es ep t) {x : Addr} {k : NestedKey} (hx : IsN s.heap k x) (hu : A.units + 8 < cLine) (hfew : L.length + 1 ≤ 18) {Q : Bool → Shared → Prop}
    (hQ : ∀ b h' L' es' ep' t', Heap.SameBut a s.heap h' → SetN w h' a L' es' ep' t' → (k ∈ L.map (·.2) → L' = L) → (k ∉ L.map (·.2) → L'.Perm ((x, k) :: L)) → Q b { s with heap := h' }) : wpAny (model P w) A (setAddHashed a (.ref x) (k.hash w)) Q E s := by
  (obtain ⟨o, ho, hex, hd⟩ := R.ob)
  have hl := len_rows R.rows
  have hroom := R.room
  unfold setAddHashed
  refine wpAny_holding ?_
  (rw [show (100000 : Nat) = 99999 + 1 from rfl, setAddHashedIn_succ])
  (refine wpAny_bind (wpAny_setState_of ho hd R.fits ?_))
  dsimp only
  (refine wp_if_neg (by simp [byScan, Value.scannable]) ?_)
  try refine wpAny_bind (wpAny_pure ?_) -- -
  refine wpAny_bind (seek0 R hx hu (fun hm => ?_) fun K hm hK hb => ?_)
  · dsimp only
    (exact wpAny_pure (hQ false s.heap L es ep t (Heap.SameBut.refl a s.heap) R (fun _ => rfl) fun z => absurd hm z))
  dsimp only
  (refine wpAny_bind (wpAny_setState_of ho hd R.fits ?_))
  dsimp only
  (obtain ⟨q1, q2, q3, q4, q5, q6, q7, q8, q9⟩ := R.tab.put hK hb)
  generalize t.put (way t.mask (k.hash w) K) = pt at q1 q3 q4 q5 q6 q7 q8 q9 ⊢
  obtain ⟨t1, p⟩ := pt
  dsimp only at q1 q3 q4 q5 q6 q7 q8 q9 ⊢
  subst q1
  generalize SetTable.below t.place (way t.mask (k.hash w) K) = p at q2 q3 ⊢
  rw [List.length_map] at q2 q9
  have pm : (L.take p ++ (x, k) :: L.drop p).Perm ((x, k) :: L) := by
    have z : (L.take p ++ (x, k) :: L.drop p).Perm ((x, k) :: (L.take p ++ L.drop p)) := List.perm_middle
    rwa [List.take_append_drop] at z
  have hrow : (SetTable.insertAt es p (k.hash w, Value.ref x)).toList = (L.take p ++ (x, k) :: L.drop p).map (entN w) := by
    rw [SetTable.toList_insertAt, R.rows, List.map_append, List.map_cons, List.map_take, List.map_drop]
  have T1 : TabOk t1 ((L.take p ++ (x, k) :: L.drop p).map (hsN w)) := by
    (rw [List.map_append, List.map_cons, List.map_take, List.map_drop])
    exact q3
  generalize L.take p ++ (x, k) :: L.drop p = L1 at pm hrow T1
  have len1 : L1.length = L.length + 1 := pm.length_eq
  have nd1 : (L1.map (·.2)).Nodup := (pm.map (·.2)).nodup_iff.mpr (by rw [List.map_cons]; exact List.nodup_cons.mpr ⟨hm, R.nd⟩)
  have es1 := len_rows hrow
  generalize SetTable.insertAt es p (k.hash w, Value.ref x) = e1 at hrow es1 ⊢
  -- behind the question whether it hashes by value
  have rest : ∀ b : Bool, wpAny (model P w) A (do
      storeSet a e1 (if b = true then t1 else { t1 with plain := false })
      if !false && (if b = true then t1 else { t1 with plain := false }).tooFull then setRelay a (SetTable.grown (es.size + 1))
      return true) Q E s := by
    intro b
    have T2 := tab_plain T1 b
    have m2 : (if b = true then t1 else { t1 with plain := false }).mask = t.mask := by cases b <;> exact q4
    have l2 : w.params.followText "set-order" = true ∨ (if b = true then t1 else { t1 with plain := false }).led = true := by
      have : t1.led = t.led := q5
      cases b
      · show _ ∨ t1.led = true
        rw [this]; exact R.led
      · show _ ∨ t1.led = true
        rw [this]; exact R.led
    have f2 : (if b = true then t1 else { t1 with plain := false }).fill = L.length + 1 := by cases b <;> exact q9
    generalize (if b = true then t1 else { t1 with plain := false }) = t2 at T2 m2 l2 f2 ⊢
    refine wpAny_bind (wpAny_storeSet_of ho hd ?_ (by rw [es1, sizeLine_eq]; omega))
    have sb : Heap.SameBut a s.heap (s.heap.update a (Obj.putSet e1 t2)) := Heap.SameBut.update ..
    have ho1 := store_at (es' := e1) (t' := t2) ho hd
    generalize s.heap.update a (Obj.putSet e1 t2) = h1 at sb ho1 ⊢
    have key1 : ∀ p ∈ L1, IsN h1 p.2 p.1 := fun p hp => by
      (rcases List.mem_cons.mp (pm.mem_iff.mp hp) with e | hp)
      · rw [e]; exact keyN_same hx ho hd sb
      · exact keyN_same (R.key p hp) ho hd sb
    by_cases hf : t2.tooFull = true
    · have hb : (L.length + 1) * 5 ≥ t2.mask * 3 := by
        have z := hf
        unfold SetTable.tooFull at z
        rwa [decide_eq_true_eq, f2] at z
      have h45 : t.mask = 7 ∧ L.length = 4 := by
        rcases R.tab.mok with z | z | z
        · exact ⟨z, by omega⟩
        · omega
        · omega
      rw [hl, h45.2]
      have fin : wpAny (model P w) A (setRelay a (SetTable.grown (4 + 1))) (fun _ s1 => wpAny (model P w) A (pure true) Q E s1) E { s with heap := h1 } :=
        relay5 (s := { s with heap := h1 }) ho1 ⟨hex.1, hex.2.1, hex.2.2⟩ rfl hrow T2 nd1 key1 l2 (by omega) (by omega) fun h2 L2 es2 ep2 t3 sb2 R2 pm2 => wpAny_pure (hQ true h2 L2 es2 ep2 t3 (sb.trans sb2) R2 (fun z => absurd z hm) fun _ => pm2.trans pm)
      first
        | (refine wpAny_bind ?_; refine wp_if_pos (by simp [hf]) ?_; exact fin)
        | (refine wp_if_pos (by simp [hf]) ?_; exact wpAny_bind fin)
    · have hb : ¬ (L.length + 1) * 5 ≥ t2.mask * 3 := by
        have z := hf
        unfold SetTable.tooFull at z
        rwa [decide_eq_true_eq, f2] at z
      have fin : wpAny (model P w) A (pure true) Q E { s with heap := h1 } := wpAny_pure (hQ true h1 L1 e1 (ep + 1) t2 sb ⟨⟨_, ho1, ⟨hex.1, hex.2.1, hex.2.2⟩, rfl⟩, hrow, T2, nd1, key1, l2, by omega, by omega⟩ (fun z => absurd z hm) fun _ => pm)
      first
        | (refine wp_if_neg (by simp [hf]) ?_; exact fin)
        | (refine wpAny_bind ?_; refine wp_if_neg (by simp [hf]) ?_; exact wpAny_pure fin)
  by_cases hp : t1.plain = true
  · first
      | (refine wpAny_bind ?_; refine wp_if_pos hp ?_; exact (asks_key k _ 8 s hx.1 hx.2).2 _ _ _ fun b => rest b)
      | (refine wp_if_pos hp (wpAny_bind ?_); exact (asks_key k _ 8 s hx.1 hx.2).2 _ _ _ fun b => rest b)
  · first
      | (refine wpAny_bind ?_; refine wp_if_neg hp ?_; exact wpAny_pure (rest true))
      | (refine wp_if_neg hp (wpAny_bind ?_); exact wpAny_pure (rest true))
end
end
end Gd

/-! set(xs), xs a tuple of such tuples; sorted(set) -/
namespace Gd
open PySem PySem.Spec PyProof.Rows L2
/-- what is there of the first i -/
structure GotN (ks : List (Addr × NestedKey)) (i : Nat) (L : List (Addr × NestedKey)) : Prop where
  sub : ∀ p ∈ L, p ∈ ks.take i
  all : ∀ p ∈ ks.take i, p.2 ∈ L.map (·.2) -- -
  len : L.length ≤ i
theorem GotN.step {ks L L2 : List (Addr × NestedKey)} {i : Nat} {x : Addr × NestedKey} (g : GotN ks i L) (h : ks[i]? = some x) (c1 : x.2 ∈ L.map (·.2) → L2 = L) (c2 : x.2 ∉ L.map (·.2) → L2.Perm (x :: L)) : GotN ks (i + 1) L2 := by
  have e := take_succ h
  by_cases c : x.2 ∈ L.map (·.2)
  · rw [c1 c]
    refine ⟨fun p hp => by rw [e]; exact List.mem_append_left _ (g.sub p hp), fun p hp => ?_, Nat.le_succ_of_le g.len⟩
    rw [e] at hp
    (rcases List.mem_append.mp hp with z | z)
    · exact g.all p z
    · rw [List.mem_singleton.mp z]; exact c
  · have pm := c2 c
    refine ⟨fun p hp => ?_, fun p hp => ?_, by rw [pm.length_eq]; exact Nat.succ_le_succ g.len⟩
    · rw [e]
      rcases List.mem_cons.mp (pm.mem_iff.mp hp) with z | z
      · rw [z]; exact List.mem_append_right _ (List.mem_singleton.mpr rfl)
      · (exact List.mem_append_left _ (g.sub p z))
    · (rw [(pm.map (·.2)).mem_iff, List.map_cons])
      rw [e] at hp
      (rcases List.mem_append.mp hp with z | z)
      · (exact List.mem_cons_of_mem _ (g.all p z))
      · (rw [List.mem_singleton.mp z]; exact List.mem_cons_self)
section
variable {P : Program} {w : World} {A : Around} {E : Value → Shared → Prop} {s : Shared}
theorem isN_up {h h' : Heap} {k : NestedKey} {a : Addr} (x : IsN h k a) (hk : ∀ b o, h.get? b = some o → h'.get? b = some o) : IsN h' k a := isN_keep x fun b o _ _ e _ => hk b o e
theorem SetN.up {h h' : Heap} {a : Addr} {L : List (Addr × NestedKey)} {es : Array (Int × Value)} {ep : Nat} {t : SetTable} (R : SetN w h a L es ep t) (ha : ∀ o, h.get? a = some o → h'.get? a = some o) (hk : ∀ p ∈ L, IsN h' p.2 p.1) : SetN w h' a L es ep t := by
  obtain ⟨o, ho, r⟩ := R.ob
  exact ⟨⟨o, ha o ho, r⟩, R.rows, R.tab, R.nd, hk, R.led, R.room, R.few⟩
theorem setN0 {h : Heap} {a : Addr} (ho : h.get? a = some (fso w)) : SetN w h a [] #[] 0 (.fresh 0 0 (!w.params.followText "set-order")) where
  ob := ⟨_, ho, ⟨rfl, rfl, rfl⟩, rfl⟩ -- -
  rows := rfl
  tab := ⟨List.Pairwise.nil, rfl, rfl, .inl rfl, fun x hx => (nomatch hx), fun i h j hi => by simp at hi⟩
  nd := List.nodup_nil
  key p hp := nomatch hp
  led := by
    (show _ ∨ (!w.params.followText "set-order") = true)
    cases w.params.followText "set-order" -- -
    · exact .inr rfl
    · exact .inl rfl
  room := by
    show 0 * 5 < 7 * 3
    decide
  few := Nat.zero_le _
theorem set_updN {I : Addr} {fp wr : List Addr} {Gg : Array GenState → Array GenState → Prop} {n : Nat} {Pv : Nat → Value → Prop} {St : Nat → Shared → Prop} {R : Result → Shared → Prop} (W : WalksS P w A.in1 I fp wr Gg n Pv St) (S : Addr) (hSf : S ∉ fp) (ks : List (Addr × NestedKey)) (hn : n = ks.length) (hfew : ks.length ≤ 18)
    (hval : ∀ i v, Pv i v → ∃ p, ks[i]? = some p ∧ v = .ref p.1) (h0 : Heap) (hk : ∀ p ∈ ks, IsN h0 p.2 p.1) (hS0 : h0.get? S = none) (hw0 : ∀ b ∈ wr, h0.get? b = none) (hu : A.in1.units + 8 < cLine) :
    ∀ (k i : Nat) (s : Shared), n - i = k → i ≤ n → St i s → (∀ b o, h0.get? b = some o → s.heap.get? b = some o) → (∃ L es ep t, SetN w s.heap S L es ep t ∧ GotN ks i L) →
      (∀ s' L es ep t, Moved (S :: wr) Gg s s' → SetN w s'.heap S L es ep t → GotN ks n L → (∀ b o, h0.get? b = some o → s'.heap.get? b = some o) → R (.ok (.ret .none)) s') → codeAny (model P w) A (.builtin "set.update.loop" ⟨[.ref S, .ref I], []⟩) R s := by
  (have hSw : S ∉ wr := fun h => hSf (W.sub _ h))
  have sub1 : ∀ b ∈ wr, b ∈ S :: wr := fun b hb => List.mem_cons_of_mem _ hb
  have keepM : ∀ {a b : Shared}, Moved wr Gg a b → (∀ c o, h0.get? c = some o → a.heap.get? c = some o) → ∀ c o, h0.get? c = some o → b.heap.get? c = some o := fun hm hkp c o e => hm.heap c o (fun hb => by rw [hw0 c hb] at e; cases e) (hkp c o e)
  have ne0 : ∀ b o, h0.get? b = some o → b ≠ S := fun b o e z => by rw [z, hS0] at e; cases e
  intro k
  induction k with
  | zero =>
    rintro i s hk' hi hst hkp ⟨L, es, ep, t, hS, g⟩ hR
    obtain rfl : i = n := by omega
    (refine codeAny_builtin PyProof.Rows.F.entry_set_update_loop ?_)
    (rw [Around.under_plainId PyProof.Rows.F.plain_set_update_loop _])
    (show wpAny _ A.in1 (pyNext (.ref I) >>= _) _ _ s)
    refine wpAny_bind (W.done s _ _ hst fun s1 hm => ?_)
    show wpAny _ A.in1 (ret Value.none) _ _ s1
    have hkp1 := keepM hm hkp
    exact wpAny_pure (hR s1 L es ep t (hm.mono sub1) (hS.up (fun o e => hm.heap S o hSw e) fun p hp => isN_up (hk p (List.mem_of_mem_take (g.sub p hp))) hkp1) g hkp1)
  | succ k ih =>
    rintro i s hk' hi hst hkp ⟨L, es, ep, t, hS, g⟩ hR
    have hlt : i < n := by omega
    (refine codeAny_builtin PyProof.Rows.F.entry_set_update_loop ?_)
    (rw [Around.under_plainId PyProof.Rows.F.plain_set_update_loop _])
    (show wpAny _ A.in1 (pyNext (.ref I) >>= _) _ _ s)
    refine wpAny_bind (W.item i s _ _ hlt hst fun v s1 hP hst1 hm => ?_)
    (obtain ⟨p, hp, rfl⟩ := hval i v hP)
    have hkp1 := keepM hm hkp
    have hS1 := hS.up (fun o e => hm.heap S o hSw e) fun q hq => isN_up (hk q (List.mem_of_mem_take (g.sub q hq))) hkp1
    have hx : IsN s1.heap p.2 p.1 := isN_up (hk p (List.mem_of_getElem? hp)) hkp1
    show wpAny _ A.in1 (holding [Value.ref p.1] (setAdd S (.ref p.1)) >>= _) _ _ s1
    (refine wpAny_bind (wpAny_holding ?_))
    unfold setAdd
    refine wpAny_holding (wpAny_bind ((nestedKind P w).pyHash (show A.in1.units + 8 < cLine from hu) hx ?_))
    have few := g.len
    refine addN (s := { s1 with toks := s1.toks + p.2.draws }) hS1 hx hu (by omega) fun b h2 L2 es2 ep2 t2 hsb hS2 c1 c2 => ?_
    refine wpAny_pure ⟨plainId_quiet PyProof.Rows.F.plain_set_update_loop _, ih (i + 1) _ (by omega) hlt (W.frame _ s1 _ _ hst1 (Nat.le_add_right _ _) fun b hb o e => ?_) (fun b o e => (hsb.2 b (ne0 b o e)).trans (hkp1 b o e)) ⟨L2, es2, ep2, t2, hS2, g.step hp c1 c2⟩ fun s3 L3 es3 ep3 t3 m3 hS3 g3 k3 => ?_⟩
    · rw [hsb.2 b (fun h : b = S => hSf (by rw [← h]; exact hb))]
      exact e
    · refine hR s3 L3 es3 ep3 t3 (Moved.trans W.gtrans ((hm.mono sub1).then_heap (Nat.le_add_right _ _) fun b o hb e => ?_) m3) hS3 g3 k3
      rw [hsb.2 b (fun h : b = S => hb (by rw [h]; exact List.mem_cons_self))]
      exact e
set_option maxHeartbeats 8000000 in
/-- set(a tuple) -/
theorem call_set_tupN {l : Addr} {items : Array Value} (ks : List (Addr × NestedKey)) {Q : Value → Shared → Prop} (hh : A.handled = none) (hl : s.heap.IsTuple l items) (hit : items.toList = ks.map fun p => Value.ref p.1) (hk : ∀ p ∈ ks, IsN s.heap p.2 p.1) (hfew : ks.length ≤ 18) (hu : A.units + 12 < cLine)
    (h : ∀ (h' : Heap) (tk : Nat) L es ep t, SetN w h' s.heap.objs.size L es ep t → GotN ks ks.length L → (∀ b o, s.heap.get? b = some o → h'.get? b = some o) → Q (.ref s.heap.objs.size) { s with heap := h', toks := tk }) :
    wpAny (model P w) A (call (.type "set") [.ref l]) Q E s := by -- -
  have hisz : items.size = ks.length := by -- -
    (have q := congrArg List.length hit)
    rwa [Array.length_toList, List.length_map] at q
  (obtain ⟨c, tl, hmro⟩ := PySem.F.called_set.mro)
  (have hmade := PySem.F.called_set.made)
  (have hsub := PySem.F.called_set.sub)
  (refine wpAny_call (codeAny_of_tree ?_))
  (show wpAny _ _ (callAny (.type "set") _) _ _ _)
  (refine wpAny_pure ⟨Code.quiet_builtin _ (by decide +kernel), codeAny_builtin PySem.F.entry_type_call ?_⟩)
  (rw [Around.under_plain (weight_type_call_type "set" [.ref l] []) rfl])
  (have h1 := PySem.F.called_set.notType)
  (have h2 := PySem.F.called_set.canCreate)
  (have hct := PySem.F.typeCall_set_1 (.ref l))
  repeat (any_goals (first | assumption | wp_step)) -- -
  refine codeAny_mono (code_set_led1 (.ref l) (E := E) (Q₁ := fun obj s₁ => obj = .ref s.heap.objs.size ∧ s₁ = { s with heap := s.heap.push (fso w) }) ⟨rfl, rfl⟩) fun r s₁ hr => ?_
  cases r with
  | error e => exact hr
  | ok fl =>
    cases fl with
    | ret obj =>
      obtain ⟨rfl, rfl⟩ := hr
      have hS : (s.heap.push (fso w)).get? s.heap.objs.size = some (fso w) := Heap.get?_push_size _ rfl
      have hT : Shared.TypeIs { s with heap := s.heap.push (fso w) } (.ref s.heap.objs.size) "set" := ⟨_, hS, rfl⟩
      (have hli := PySem.F.called_set.init.lookup)
      (have hbi := PySem.F.called_set.init.bind (.ref s.heap.objs.size))
      repeat (any_goals (first | assumption | wp_step)) -- -
      refine codeAny_mono (codeAny_call_builtin (R := wants (fun r s₂ => r = .none ∧ ∃ h' tk L es ep t, s₂ = { s with heap := h', toks := tk } ∧ SetN w h' s.heap.objs.size L es ep t ∧ GotN ks ks.length L ∧ (∀ b o, s.heap.get? b = some o → h'.get? b = some o)) E) PySem.F.called_set.init.plain PySem.F.entry_set_init (check_set_init_1 hT ?_)) fun r₂ s₂ hr₂ => ?_
      · (obtain ⟨ol, hol, hcl, nl, hdl⟩ := hl)
        (obtain ⟨ocls, odict, odata, oslots⟩ := ol)
        simp only at hcl hdl
        subst hcl; subst hdl
        have hol' : (s.heap.push (fso w)).get? l = some { cls := .type "tuple", dict := odict, data := .seq items nl, slots := oslots } := Heap.get?_push_of_some _ hol
        (have hsls := PySem.F.sub_tuple_set)
        (have hslf := PySem.F.sub_tuple_frozenset)
        (have hne : (Value.type "tuple" == Value.type "dict") = false := by decide)
        have hl1 : (s.heap.push (fso w)).IsTuple l items := ⟨_, hol', rfl, nl, rfl⟩
        (unfold Builtin.«set.__init__» noKeywords Builtin.Frozenset.updateFrom)
        generalize hPI : pyIter = PI
        wp_walk
        subst hPI
        (refine wpAny_pyIter_tuple hl1 ?_)
        (refine wpAny_bind (wpAny_runValue ?_))
        (have hlS : l < s.heap.objs.size := Heap.lt_size hol)
        (have hh3 : A.in1.in1.in1.handled = none := by simp [hh])
        have hneI : l ≠ (s.heap.push (fso w)).objs.size := by
          (rw [Heap.size_push]; exact Nat.ne_of_lt (Nat.lt_succ_of_lt hlS))
        have hSf : s.heap.objs.size ∉ [(s.heap.push (fso w)).objs.size, l] := by
          (rw [Heap.size_push]; simp only [List.mem_cons, List.mem_singleton, List.not_mem_nil, or_false, not_or])
          (exact ⟨Nat.ne_of_lt (Nat.lt_succ_self _), Nat.ne_of_gt hlS⟩)
        have hval : ∀ (i : Nat) (v : Value), items[i]? = some v → ∃ p, ks[i]? = some p ∧ v = .ref p.1 := fun i v hv => by -- -
          (have q : items.toList[i]? = some v := by rw [Array.getElem?_toList]; exact hv)
          (rw [hit, List.getElem?_map] at q)
          cases hq : ks[i]? with
          | none => rw [hq] at q; cases q -- -
          | some p =>
            rw [hq] at q
            (exact ⟨p, rfl, (Option.some.inj q).symm⟩)
        have none_of : ∀ b, s.heap.objs.size ≤ b → s.heap.get? b = none := fun b hb => by -- -
          cases q : s.heap.get? b with
          | none => rfl
          | some o => exact absurd (Nat.lt_of_lt_of_le (Heap.lt_size q) hb) (Nat.lt_irrefl _) -- -
        refine set_updN ((Walks.tuple hh3 _ l hneI items).toS) s.heap.objs.size hSf ks hisz hfew hval s.heap hk (none_of _ (Nat.le_refl _)) (fun b hb => none_of b (by
            (rw [List.mem_singleton.mp hb, Heap.size_push])
            exact Nat.le_succ _)) (by have e : A.in1.in1.in1.in1.units = A.units + 4 := rfl; first | omega | (show A.units + 3 + 8 < cLine; omega) | (show A.units + 4 + 8 < cLine; omega)) (items.size - 0) 0 _ (by omega) (Nat.zero_le _) ⟨⟨_, Heap.get?_push_size _ rfl, rfl, rfl⟩, (hl1.push _)⟩ (fun b o e => Heap.get?_push_of_some _ (Heap.get?_push_of_some _ e)) ?hS0 ?hR
        case hS0 => exact ⟨[], #[], 0, _, setN0 (Heap.get?_push_of_some _ hS), ⟨fun p hp => (nomatch hp), fun p hp => by simp at hp, Nat.le_refl _⟩⟩
        case hR =>
          (intro s' L es ep t hm hS' g' hkp)
          (obtain ⟨h', g2, d', tk', os'⟩ := s')
          (have eg : g2 = s.gens := hm.gens)
          (have ed : d' = s.drawn := hm.drawn)
          have eo : os' = s.os := hm.os
          subst eg; subst ed; subst eo
          show wpAny _ _ _ _ _ _
          refine wpAny_pure ?_
          (show wpAny _ _ (ret Value.none) _ _ _)
          rw [hisz] at g'
          (exact wpAny_pure ⟨rfl, h', tk', L, es, ep, t, rfl, hS', g', hkp⟩)
      · cases r₂ with
        | error e => exact hr₂
        | ok fl₂ =>
          cases fl₂ with
          | ret r =>
            (obtain ⟨rfl, h', tk, L, es, ep, t, rfl, hS', g', hk'⟩ := hr₂)
            repeat (any_goals (first | assumption | wp_step)) -- -
            exact h _ _ _ _ _ _ hS' g' hk' -- -
          | _ => exact hr₂.elim
    | _ => exact hr.elim
end
end Gd

/-! sets of such tuples as slots; sorted(set) -/
namespace Gd
open PySem PySem.W PySem.Calls PySem.SeqAt PySem.Spec PyProof.Rows L2
/-- the set at a, whatever stands at its things -/
def SetN0 (w : World) (h : Heap) (a : Addr) (L : List (Addr × NestedKey)) : Prop := ∃ (es : Array (Int × Value)) (ep : Nat) (t : SetTable), (∃ o, h.get? a = some o ∧ o.ExactSet ∧ o.data = .set es ep t) ∧ es.toList = L.map (entN w) ∧ TabOk t (L.map (hsN w)) ∧ (w.params.followText "set-order" = true ∨ t.led = true) ∧ L.length * 5 < t.mask * 3 ∧ L.length ≤ 18
def SetNO (w : World) (a : Addr) (L : List (Addr × NestedKey)) : HO := .ext fun h => SetN0 w h a L
theorem SetN.n0 {w : World} {h : Heap} {a : Addr} {L : List (Addr × NestedKey)} {es : Array (Int × Value)} {ep : Nat} {t : SetTable} (R : SetN w h a L es ep t) : SetN0 w h a L := ⟨es, ep, t, R.ob, R.rows, R.tab, R.led, R.room, R.few⟩
theorem setNO_new {P : Program} {w : World} {H : Hp} {h : Heap} {a : Addr} {L : List (Addr × NestedKey)} (R : SetN0 w h a L) : ObjOk P w H h a (SetNO w a L) := by
  obtain ⟨_, _, _, ⟨o, ho, _⟩, _⟩ := id R
  refine ⟨R, ⟨o, ho⟩, ?_⟩
  rintro h1 h2 ⟨es, ep, t, ⟨o', ho', r⟩, q⟩ k
  exact ⟨es, ep, t, ⟨o', k o' ho', r⟩, q⟩
section
variable {α : Type}
/-- a frozen set; L the things at their addresses -/
def sSetN (w : World) (N : α → NestedKey) (R : α → Slot) (cs : List α) : Slot :=
  ⟨fun K G v => ∃ (p : Addr) (L : List (Addr × α)), v = .ref p ∧ G p = some (SetNO w p (L.map fun e => (e.1, N e.2))) ∧ (∀ e ∈ L, (R e.2).ok K G (.ref e.1)) ∧ (L.map fun e : Addr × α => e.2).Nodup ∧ ∀ c : α, c ∈ (L.map fun e : Addr × α => e.2) ↔ c ∈ cs, fun e ⟨p, L, h, q, r, m⟩ => ⟨p, L, h, e _ _ q, fun x hx => (R x.2).mono e (r x hx), m⟩⟩
variable {X : Cx} {N : α → NestedKey} {R : α → Slot} {cs : List α} {k : Nat}
def rSetN (X : Cx) : List V → Hp → VK → Prop := fun vs H Q => ∃ (l : Addr) (G : Hp) (es : List (Addr × NestedKey)), vs = [.ref l] ∧ SqT X.K H l (es.map fun p => V.ref p.1) ∧ Same G H ∧ (∀ p ∈ es, KeyAt X.K G p.2 p.1) ∧ es.length ≤ 18 ∧
  ∀ (a : Addr) (L : List (Addr × NestedKey)), H a = none → (∀ p ∈ L, p ∈ es) → (∀ p ∈ es, p.2 ∈ L.map (·.2)) → (L.map (·.2)).Nodup → Q (.ref a) (upd H a (SetNO X.w a L))
theorem refs_valsN : ∀ {ks : List (Addr × NestedKey)} {us : List Value}, Vals (ks.map fun p => V.ref p.1) us → us = ks.map fun p => Value.ref p.1
  | [], _, .nil => rfl
  | _ :: _, _, .cons r t => by
    cases r
    rw [refs_valsN t]
    rfl
theorem cr_setN (hr : Room k X.A) (hc : X.calm = true) : CallR X (.type "set") (rSetN X) := by
  (intro pins s σ H xs us Q I r h)
  obtain ⟨l, G, es, rfl, hl, sg, hk, hf, q⟩ := h
  rw [Vals.ref1 r]
  obtain ⟨its, rv, pl, hz⟩ := I.tuple hl
  (have hn : H s.heap.objs.size = none := I.hok.fresh (Nat.le_refl _))
  have hroom := hr.units
  refine call_set_tupN (P := X.prog) (w := X.w) es (I.ok.hd hc) pl (by simpa using refs_valsN rv) (fun p hp => hk p hp X pins σ H s rfl sg I) hf (by omega) fun h' tk L es2 ep t R g k => ?_
  exact ⟨.ref s.heap.objs.size, upd H s.heap.objs.size (SetNO X.w s.heap.objs.size L), I.laid (t' := tk) k (Nat.le_refl _) (setNO_new R.n0), rfl, q _ L hn (fun p hp => List.mem_of_mem_take (g.sub p hp)) (fun p hp => g.all p (by rw [List.take_length]; exact hp)) R.nd⟩
theorem set_pairs {K : Fg} {G : Hp} (hK : KeyS R N) : ∀ {vs : List V} {as : List α}, All2 K G R vs as → ∃ es : List (Addr × α), vs = es.map (fun p => V.ref p.1) ∧ es.map (·.2) = as ∧ ∀ p ∈ es, (R p.2).ok K G (.ref p.1) ∧ KeyAt K G (N p.2) p.1
  | _, _, .nil => ⟨[], rfl, rfl, fun p hp => nomatch hp⟩
  | _, _, .cons (a := a) h t => by
    obtain ⟨es, e1, e2, e3⟩ := set_pairs hK t
    obtain ⟨q, rfl, hk⟩ := hK _ K G _ h
    refine ⟨(q, _) :: es, by rw [e1]; rfl, by rw [← e2]; rfl, fun p hp => ?_⟩
    (rcases List.mem_cons.mp hp with rfl | hp)
    · exact ⟨h, hk⟩
    · exact e3 p hp
theorem sub_pairs {es : List (Addr × α)} : ∀ {L : List (Addr × NestedKey)}, (∀ p ∈ L, p ∈ es.map fun e => (e.1, N e.2)) → ∃ L2 : List (Addr × α), L = L2.map (fun e => (e.1, N e.2)) ∧ ∀ e ∈ L2, e ∈ es
  | [], _ => ⟨[], rfl, fun e he => nomatch he⟩
  | p :: L, h => by
    obtain ⟨e, he, rfl⟩ := List.mem_map.mp (h p List.mem_cons_self)
    obtain ⟨L2, e1, e2⟩ := sub_pairs fun q hq => h q (List.mem_cons_of_mem _ hq)
    refine ⟨e :: L2, by rw [e1]; rfl, fun q hq => ?_⟩
    (rcases List.mem_cons.mp hq with rfl | hq)
    · exact he
    · exact e2 q hq
theorem c_setN (hN : ∀ a b, N a = N b → a = b) (hK : KeyS R N) (hr : Room k X.A) (hf : cs.length ≤ 18) (hc : X.calm = true := by rfl) : CallE X (.type "set") [sTupl R cs] (sSetN X.w N R cs) :=
  ⟨_, cr_setN hr hc, fun B δ O σ G H Q xs st h kk => by
    obtain ⟨v, rfl, p, vs, rfl, hp, r⟩ := alls1 h
    obtain ⟨es, rfl, e2, e3⟩ := set_pairs hK r
    refine ⟨p, G, es.map fun e => (e.1, N e.2), rfl, ?_, st.stp.gh, fun q hq => ?_, by rw [List.length_map, ← List.length_map (f := (·.2)) (as := es), e2]; exact hf, fun a L ha h1 h2 nd => ?_⟩
    · rw [List.map_map]
      exact sqT_up st.stp.gh hp
    · obtain ⟨e, he, rfl⟩ := List.mem_map.mp hq
      exact (e3 e he).2
    obtain ⟨L2, rfl, hs⟩ := sub_pairs h1
    have sg : Same G (upd G a (SetNO X.w a (L2.map fun e => (e.1, N e.2)))) := same_new (gnone st.stp ha)
    refine kk _ _ _ sg (st.freshG ha) ⟨a, L2, rfl, upd_same, fun e he => (R e.2).mono sg (e3 e (hs e he)).1, ?_, fun c => ?_⟩
    · rw [List.map_map] at nd
      have nd2 : ((L2.map (·.2)).map N).Nodup := by rw [List.map_map]; exact nd
      exact List.Pairwise.of_map N (fun a b h e => h (congrArg N e)) nd2
    · rw [← e2]
      refine ⟨fun hc => ?_, fun hc => ?_⟩
      · obtain ⟨e, he, rfl⟩ := List.mem_map.mp hc
        exact List.mem_map.mpr ⟨e, hs e he, rfl⟩
      · obtain ⟨e, he, rfl⟩ := List.mem_map.mp hc
        have := h2 (e.1, N e.2) (List.mem_map.mpr ⟨e, he, rfl⟩)
        rw [List.map_map] at this
        obtain ⟨e', he', ee⟩ := List.mem_map.mp this
        exact List.mem_map.mpr ⟨e', he', hN _ _ ee⟩⟩
/-- a permutation of the addresses comes from one of the things -/
theorem perm_refs : ∀ {vs ws : List Value}, vs.Perm ws → ∀ L : List (Addr × α), ws = L.map (fun e => Value.ref e.1) → ∃ L1 : List (Addr × α), L1.Perm L ∧ vs = L1.map fun e => Value.ref e.1 := by
  intro vs ws pm
  induction pm with
  | nil =>
    intro L e
    cases L with
    | nil => exact ⟨[], .nil, rfl⟩
    | cons a L => cases e
  | cons x _ ih =>
    intro L e
    cases L with
    | nil => cases e
    | cons a L =>
      rw [List.map_cons] at e
      injection e with e1 e2
      obtain ⟨L1, p1, q1⟩ := ih L e2
      exact ⟨a :: L1, .cons a p1, by rw [e1, q1]; rfl⟩
  | swap x y l =>
    intro L e
    match L, e with
    | a :: b :: L, e =>
      (rw [List.map_cons, List.map_cons] at e)
      injection e with e1 e2
      injection e2 with e2 e3
      exact ⟨b :: a :: L, .swap a b L, by rw [e1, e2, e3]; rfl⟩
  | trans _ _ ih1 ih2 =>
    intro L e
    obtain ⟨L2, p2, e2⟩ := ih2 L e
    obtain ⟨L1, p1, e1⟩ := ih1 L2 e2
    exact ⟨L1, p1.trans p2, e1⟩
def rSrtN (X : Cx) (enc : α → PyData) (Pp : V → α → Prop) : List V → Hp → VK → Prop := fun vs H Q => ∃ (a : Addr) (L : List (Addr × α)), vs = [.ref a] ∧ H a = some (SetNO X.w a (L.map fun e => (e.1, N e.2))) ∧ (∀ e ∈ L, Pp (.ref e.1) e.2 ∧ Dp X.K H (.ref e.1) (enc e.2)) ∧ (∀ L1 : List α, AllAlike (L1.map enc)) ∧ (∀ b, ∃ ys, enc b = .tuple ys) ∧ (∀ b, (enc b).depth ≤ 8) ∧
  ∀ (p : Addr) (zs : List V) (L1 : List α), H p = none → L1.Perm (L.map fun e : Addr × α => e.2) → EachIs Pp zs (L1.mergeSort (dataLe false enc)) → Q (.ref p) (upd H p (.lst zs))
theorem each_pairs {β γ : Type} {T : β → γ → Prop} {f : Addr × α → β} {g : Addr × α → γ} : ∀ {L : List (Addr × α)}, (∀ e ∈ L, T (f e) (g e)) → EachIs T (L.map f) (L.map g)
  | [], _ => .nil
  | e :: L, h => .cons (h e List.mem_cons_self) (each_pairs fun x hx => h x (List.mem_cons_of_mem _ hx))
theorem dp_pairs {K : Fg} {H : Hp} {enc : α → PyData} : ∀ {L : List (Addr × α)}, (∀ e ∈ L, Dp K H (.ref e.1) (enc e.2)) → DpAll K H (L.map fun e => V.ref e.1) ((L.map (·.2)).map enc)
  | [], _ => .nil
  | e :: L, h => .cons (h e List.mem_cons_self) (dp_pairs fun x hx => h x (List.mem_cons_of_mem _ hx))
theorem vals_pairs : ∀ L : List (Addr × α), Vals (L.map fun e => V.ref e.1) (L.map fun e => Value.ref e.1)
  | [] => .nil
  | _ :: L => .cons rfl (vals_pairs L)
theorem cr_srtN (hr : Room k X.A) (hc : X.calm = true) {enc : α → PyData} {Pp : V → α → Prop} : CallR X (.builtin "sorted") (rSrtN (N := N) X enc Pp) := by
  (intro pins s σ H vs us Q I r h)
  obtain ⟨a, L, rfl, ha, hL, hal, hso, hdep, q⟩ := h
  rw [Vals.ref1 r]
  obtain ⟨⟨es, ep, t, ⟨o, ho, hex, hd⟩, rows, T, led, room, few⟩, _⟩ := I.hok a _ ha
  have hsz := len_rows rows
  rw [List.length_map] at few room hsz
  have hroom := hr.units
  have hf := tab_fits T (len_rows rows) (by omega)
  (refine Calls.call_function_entry kind_sorted plain_sorted entry_sorted (args_sorted1 _) ?_)
  unfold Builtin.«sorted»
  (refine wpAny_bind (m := checkCount "sorted" 1 1 _) (wpAny_pure ?_))
  refine wpAny_bind (collect_set (A := X.A.in1) (I.ok.hd hc) ⟨o, ho, hex.1, hd⟩ hf (by unfold scanBound; omega) T.ris led fun s1 vs k1 hz g1 o1 pm => ?_)
  rw [show es.toList.map (·.2) = L.map (fun e => Value.ref e.1) by rw [rows, List.map_map, List.map_map]; rfl] at pm
  obtain ⟨L1, pL, rfl⟩ := perm_refs pm L rfl
  have hlen : (L1.map fun e => Value.ref e.1).length ≤ sizeLine := by
    rw [List.length_map, pL.length_eq, sizeLine_eq]
    omega
  have hL1 : ∀ e ∈ L1, Pp (.ref e.1) e.2 ∧ Dp X.K H (.ref e.1) (enc e.2) := fun e he => hL e (pL.mem_iff.mp he)
  refine wpAny_bind (wpAny_newList ?_ hlen)
  have hoL : (s1.heap.push (seqObj "list" (L1.map fun e => Value.ref e.1).toArray 0)).get? s1.heap.objs.size = some (seqObj "list" (L1.map fun e => Value.ref e.1).toArray 0) := Heap.get?_push_size _ rfl
  have old : ∀ out b u, s.heap.get? b = some u → (sortedHeap (s1.heap.push (seqObj "list" (L1.map fun e => Value.ref e.1).toArray 0)) s1.heap.objs.size (L1.map fun e => Value.ref e.1) out).get? b = some u := fun out b u e => by
    have q := k1 b u e
    have hlt := Heap.lt_size q
    (rw [sortedHeap_old (Nat.ne_of_lt hlt) (by rw [size_push']; exact Nat.lt_succ_of_lt hlt)])
    (exact Heap.get?_push_of_some _ q)
  have oldS : ∀ b u, s.heap.get? b = some u → (sortingHeap (s1.heap.push (seqObj "list" (L1.map fun e => Value.ref e.1).toArray 0)) s1.heap.objs.size (L1.map fun e => Value.ref e.1)).get? b = some u := fun b u e => by
    have q := k1 b u e
    exact sortingHeap_old (Nat.ne_of_lt (Heap.lt_size q)) (Heap.get?_push_of_some _ q)
  obtain ⟨as, hra⟩ := Dp.readsAll I _ _ _ (dp_pairs fun e he => (hL1 e he).2) (vals_pairs L1)
  have er := readsAll_each enc hra
  have ep2 : EachIs (fun u b => ∃ v, RelV v u ∧ Pp v b) (L1.map fun e => Value.ref e.1) (L1.map (·.2)) := each_pairs fun e he => ⟨.ref e.1, rfl, (hL1 e he).1⟩
  have er' : EachIs (fun v b => ∃ as, Reads (sortingHeap (s1.heap.push (seqObj "list" (L1.map fun e => Value.ref e.1).toArray 0)) s1.heap.objs.size (L1.map fun e => Value.ref e.1)) v (enc b) as) (L1.map fun e => Value.ref e.1) (L1.map (·.2)) := er.mono fun _ _ ⟨as, r⟩ => ⟨as, PyProof.Rows.Reads.keeps oldS r⟩
  have em := each_map (R := fun v d => ∃ as, Reads (sortingHeap (s1.heap.push (seqObj "list" (L1.map fun e => Value.ref e.1).toArray 0)) s1.heap.objs.size (L1.map fun e => Value.ref e.1)) v d as) enc er'
  have S : SortsAt X.prog X.w X.A.in1.in1 { s1 with heap := sortingHeap (s1.heap.push (seqObj "list" (L1.map fun e => Value.ref e.1).toArray 0)) s1.heap.objs.size (L1.map fun e => Value.ref e.1) } (dataKind (sortingHeap (s1.heap.push (seqObj "list" (L1.map fun e => Value.ref e.1).toArray 0)) s1.heap.objs.size (L1.map fun e => Value.ref e.1)) ((L1.map (·.2)).map enc)) (L1.map fun e => Value.ref e.1) := by
    refine sortsAtT (s := { s1 with heap := sortingHeap (s1.heap.push (seqObj "list" (L1.map fun e => Value.ref e.1).toArray 0)) s1.heap.objs.size (L1.map fun e => Value.ref e.1) }) em (hal _) (fun d hd => ?_) (fun d hd => ?_)
    · obtain ⟨b, _, rfl⟩ := List.mem_map.mp hd
      exact hso b
    · obtain ⟨b, _, rfl⟩ := List.mem_map.mp hd
      have := hdep b
      have e : X.A.in1.in1.units = X.A.units + 2 := rfl
      omega
  have out := sortVals_data false ep2 er' (hal _)
  refine wpAny_bind (wpAny_holding (wpAny_call_entry slot_list_sort ⟨_, hoL, rfl⟩ entry_list_sort (list_sort_vals (κ := dataKind (sortingHeap (s1.heap.push (seqObj "list" (L1.map fun e => Value.ref e.1).toArray 0)) s1.heap.objs.size (L1.map fun e => Value.ref e.1)) ((L1.map (·.2)).map enc)) (s := { s1 with heap := s1.heap.push (seqObj "list" (L1.map fun e => Value.ref e.1).toArray 0) }) hoL S hlen ⟨_, rfl, ?_⟩) (args_list_sort _)))
  generalize sortVals (dataKind (sortingHeap (s1.heap.push (seqObj "list" (L1.map fun e => Value.ref e.1).toArray 0)) s1.heap.objs.size (L1.map fun e => Value.ref e.1)) ((L1.map (·.2)).map enc)) false (L1.map fun e => Value.ref e.1) (L1.map fun e => Value.ref e.1) = ws at out
  obtain ⟨zs, z1, z2⟩ := vals_each out
  obtain ⟨c, hc'⟩ := sortedHeap_at (vs := L1.map fun e => Value.ref e.1) (out := ws.toArray) hoL
  have hz2 : zs.length ≤ sizeLine := by
    rw [z2.length, List.length_mergeSort, List.length_map, pL.length_eq, sizeLine_eq]
    omega
  have hn : H s1.heap.objs.size = none := I.hok.fresh hz
  have J : Inv X pins σ (upd H s1.heap.objs.size (.lst zs)) { s with heap := sortedHeap (s1.heap.push (seqObj "list" (L1.map fun e => Value.ref e.1).toArray 0)) s1.heap.objs.size (L1.map fun e => Value.ref e.1) ws.toArray, gens := s1.gens, drawn := s1.drawn, toks := s1.toks } :=
    I.call (ch := []) (Un.laid (old _) hz hn) (I.hok.laid (old _) hz ⟨hz2, ws, c, z1, hc'⟩) (by rw [g1]; exact I.bare) (fun _ z => nomatch z)
  (refine wpAny_pure ⟨_, rfl, ?_⟩)
  have e : ({ s1 with heap := sortedHeap (s1.heap.push (seqObj "list" (L1.map fun e => Value.ref e.1).toArray 0)) s1.heap.objs.size (L1.map fun e => Value.ref e.1) ws.toArray } : Shared) = { s with heap := sortedHeap (s1.heap.push (seqObj "list" (L1.map fun e => Value.ref e.1).toArray 0)) s1.heap.objs.size (L1.map fun e => Value.ref e.1) ws.toArray, gens := s1.gens, drawn := s1.drawn, toks := s1.toks } := by
    cases s1
    cases s
    cases o1
    rfl
  rw [e]
  exact ⟨.ref s1.heap.objs.size, _, J, rfl, q _ zs (L1.map (·.2)) hn (pL.map _) z2⟩
/-- sorted(a set), of things whose order is one -/
theorem c_sortN (hr : Room k X.A) {enc : α → PyData} {Z : List α} (hR : ∀ a, IsD (R a) (enc a)) (hal : ∀ L : List α, AllAlike (L.map enc)) (hso : ∀ a, ∃ ys, enc a = .tuple ys) (hdp : ∀ a, (enc a).depth ≤ 8) (hZ : ∀ L : List α, L.Nodup → (∀ c, c ∈ L ↔ c ∈ cs) → sortB enc L = Z) (hc : X.calm = true := by rfl) :
    CallW X (.builtin "sorted") [sSetN X.w N R cs] (fun p => oLst p R Z) := by
  refine ⟨fun vs H Q => ∃ Pp, rSrtN (N := N) X enc Pp vs H Q, fun pins s σ H vs us Q I r ⟨P, h⟩ => cr_srtN hr hc pins s σ H vs us Q I r h, fun B δ O σ G H Q xs st h kk => ?_⟩
  obtain ⟨v, rfl, a, L, rfl, ha, r, nd, mem⟩ := alls1 h
  refine ⟨fun v b => (R b).ok X.K G v, a, L, rfl, st.stp.gh _ _ ha, fun e he => ⟨r e he, dp_up st.stp.gh _ _ (hR e.2 _ _ _ (r e he))⟩, hal, hso, hdp, fun l zs L1 hl pm hzs => ?_⟩
  have hz := hZ L1 (pm.nodup_iff.mpr nd) fun c => pm.mem_iff.trans (mem c)
  have hzs : EachIs (fun v b => (R b).ok X.K G v) zs (sortB enc L1) := hzs
  rw [hz] at hzs
  exact kk l G _ (none_of st hl) (Same.refl _) (st.freshO (w := oLst l R Z) hl rfl ⟨zs, rfl, all2_of_each hzs⟩)
end
end Gd

namespace Gd
open PySem L2
section
variable {X : Cx} {δ : List (Option Slot)} {O O1 O2 : List Own} {a b : Expr} {es : List Expr} {pos : Pos} {v : Bool}
theorem tw_orN (ha : T X δ O a false O1) (hb : TW X δ O1 (.BoolOp .Or (b :: es) pos) v O2) : TW X δ O (.BoolOp .Or (a :: b :: es) pos) v O2 := by
  obtain ⟨t, h1, h2⟩ := hb
  exact ⟨_, pw_or pt_w h1, fun B σ G H Q st k => ha B σ G H _ st fun G1 H1 m1 st1 => iteF (h2 B σ G1 H1 Q st1 fun G2 H2 m2 st2 => k G2 H2 (m1.trans m2) st2)⟩
theorem tw_andN (ha : T X δ O a true O1) (hb : TW X δ O1 (.BoolOp .And (b :: es) pos) v O2) : TW X δ O (.BoolOp .And (a :: b :: es) pos) v O2 := by
  obtain ⟨t, h1, h2⟩ := hb
  exact ⟨_, pw_and pt_w h1, fun B σ G H Q st k => ha B σ G H _ st fun G1 H1 m1 st1 => iteT (h2 B σ G1 H1 Q st1 fun G2 H2 m2 st2 => k G2 H2 (m1.trans m2) st2)⟩
end
end Gd
namespace K51
open PySem L2 Gd
abbrev lawN : List Str := ["_law_script", "_law_draw_here", "_law_many", "_law_one", "_law_other", "_law_change", "_law_first", "_law_second", "_law_told", "_law_bad", "_law_at", "_law_number_here", "_law_late", "_law_three", "_law_pairs", "_law_pair", "_law_whole", "_law_words_here", "_law_letter", "_law_due", "_law_again", "_law_edit", "_law_moved"]
theorem scLaw : FnScope lawN ["_law_script"] (defScope sLaw) := ⟨rfl, rfl, rfl, by decide +kernel, rfl, by decide +kernel, by decide +kernel⟩
abbrev sIJ (e : Int × Int) : Slot := sTup [sInt e.1, sInt e.2]
def dIJ (e : Int × Int) : PyData := .tuple [.int e.1, .int e.2]
theorem isD_ij (e : Int × Int) : IsD (sIJ e) (dIJ e) := isD_tup2'
theorem shaped_ijs (es : List (Int × Int)) : SeqAt.shaped (.list (es.map dIJ)) = true := by
  refine shaped_lst ?_ ?_
  · induction es with
    | nil => rfl
    | cons e r ih =>
      show (PyData.canLay0 (dIJ e) && PyData.canLayAll0 (r.map dIJ)) = true
      rw [ih]
      simp [dIJ, PyData.canLay0, PyData.canLayAll0]
  · have : PyData.depthAll (es.map dIJ) ≤ 1 := by
      induction es with
      | nil => simp [PyData.depthAll]
      | cons e r ih =>
        show max (PyData.depth (dIJ e)) (PyData.depthAll (r.map dIJ)) ≤ 1
        have : PyData.depth (dIJ e) = 1 := by simp [dIJ, PyData.depth, PyData.depthAll]
        omega
    omega
theorem eqv_ij (a b : Int × Int) : PyData.eqv (dIJ a) (dIJ b) = true ↔ a = b := by
  obtain ⟨a1, a2⟩ := a
  obtain ⟨b1, b2⟩ := b
  simp [dIJ, PyData.eqv, PyData.eqvAll]
theorem o_eqIJ {X : Cx} {k : Nat} (hr : Room k X.A) {as bs : List (Int × Int)} : OpE X (compareOp .Eq) (sLst sIJ as) (sLst sIJ bs) (sBl (decide (as = bs))) := o_eqD hr (isD_lst isD_ij) (isD_lst isD_ij) (shaped_ijs as) (shaped_ijs bs) (eqv_lst eqv_ij)
theorem o_neIJ {X : Cx} {k : Nat} (hr : Room k X.A) {as bs : List (Int × Int)} : OpE X (compareOp .NotEq) (sLst sIJ as) (sLst sIJ bs) (sBl (!decide (as = bs))) := o_neD hr (isD_lst isD_ij) (isD_lst isD_ij) (shaped_ijs as) (shaped_ijs bs) (eqv_lst eqv_ij)
theorem c_max22 {X : Cx} {a b : Int} (hc : X.calm = true := by rfl) : CallE X (.builtin "max") [sInt a, sInt b] (sInt (max a b)) :=
  ⟨_, call_max2 hc, fun B δ O σ G H Q xs st h k => by
    obtain ⟨v, u, rfl, hv, hu⟩ := alls2 h
    have hv : v = V.int a := hv
    have hu : u = V.int b := hu
    subst hv hu
    refine ⟨a, b, rfl, k _ G H (Same.refl _) st ?_⟩
    show V.int (if b > a then b else a) = V.int (max a b)
    congr 1
    split <;> omega⟩
/-- all that the law's body rests on -/
structure LawC (P : Program) (w : World) (K : Fg) (mg : Str → Option Value) (base : Heap) (C CP CT CC : Addr) where
  T : Bt mg
  Cc : Cs K mg
  EC : EdC K mg C
  PC : PaC K mg CP
  TC : ToC K mg CT
  LC : ClC K mg CC
  ze : mg "enumerate" = none
  zm : mg "max" = none
  zt : mg "set" = none
  zs : mg "sorted" = none
  fN : Addr
  gN : mg "_law_next" = some (.ref fN)
  FN : DefOk P w K mg base 3 fN [] fsNext
  fK : Addr
  gK : mg "_law_pick" = some (.ref fK)
  FK : DefOk P w K mg base 4 fK [] (fsPick sStr)
  fH : Addr
  gH : mg "_law_changes" = some (.ref fH)
  FH : DefOk P w K mg base 6 fH [] fsChangesD
  fF : Addr
  gF : mg "_law_fit" = some (.ref fF)
  FF : DefOk P w K mg base 1 fF [] fsFitD
  fV : Addr
  gV : mg "_law_weave" = some (.ref fV)
  FV : DefOk P w K mg base 4 fV [] fsWeaveD
  fT : Addr
  gT : mg "together" = some (.ref fT)
  FT : DefOk P w K mg base 6 fT [] (fsTog CP CT CC)
  fA : Addr
  gA : mg "all_together" = some (.ref fA)
  FA : DefOk P w K mg base 7 fA [] (fsAllT CP)
  fB : Addr
  gB : mg "behind" = some (.ref fB)
  FB : DefOk P w K mg base 7 fB [] (fsBehind CP)
  fR : Addr
  gR : mg "carried" = some (.ref fR)
  FR : DefOk P w K mg base 6 fR [] (fsCarried C)
  fI : Addr
  M : Mk K C fI
  FI : DefOk P w K mg base 3 fI [] (fsInit C)
  fP : Addr
  MP : Mk K CP fP
  FP : DefOk P w K mg base 4 fP [] (fsPInit CP)
  fTI : Addr
  MT : Mk K CT fTI
  FTI : DefOk P w K mg base 1 fTI [] (fsTInit CP CT)
  fCI : Addr
  MC : Mk K CC fCI
  FCI : DefOk P w K mg base 1 fCI [] (fsCInit CC)
  fC : Addr
  mC : StX.CallO K CP fC
  FC : DefOk P w K mg base 4 fC [] (fsPCall CP)
  fG : Addr
  mG : Meth K CP "growth" fG
  FG : DefOk P w K mg base 2 fG [] (fsPGrowth CP)
  fQ : Addr
  sQ : PySem.W.findIn K (.ref CP) "__eq__" = some (some (.ref fQ))
  nQ : PySem.W.isFn K (.ref fQ) = true
  FQ : DefOk P w K mg base 1 fQ [] (fsPEq CP)
  hO : ClsO K CP
  hne : PySem.W.findIn K (.ref CP) "__ne__" = some (some (.builtin "object.__ne__"))
  fTQ : Addr
  sTQ : PySem.W.findIn K (.ref CT) "__eq__" = some (some (.ref fTQ))
  nTQ : PySem.W.isFn K (.ref fTQ) = true
  FTQ : DefOk P w K mg base 3 fTQ [] (fsTEq CP CT)
  hOT : ClsO K CT
  hneT : PySem.W.findIn K (.ref CT) "__ne__" = some (some (.builtin "object.__ne__"))
  fCQ : Addr
  sCQ : PySem.W.findIn K (.ref CC) "__eq__" = some (some (.ref fCQ))
  nCQ : PySem.W.isFn K (.ref fCQ) = true
  FCQ : DefOk P w K mg base 1 fCQ [] (fsCEq CC)
  hOC : ClsO K CC
  hneC : PySem.W.findIn K (.ref CC) "__ne__" = some (some (.builtin "object.__ne__"))
  fTB : Addr
  sTB : PySem.W.findIn K (.ref CT) "__bool__" = some (some (.ref fTB))
  nTB : PySem.W.isFn K (.ref fTB) = true
  FTB : DefOk P w K mg base 1 fTB [] (fsTBool CP CT)
  fCB : Addr
  sCB : PySem.W.findIn K (.ref CC) "__bool__" = some (some (.ref fCB))
  nCB : PySem.W.isFn K (.ref fCB) = true
  FCB : DefOk P w K mg base 1 fCB [] (fsCBool CC)
  tC : ClsI K CC
  kTC : PySem.W.kitOne K (.ref CC) (.ref CT) = some false
def fsLaw : FS (List Int) := { args := fun i => [sLstK sInt i], pre := fun _ => True, res := fun _ => sBl true }
def lawNs (xs : List Int) : List Int := cutA xs none (some 63)
/-! ### the words -/
def alpha : Str := "defghijklmnop"
def wordL (n : Nat) : Str := (⟨#[n]⟩ : Str) ++ ("w" : Str)
def wsL : List Str := alpha.cps.toList.map wordL
theorem wsL_len : wsL.length = 13 := by decide +kernel
theorem wsL_ok : okWords wsL := by
  have h : (wsL.all fun t => isToken t && decide (t.length ≤ 100000)) = true := by decide +kernel
  intro t ht
  have := List.all_eq_true.mp h t ht
  simpa using this
theorem cutA_mem {α : Type} {xs : List α} {a b : Option Int} {x : α} (h : x ∈ cutA xs a b) : x ∈ xs := by
  unfold cutA at h
  exact List.mem_of_mem_drop (List.mem_of_mem_take h)
theorem run_str {p : Pa} (hp : p.ok) {ws : List Str} (h : okStrs ws) : okStrs (p.run ws) := by
  have key : ∀ (cs : List Ch) (acc : List Str × Int), (∀ c ∈ cs, okStrs c.words) → okStrs acc.1 → okStrs (cs.foldl (runStep ws) acc).1 := by
    intro cs
    induction cs with
    | nil => intro acc _ h; exact h
    | cons c r ih =>
      intro acc hc ha
      refine ih _ (fun d hd => hc d (List.mem_cons_of_mem _ hd)) fun t ht => ?_
      have ht : t ∈ acc.1 ++ (cutA ws (some acc.2) (some c.first) ++ c.words) := ht
      rcases List.mem_append.mp ht with z | z
      · exact ha t z
      · rcases List.mem_append.mp z with z | z
        · exact h t (cutA_mem z)
        · exact hc c List.mem_cons_self t z
  intro t ht
  unfold Pa.run at ht
  rcases List.mem_append.mp ht with z | z
  · refine key _ ([], 0) (fun c hc => hp.str c (List.mem_of_mem_take hc)) (fun t ht => nomatch ht) t z
  · exact h t (cutA_mem z)
section
variable {P : Program} {w : World} {K : Fg} {mg : Str → Option Value} {base : Heap} {C CP CT CC : Addr}
theorem law_c (L : LawC P w K mg base C CP CT CC) {f : Addr} {cdv : Value} {A : Around} {outer : List Env} {s : Shared} {H : Hp} {EE : XK} {B : Bs} {D : Ends} {xs ns : List Int} {dr : Addr} {c many : Int} {p q r : Pa} (hr : Room 7 (cxD P w K mg base lawN "law" sLaw f cdv A outer s H EE).A) (hf : Gd.Fin K B fsLaw xs D)
    (hp : PH p) (hq : PH q) (hh : Hands [p, q, r]) (hfit : Fit p.changes q.changes) (hc : 0 ≤ c) :
    J (cxD P w K mg base lawN "law" sLaw f cdv A outer s H EE) B [some (sLstK sInt xs), some (sRef dr), some (sInt many), some (sTupl sCh p.changes), some (sTupl sCh q.changes), none, some (sPa CP p), some (sPa CP q), some (sTo CP CT (toV p q)), some (sLst sIJ []), none, none, none, some (sLst (sPa CP) [p, q, r]), some (sLst sIJ (pr3 p q r)), none, some (sAll CP (allV [p, q, r])), none, none, none, none, none, none]
      [dO dr ns c] ((defBody sLaw).drop 16) D := by
  have hr6 : Room 6 _ := hr.mono (by decide)
  have hr5 : Room 5 _ := hr.mono (by decide)
  have hr4 : Room 4 _ := hr.mono (by decide)
  have hr3 : Room 3 _ := hr.mono (by decide)
  (have hr2 : Room 2 _ := hr.mono (by decide))
  (have hr1 : Room 1 _ := hr.mono (by decide))
  obtain ⟨U, w1, w2, w3, b1, b2⟩ := pair_facts hp hq hfit
  have hpq := tog_ok hp hq
  have hqp := tog_ok hq hp
  have swap := tog_swap hp hq hfit
  have hL : (LL p q : Int) ≤ wsL.length := by
    have := hp.l10
    have := hq.l10
    rw [wsL_len]
    show max p.least q.least ≤ _
    omega
  have hL0 : 0 ≤ LL p q := by have := hp.l0; show 0 ≤ max _ _; omega
  refine j_setComp (S := sStr) (R := fun n : Nat => sStr ⟨#[n]⟩) (as := alpha.cps.toList) 17 18 (fun _ => [dO dr ns c]) (fun _ => [dO dr ns c]) (fun _ => true) (fun n => (alpha.cps.toList.take n).map wordL) scLaw.nd (it_str (t := alpha) e_str) (blkOk_by (own := [("_law_letter", 18)]) (N := lawN) (sc := defScope sLaw) (by decide +kernel)) (fun k y hy s H _ cl fp => ts_nil)
    (fun k y hy _ => ⟨wordL y, by rw [take_succ hy, List.map_append]; rfl, fun s H _ cl fp => e_bin (o_addS (t := ⟨#[y]⟩) (v := "w") (by show 1 + 1 ≤ sizeLine; decide)) (e_name 18) e_str⟩) (fun k _ h => by cases h) rfl (szl (by decide +kernel)) (fun lr hlr => ?_)
  rw [List.take_length]
  refine j_freeze 17 (s := sLst sStr wsL) rfl hlr (fun K G o => frz_lst K G lr o) ?_
  obtain ⟨ws, hws⟩ : ∃ ws, ws = wsL := ⟨_, rfl⟩
  have wl := wsL_len
  have wo := wsL_ok
  rw [← hws] at wl wo hL ⊢
  have hfits : (toV p q).whole.fits ws := ⟨w1, wo, by omega, hL⟩
  obtain ⟨due, hdue⟩ : ∃ due, due = (toV p q).whole.run ws := ⟨_, rfl⟩
  have dstr : okStrs due := by
    rw [hdue]
    exact run_str w1 wo.str
  refine j_set 19 (O1 := [dO dr ns c]) (s := sLst sStr due) (e_eqS (e_callFO (S := fsPCall CP) (tab := toTab CP (toV p q)) (tab2 := paTab (toV p q).whole) 0 ((toV p q).whole, false, ws) L.TC.cl L.TC.nW L.mC L.FC hr4 (e_name 8) (ea_cons (s := sLst sStr ws) (e_name 17) ea_nil) hfits) (by rw [hdue]; rfl)) ?_ scLaw.nd
  have e1 : behindV p (toV p q).other = (toV p q).whole := b1.eq
  have e2 : behindV q (toV p q).one = (toV p q).whole := b2.eq
  have k1 := beh_ok b1 hp.ok w3 w1
  have k2 := beh_ok b2 hq.ok w2 w1
  have cs1 : SmallC p.changes := hp.small.1
  have cs2 : SmallC q.changes := hq.small.1
  -- behind, told on the words
  refine j_if (O1 := [dO dr ns c]) (u := false) (t_eq (t_w (tw_or2 (t_cmp (o_neL (ts := due) (us := due) hr dstr dstr) (e_eqS (e_callO (S := fsPCall CP) (tab := paTab (toV p q).whole) ((toV p q).whole, false, ws) L.mC L.FC hr4 (e_callR (S := fsBehind CP) (s := sPa CP (toV p q).whole) (O2 := [dO dr ns c]) (p, (toV p q).other) L.FB hr L.gB (ea_cons (e_name 6) (ea_cons (e_fld 2 L.TC.cl L.TC.n2 (e_name 8)) ea_nil)) k1 (congrArg (sPa CP) e1)) (ea_cons (s := sLst sStr ws) (e_name 17) ea_nil) hfits) (by rw [hdue]; rfl)) (e_name 19))
    (tw_or2 (t_cmp (o_neL (ts := due) (us := due) hr dstr dstr) (e_eqS (e_callO (S := fsPCall CP) (tab := paTab (toV p q).whole) ((toV p q).whole, false, ws) L.mC L.FC hr4 (e_callR (S := fsBehind CP) (s := sPa CP (toV p q).whole) (O2 := [dO dr ns c]) (q, (toV p q).one) L.FB hr L.gB (ea_cons (e_name 7) (ea_cons (e_fld 1 L.TC.cl L.TC.n1 (e_name 8)) ea_nil)) k2 (congrArg (sPa CP) e2)) (ea_cons (s := sLst sStr ws) (e_name 17) ea_nil) hfits) (by rw [hdue]; rfl)) (e_name 19))
    (tw_or1 (t_cmp (s1 := sInt (LL p q)) (s2 := sInt (max p.least q.least)) o_ne (e_fld 1 L.PC.cl L.PC.nL (e_fld (s := sPa CP (toV p q).whole) 0 L.TC.cl L.TC.nW (e_name 8))) (e_callB c_max22 L.zm (by decide +kernel) (ea_cons (e_fld 1 L.PC.cl L.PC.nL (e_name 6)) (ea_cons (e_fld 1 L.PC.cl L.PC.nL (e_name 7)) ea_nil)))))))) (by simp)) (fun h => nomatch h) (fun _ => j_on ?_)
  -- the patches, and the weave
  have pool_nd : (p.changes ++ q.changes.filter fun c => !decide (c ∈ p.changes)).Nodup := by
    have nd : ∀ {A : List Ch}, A.Pairwise lt2 → A.Nodup := fun h => h.imp fun {a b} hab e => by
      subst e
      exact hab.2 ⟨rfl, rfl⟩
    rw [List.nodup_append]
    refine ⟨nd (good_pw hp.hand.good), (nd (good_pw hq.hand.good)).filter _, fun a ha b hb e => ?_⟩
    subst e
    have := (List.mem_filter.mp hb).2
    simp [ha] at this
  have pool_all : ∀ d ∈ p.changes ++ q.changes, d ∈ p.changes ++ q.changes.filter fun c => !decide (c ∈ p.changes) := fun d hd => by
    by_cases z : d ∈ p.changes
    · (exact List.mem_append_left _ z)
    · rcases List.mem_append.mp hd with y | y
      · exact absurd y z
      · exact List.mem_append_right _ (List.mem_filter.mpr ⟨y, by simp [z]⟩)
  have pool_sub : ∀ d ∈ p.changes ++ q.changes.filter (fun c => !decide (c ∈ p.changes)), d ∈ p.changes ++ q.changes := fun d hd => by
    rcases List.mem_append.mp hd with y | y
    · exact List.mem_append_left _ y
    · exact List.mem_append_right _ (List.mem_filter.mp y).1
  have pool_len := U.pool pool_nd pool_sub
  have wv := now_all (l := LL p q) U hL pool_all
  have wvd : nowV ws (p.changes ++ q.changes) (p.changes ++ q.changes.filter fun c => !decide (c ∈ p.changes)) = due := by
    rw [wv, hdue]
    rfl
  obtain ⟨pool, hpool⟩ : ∃ pool, pool = p.changes ++ q.changes.filter fun c => !decide (c ∈ p.changes) := ⟨_, rfl⟩
  rw [← hpool] at pool_nd pool_sub pool_len wvd
  have fl := List.length_filter_le (fun c => !decide (c ∈ p.changes)) q.changes
  have few1 := hp.hand.few
  have few2 := hq.hand.few
  refine j_if (O1 := [dO dr ns (c + pool.length)]) (u := false) (t_eq (t_w (tw_orN (O1 := [dO dr ns c]) (t_eq (t_cmp (o_neO (S := fsPEq CP) (u := decide ((toV p q).whole = (toV p q).whole)) ((toV p q).whole, (toV p q).whole) L.sQ L.nQ L.hO L.hne L.FQ hr2 ⟨w1, w1⟩) (e_callR (S := fsBehind CP) (s := sPa CP (toV p q).whole) (O2 := [dO dr ns c]) (p, (toV p q).other) L.FB hr L.gB (ea_cons (e_name 6) (ea_cons (e_fld 2 L.TC.cl L.TC.n2 (e_name 8)) ea_nil)) k1 (congrArg (sPa CP) e1)) (e_fld 0 L.TC.cl L.TC.nW (e_name 8))) (by simp))
    (tw_orN (O1 := [dO dr ns c]) (t_eq (t_cmp (o_neO (S := fsPEq CP) (u := decide ((toV p q).whole = (toV p q).whole)) ((toV p q).whole, (toV p q).whole) L.sQ L.nQ L.hO L.hne L.FQ hr2 ⟨w1, w1⟩) (e_callR (S := fsBehind CP) (s := sPa CP (toV p q).whole) (O2 := [dO dr ns c]) (q, (toV p q).one) L.FB hr L.gB (ea_cons (e_name 7) (ea_cons (e_fld 1 L.TC.cl L.TC.n1 (e_name 8)) ea_nil)) k2 (congrArg (sPa CP) e2)) (e_fld 0 L.TC.cl L.TC.nW (e_name 8))) (by simp))
    (tw_or1 (t_cmp (o_neL (ts := due) (us := due) hr dstr dstr) (e_callR (S := fsWeaveD) (s := sLst sStr due) (O2 := []) ⟨dr, ns, c, LL p q, p.changes ++ q.changes, pool, ws⟩ L.FV hr4 L.gV (ea_cons (O1 := [dO dr ns c]) (e_name 1) (ea_cons (O1 := [dO dr ns c]) (s := sLst sCh pool)
      (e_eqS (e_lst (ew_bin (o_cat (R := sCh) (as := p.changes) (bs := q.changes.filter fun c => !decide (c ∈ p.changes)) (szl (by omega))) (e_lst (ew_callTy c_listT L.Cc.list (by decide +kernel) (ea_cons (e_name 3) ea_nil))) (e_lst (ew_filter1 (R := sCh) (as := q.changes) 5 (fun c => !decide (c ∈ p.changes)) scLaw.nd (it_tupl (e_name 4)) (blkOk_by (own := [("_law_change", 5)]) (N := lawN) (sc := defScope sLaw) (by decide +kernel))
        (fun y hy s H _ cl fp => t_cmp (s1 := sCh y) (s2 := sTupl sCh p.changes) (by refine o_niCh (k := 1) ?_ (cs2.str y hy) cs1.str; exact hr2) (e_name 5) (e_name 3)) (fun y hy _ s H _ cl fp => e_name 5) (szl (by omega)))))) (by rw [hpool])) (ea_cons (O1 := [dO dr ns c]) (s := sLst sStr ws) (e_name 17) ea_nil))) ⟨hc, U, hL0, hL, pool_nd, pool_sub, by show ws.length ≤ 100; omega⟩ (congrArg (sLst sStr) wvd)) (e_name 19)))))) (by simp)) (fun h => nomatch h) (fun _ => j_on ?_)
  have c2 : 0 ≤ c + (pool.length : Nat) := by omega
  generalize c + (pool.length : Nat) = c' at c2
  clear fl pool_nd pool_sub pool_all hpool wvd wv
  -- the least numbers
  refine j_if (O1 := [dO dr ns c']) (u := false) (t_eq (t_w (tw_or2 (t_cmp (s1 := sInt (LL p q + q.growth)) (s2 := sInt (LL p q + q.growth)) o_ne (e_fld 1 L.PC.cl L.PC.nL (e_fld (s := sPa CP (toV p q).one) 1 L.TC.cl L.TC.n1 (e_name 8))) (e_bin o_add (e_fld 1 L.PC.cl L.PC.nL (e_fld (s := sPa CP (toV p q).whole) 0 L.TC.cl L.TC.nW (e_name 8))) (e_meth0 (S := fsPGrowth CP) (O2 := [dO dr ns c']) q L.FG hr2 L.PC.cl L.mG (e_name 7) (by show q.changes.length ≤ 1000; omega))))
    (tw_or1 (t_cmp (s1 := sInt (LL p q + p.growth)) (s2 := sInt (LL p q + p.growth)) o_ne (e_fld 1 L.PC.cl L.PC.nL (e_fld (s := sPa CP (toV p q).other) 2 L.TC.cl L.TC.n2 (e_name 8))) (e_bin o_add (e_fld 1 L.PC.cl L.PC.nL (e_fld (s := sPa CP (toV p q).whole) 0 L.TC.cl L.TC.nW (e_name 8))) (e_meth0 (S := fsPGrowth CP) (O2 := [dO dr ns c']) p L.FG hr2 L.PC.cl L.mG (e_name 6) (by show p.changes.length ≤ 1000; omega))))))) (by simp)) (fun h => nomatch h) (fun _ => j_on ?_)
  -- the other way round
  obtain ⟨t', ht'⟩ : ∃ t' : To, t' = ⟨(toV p q).whole, (toV p q).other, (toV p q).one⟩ := ⟨_, rfl⟩
  have t1 : t'.whole = (toV p q).whole := by rw [ht']
  have t2 : t'.one = (toV p q).other := by rw [ht']
  have t3 : t'.other = (toV p q).one := by rw [ht']
  have tok : t'.whole.ok ∧ t'.one.ok ∧ t'.other.ok := by
    rw [t1, t2, t3]
    exact ⟨w1, w3, w2⟩
  refine j_set 20 (O1 := [dO dr ns c']) (s := sTo CP CT t') (e_callR (S := fsTog CP CT CC) (O2 := [dO dr ns c']) (q, p) L.FT hr6 L.gT (ea_cons (e_name 7) (ea_cons (e_name 6) ea_nil)) hqp (by
    show sTg CP CT CC (togV q p) = _
    rw [tog_fit (fun a ha b hb => fit_symm (hfit b hb a ha)), swap, ht']
    rfl)) ?_ scLaw.nd
  refine j_if (O1 := [dO dr ns c']) (u := false) (t_eq (t_w (tw_or2 (t_cmp (o_neO (S := fsTEq CP CT) (u := true) t' L.sTQ L.nTQ L.hOT L.hneT L.FTQ hr4 tok) (e_name 20)
      (e_ins (ew_make (S := fsTInit CP CT) (ψ := fun r => oIns r CT (toTab CP t')) (fun r => (r, t')) L.MT L.FTI hr2 L.TC.gT (ea_cons (s := sPa CP t'.whole) (e_fld (s := sPa CP t'.whole) 0 L.TC.cl L.TC.nW (e_name (s := sTo CP CT (toV p q)) 8) (by rw [t1]; rfl)) (ea_cons (s := sPa CP t'.one) (e_fld (s := sPa CP t'.one) 2 L.TC.cl L.TC.n2 (e_name (s := sTo CP CT (toV p q)) 8) (by rw [t2]; rfl)) (ea_cons (s := sPa CP t'.other) (e_fld (s := sPa CP t'.other) 1 L.TC.cl L.TC.n1 (e_name (s := sTo CP CT (toV p q)) 8) (by rw [t3]; rfl)) ea_nil))) (fun _ => trivial))))
    (tw_or1 (t_cmp (o_neO (S := fsPEq CP) (u := decide ((toV p q).whole = (toV p q).whole)) ((toV p q).whole, (toV p q).whole) L.sQ L.nQ L.hO L.hne L.FQ hr2 ⟨w1, w1⟩) (e_fld (s := sPa CP (toV p q).whole) 0 L.TC.cl L.TC.nW (e_name (s := sTo CP CT t') 20) (by rw [← t1]; rfl)) (e_fld 0 L.TC.cl L.TC.nW (e_name 8)))))) (by simp)) (fun h => nomatch h) (fun _ => j_on ?_)
  -- behind it: two lone changes
  have rest : ∀ c3 : Int, J (cxD P w K mg base lawN "law" sLaw f cdv A outer s H EE) B [some (sLstK sInt xs), some (sRef dr), some (sInt many), some (sTupl sCh p.changes), some (sTupl sCh q.changes), none, some (sPa CP p), some (sPa CP q), some (sTo CP CT (toV p q)), some (sLst sIJ []), none, none, none, some (sLst (sPa CP) [p, q, r]), some (sLst sIJ (pr3 p q r)), none, some (sAll CP (allV [p, q, r])), some (sLst sStr ws), none, some (sLst sStr due), some (sTo CP CT t'), none, none]
      [dO dr ns c3] ((defBody sLaw).drop 24) D := by
    intro c3
    refine j_if (O1 := [dO dr ns c3]) (u := decide ((p.changes.length : Int) = 1) && (decide ((q.changes.length : Int) = 1) && !decide (p.changes = q.changes))) (t_w (tw_and2 (t_cmp o_eq (e_callB c_lenT L.T.len PySem.boot_len (ea_cons (e_name 3) ea_nil)) e_int) (tw_and2 (t_cmp o_eq (e_callB c_lenT L.T.len PySem.boot_len (ea_cons (e_name 4) ea_nil)) e_int) (tw_and1 (t_cmp (o_neCh hr cs1.str cs2.str) (e_name 3) (e_name 4)))))) (fun h => ?_) (fun h => j_on ?_)
    · have h : (p.changes.length : Int) = 1 ∧ (q.changes.length : Int) = 1 ∧ ¬ p.changes = q.changes := by simpa using h
      obtain ⟨a, ha⟩ : ∃ a, p.changes = [a] := List.length_eq_one_iff.mp (by omega)
      obtain ⟨b, hb⟩ : ∃ b, q.changes = [b] := List.length_eq_one_iff.mp (by omega)
      have hne : a ≠ b := fun e => h.2.2 (by rw [ha, hb, e])
      have hand1 : Hand (LL p q) [a] := by
        rw [← ha]
        exact hp.hand.mono (by show _ ≤ max _ _; omega)
      have hand2 : Hand (LL p q) [b] := by
        rw [← hb]
        exact hq.hand.mono (by show _ ≤ max _ _; omega)
      have aok : a.ok := hand1.good.ed (Int.le_refl _) a List.mem_cons_self
      have bok : b.ok := hand2.good.ed (Int.le_refl _) b List.mem_cons_self
      have fab : fitC a b = true := hfit a (by rw [ha]; exact List.mem_cons_self) b (by rw [hb]; exact List.mem_cons_self)
      have mv := carried_moved hand1 hand2 fab hne
      have one_eq : (toV p q).one.changes = movedV [a] [b] := by
        show movedV p.changes q.changes = _
        rw [ha, hb]
      have one_str : ∀ d ∈ (toV p q).one.changes, okStrs d.words := w2.str
      rw [ha, hb]
      refine j_par 21 12 (s1 := sEd C a) (s2 := sEd C b) (O1 := [dO dr ns c3]) (O2 := [dO dr ns c3])
        (e_edit (i := a.first) (j := a.last) (ws := a.words) true L.M L.FI hr4 L.EC.gC aok (ea_cons (e_ix (i_tup (ss := [sInt a.first, sInt a.last, sTupl sStr a.words]) 0 rfl rfl) (e_ix (i_tupl (R := sCh) (as := [a]) (y := a) rfl) (e_name 3) e_int) e_int) (ea_cons (e_ix (i_tup (ss := [sInt a.first, sInt a.last, sTupl sStr a.words]) 1 rfl rfl) (e_ix (i_tupl (R := sCh) (as := [a]) (y := a) rfl) (e_name 3) e_int) e_int) (ea_cons (s := sWs true a.words) (e_ix (i_tup (ss := [sInt a.first, sInt a.last, sTupl sStr a.words]) 2 rfl rfl) (e_ix (i_tupl (R := sCh) (as := [a]) (y := a) rfl) (e_name 3) e_int) e_int) ea_nil))))
        (e_edit (i := b.first) (j := b.last) (ws := b.words) true L.M L.FI hr4 L.EC.gC bok (ea_cons (e_ix (i_tup (ss := [sInt b.first, sInt b.last, sTupl sStr b.words]) 0 rfl rfl) (e_ix (i_tupl (R := sCh) (as := [b]) (y := b) rfl) (e_name 4) e_int) e_int) (ea_cons (e_ix (i_tup (ss := [sInt b.first, sInt b.last, sTupl sStr b.words]) 1 rfl rfl) (e_ix (i_tupl (R := sCh) (as := [b]) (y := b) rfl) (e_name 4) e_int) e_int) (ea_cons (s := sWs true b.words) (e_ix (i_tup (ss := [sInt b.first, sInt b.last, sTupl sStr b.words]) 2 rfl rfl) (e_ix (i_tupl (R := sCh) (as := [b]) (y := b) rfl) (e_name 4) e_int) e_int) ea_nil)))) ?_ scLaw.nd
      refine j_set 22 (O1 := [dO dr ns c3]) (s := sOpt (sEd C) (carriedV a b)) (e_callR (S := fsCarried C) (O2 := [dO dr ns c3]) (a, b) L.FR hr6 L.gR (ea_cons (e_name 21) (ea_cons (e_name 12) ea_nil)) ⟨aok, bok⟩) ?_ scLaw.nd
      cases hcv : carriedV a b with
      | none =>
        exact j_ret (O1 := [dO dr ns c3]) (s := sBl true) (e_orT (e_cmp (o_isO (R := sEd C) (o := none) fun a K G v q => ins_notN q) (e_name 22) e_non)) (fin_ret hf (fun w hw => nomatch hw) fun G v hv => hv)
      | some m =>
        have hm := mv m hcv
        rw [hm] at one_eq
        have mstr : okStrs m.words := one_str m (by rw [one_eq]; exact List.mem_cons_self)
        refine j_ret (O1 := [dO dr ns c3]) (s := sBl (false || decide ((toV p q).one.changes = [m]))) (e_or2 (e_cmp (o_isO (R := sEd C) (o := some m) fun a K G v q => ins_notN q) (e_name 22) e_non) (e_one (e_cmp (o_eqCh (as := (toV p q).one.changes) (bs := [m]) hr one_str (fun d hd => by rw [List.mem_singleton.mp hd]; exact mstr)) (e_fld 0 L.PC.cl L.PC.nC (e_fld (s := sPa CP (toV p q).one) 1 L.TC.cl L.TC.n1 (e_name 8)))
          (e_tupl (R := sCh) (as := [m]) (el_cons (e_tup (ea_cons (e_fld 0 L.EC.cl L.EC.nF (e_name (s := sEd C m) 22)) (ea_cons (e_fld 1 L.EC.cl L.EC.nL (e_name (s := sEd C m) 22)) (ea_cons (e_callTy c_tupleT L.Cc.tuple (by decide +kernel) (ea_cons (e_fld 2 L.EC.cl L.EC.nW (e_name (s := sEd C m) 22)) ea_nil)) ea_nil))) (szl (by simp))) el_nil) (szl (by simp)))))) (fin_ret hf (fun w hw => nomatch hw) fun G v hv => ?_)
        have hv : v = V.bl (false || decide ((toV p q).one.changes = [m])) := hv
        rw [one_eq] at hv
        show v = V.bl true
        simpa using hv
    · exact j_ret (O1 := [dO dr ns c3]) (s := sBl true) e_bl (fin_ret hf (fun w hw => nomatch hw) fun G v hv => hv)
  -- all three
  by_cases hpr : pr3 p q r = []
  · have hb : pairBad [p, q, r] = [] := by rw [pair3]; exact hpr
    have hff := pair_none hh hb
    have U3 := hh.uni hff
    have all := all_fit hb
    have aok := (all_ok hh).res hb
    have top3 : maxDV ([p, q, r].map (·.least)) 0 ≤ (ws.length : Int) := by
      have h1 := hp.l10
      have h2 := hq.l10
      have h3 := (hh.ph r (by simp)).l10
      show max (max p.least q.least) r.least ≤ _
      omega
    have tot := hh.tot
    have e3 : p.changes ++ q.changes ++ r.changes = [p, q, r].flatMap (·.changes) := by simp
    obtain ⟨cs3, hcs3⟩ : ∃ cs3, cs3 = [p, q, r].flatMap (·.changes) := ⟨_, rfl⟩
    rw [← hcs3] at U3 e3 tot
    have len3 : p.changes.length + q.changes.length + r.changes.length ≤ 13 := by
      rw [← e3] at tot
      simpa [List.length_append, Nat.add_assoc] using tot
    have side_nd := side_nodup cs3
    have side_sub : ∀ d ∈ sideL cs3, d ∈ cs3 := fun d hd => side_mem.mp hd
    have wv := now_all (l := maxDV ([p, q, r].map (·.least)) 0) U3 top3 (D := sideL cs3) fun d hd => side_mem.mpr hd
    obtain ⟨due3, hdue3⟩ : ∃ due3, due3 = (allPa [p, q, r]).run ws := ⟨_, rfl⟩
    have wvd : nowV ws cs3 (sideL cs3) = due3 := by
      rw [wv, hdue3, hcs3]
      rfl
    have d3 : okStrs due3 := by
      rw [hdue3]
      exact run_str aok wo.str
    have fits3 : (allPa [p, q, r]).fits ws := ⟨aok, wo, by omega, top3⟩
    rw [all, hpr] at rest ⊢
    refine j_if (O1 := [dO dr ns (c' + (sideL cs3).length)]) (u := false) (t_w (tw_andN (O1 := [dO dr ns c']) (t_eq (t_cmp (o_eqIJ (as := []) (bs := []) hr) (e_name 14) (e_lst (ew_lst (R := sIJ) (as := []) el_nil (szl (by simp))))) (by simp)) (tw_and1 (t_eq (t_cmp (o_neL (ts := due3) (us := due3) hr d3 d3) (e_eqS (e_callO (S := fsPCall CP) (tab := paTab (allPa [p, q, r])) (allPa [p, q, r], false, ws) L.mC L.FC hr4 (e_name (s := sPa CP (allPa [p, q, r])) 16) (ea_cons (s := sLst sStr ws) (e_name 17) ea_nil) fits3) (by rw [hdue3]; rfl))
      (e_callR (S := fsWeaveD) (s := sLst sStr due3) (O2 := []) ⟨dr, ns, c', _, cs3, sideL cs3, ws⟩ L.FV hr4 L.gV (ea_cons (O1 := [dO dr ns c']) (e_name 1) (ea_cons (O1 := [dO dr ns c']) (s := sLst sCh (sideL cs3)) (e_lst (ew_callB (c_sortN (N := nkC) (R := sCh) (cs := cs3) (enc := chD) (Z := sideL cs3) hr2 isD_ch alikeC (fun c => ⟨_, rfl⟩) depthC (fun Z nd hm => sort_side U3 nd hm)) L.zs (by decide +kernel)
        (ea_cons (e_callTy (c_setN (N := nkC) (R := sCh) (cs := cs3) nkC_inj keyC hr2 (by omega)) L.zt (by decide +kernel) (ea_cons (s := sTupl sCh cs3) (e_eqS (e_bin (o_addT (R := sCh) (as := p.changes ++ q.changes) (bs := r.changes) (by rw [List.length_append]; omega)) (e_bin (o_addT (R := sCh) (as := p.changes) (bs := q.changes) (by omega)) (e_name 3) (e_name 4)) (e_fld 0 L.PC.cl L.PC.nC (e_ix (i_lst (R := sPa CP) (as := [p, q, r]) (y := r) rfl) (e_name 13) e_int))) (by rw [e3])) ea_nil)) ea_nil))) (ea_cons (O1 := [dO dr ns c']) (s := sLst sStr ws) (e_name 17) ea_nil))) ⟨c2, U3, hh.top, top3, side_nd, side_sub, by show ws.length ≤ 100; omega⟩ (congrArg (sLst sStr) wvd))) (by simp))))) (fun h => nomatch h) (fun _ => j_on (rest _))
  · refine j_if (O1 := [dO dr ns c']) (u := false) (t_w (tw_andF (t_eq (t_cmp (o_eqIJ (as := pr3 p q r) (bs := []) hr) (e_name 14) (e_lst (ew_lst (R := sIJ) (as := []) el_nil (szl (by simp))))) (decide_eq_false hpr)))) (fun h => nomatch h) (fun _ => j_on (rest c'))
end
end K51

namespace Gd
open PySem L2
section
variable {X : Cx} {B : Bs} {δ : List (Option Slot)} {O O1 : List Own} {c : Expr} {α : Type} {R : α → Slot} {D : Ends} {rest : List Stmt} {as : List α}
/-- y = [x for x in iter if test] -/
theorem j_setFilter1 {elt iter : Expr} {scope : Scope} {own : List (Str × Nat)} {x y : Str} {px py pos spos : Pos} (iy i : Nat) (t : α → Bool) (hN : X.N.Nodup) (hi : IT X δ O (.Name x px) iter R as O1) (ok : BlkOk X.N X.env.scope scope own)
    (htst : ∀ y, y ∈ as → ∀ s H C cl fp, T (Blk X scope s H C cl fp) ((wipeD δ (own.map (·.2))).set i (some (R y))) O1 c (t y) O1)
    (helt : ∀ y, y ∈ as → t y = true → ∀ s H C cl fp, E (Blk X scope s H C cl fp) ((wipeD δ (own.map (·.2))).set i (some (R y))) O1 elt (R y) O1) (hz : as.length ≤ sizeLine)
    (q : ∀ r, B.H r = none → J X B (δ.set iy (some (sRef r))) (oLst r R (as.filter t) :: O1) rest D)
    (hyN : X.N[iy]? = some y := by rfl) (hyl : X.env.scope.names.lookup y = some .local := by rfl) (hsw : swapsWith (.ListComp elt [⟨.Name x px, iter, [c], 0⟩] scope pos) (some (.Name y py)) spos.line X.env = pure true := by exact sw_true rfl rfl rfl (by decide +kernel))
    (hin : i ∈ own.map (·.2) := by decide) (hix : X.N[i]? = some x := by rfl) (hx : ∀ s H C cl fp, Loc (Blk X scope s H C cl fp).env.scope x := by intro _ _ _ _ _; first | exact Or.inl rfl | exact Or.inr rfl)
    (hf : ∀ s H C cl fp, (Blk X scope s H C cl fp).fn x = true ∨ (Blk X scope s H C cl fp).env.scope.names.lookup x = some .local := by intro _ _ _ _ _; first | exact .inl rfl | exact .inr rfl)
    (hc : X.calm = true := by rfl) (hs : noSet iter = true := by rfl) :
    J X B δ O (.Assign [.Name y py] (.ListComp elt [⟨.Name x px, iter, [c], 0⟩] scope pos) spos :: rest) D := by
  refine j_setComp (S := R) iy i (fun _ => O1) (fun _ => O1) (fun k => (as[k]?.map t).getD false) (fun k => (as.take k).filter t) hN hi ok
    (fun k y hy s H C cl fp => ts_one (by rw [hy]; exact htst y (List.mem_of_getElem? hy) s H C cl fp))
    (fun k y hy ht => by
      rw [hy] at ht
      have ht : t y = true := ht
      refine ⟨y, ?_, fun s H C cl fp => helt y (List.mem_of_getElem? hy) ht s H C cl fp⟩
      show (as.take (k + 1)).filter t = _
      rw [take_succ hy, List.filter_append, List.filter_cons_of_pos ht]
      rfl)
    (fun k hk ht => by
      have hy := List.getElem?_eq_getElem hk
      rw [hy] at ht
      have ht : t as[k] = false := ht
      refine ⟨rfl, ?_⟩
      show (as.take (k + 1)).filter t = _
      rw [take_succ hy, List.filter_append, List.filter_cons_of_neg (by rw [ht]; exact Bool.false_ne_true), List.filter_nil, List.append_nil]) rfl hz (fun r hr => ?_) hyN hyl hsw hin hix hx hf (.inr ⟨_, rfl⟩) hc hs
  have := q r hr
  rwa [← List.take_length (l := as)] at this
theorem atI0 {a : α} {r : List α} : atI (a :: r) 0 = some a := atI_nat (j := 0) rfl
end
end Gd
namespace K51
open PySem L2 Gd
theorem tog_clash {p q : Pa} {e : Int × Int} {r : List (Int × Int)} (h : badV p.changes q.changes = e :: r) : togV p q = .clash e.1 e.2 := by
  unfold togV
  rw [h]
  rfl
theorem ch_ph {ns : List Int} {c many : Int} (hc : 0 ≤ c) (h0 : 0 ≤ many) (h1 : many ≤ 10) : PH ⟨(chEnd ns c many).cs, many⟩ := ⟨(chEnd_ok hc).hand, h0, h1⟩
section
variable {P : Program} {w : World} {K : Fg} {mg : Str → Option Value} {base : Heap} {C CP CT CC : Addr}
theorem law_b (L : LawC P w K mg base C CP CT CC) {f : Addr} {cdv : Value} {A : Around} {outer : List Env} {s : Shared} {H : Hp} {EE : XK} {B : Bs} {D : Ends} {xs ns : List Int} {dr : Addr} {c many : Int} {p q : Pa} (hr : Room 7 (cxD P w K mg base lawN "law" sLaw f cdv A outer s H EE).A) (hf : Gd.Fin K B fsLaw xs D)
    (hp : PH p) (hq : PH q) (h4 : p.changes.length ≤ 4) (hc : 0 ≤ c) (hm0 : 0 ≤ many) (hm : many ≤ 10) :
    J (cxD P w K mg base lawN "law" sLaw f cdv A outer s H EE) B [some (sLstK sInt xs), some (sRef dr), some (sInt many), some (sTupl sCh p.changes), some (sTupl sCh q.changes), none, some (sPa CP p), some (sPa CP q), some (sTg CP CT CC (togV p q)), some (sLst sIJ (badV p.changes q.changes)), none, none, none, none, none, none, none, none, none, none, none, none, none]
      [dO dr ns c] ((defBody sLaw).drop 9) D := by
  have hr6 : Room 6 _ := hr.mono (by decide)
  have hr5 : Room 5 _ := hr.mono (by decide)
  have hr4 : Room 4 _ := hr.mono (by decide)
  have hr3 : Room 3 _ := hr.mono (by decide)
  (have hr2 : Room 2 _ := hr.mono (by decide))
  (have hr1 : Room 1 _ := hr.mono (by decide))
  -- what together told
  refine j_if (O1 := [dO dr ns c]) (u := false) ?_ (fun h => nomatch h) (fun _ => j_on ?_)
  · cases hb : badV p.changes q.changes with
    | nil =>
      have ht := tog_fit (bad_none.mp hb)
      rw [ht]
      exact t_eq (t_w (tw_or2 (t_cmp o_neB (e_callTy (c_boolO (S := fsTBool CP CT) (u := true) (toV p q) L.sTB L.nTB L.FTB hr3 trivial) L.Cc.bool (by decide +kernel) (ea_cons (e_name (s := sTo CP CT (toV p q)) 8) ea_nil)) (e_cmp (o_eqIJ (as := []) (bs := []) hr) (e_name 9) (e_lst (ew_lst (R := sIJ) (as := []) el_nil (szl (by simp))))))
        (tw_or1 (t_w (tw_andF (t_eq (t_cmp (o_neIJ (as := []) (bs := []) hr) (e_name 9) (e_lst (ew_lst (R := sIJ) (as := []) el_nil (szl (by simp))))) (by simp))))))) (by simp)
    | cons e r =>
      have ht := tog_clash hb
      rw [ht]
      exact t_eq (t_w (tw_or2 (t_cmp o_neB (e_callTy (c_boolO (S := fsCBool CC) (u := false) (e.1, e.2) L.sCB L.nCB L.FCB hr3 trivial) L.Cc.bool (by decide +kernel) (ea_cons (e_name (s := sCl CC e.1 e.2) 8) ea_nil)) (e_cmp (o_eqIJ (as := e :: r) (bs := []) hr) (e_name 9) (e_lst (ew_lst (R := sIJ) (as := []) el_nil (szl (by simp))))))
        (tw_or1 (t_w (tw_and2 (t_cmp (o_neIJ (as := e :: r) (bs := []) hr) (e_name 9) (e_lst (ew_lst (R := sIJ) (as := []) el_nil (szl (by simp))))) (tw_and1 (t_cmp (o_neO (S := fsCEq CC) (u := decide ((e.1, e.2) = (e.1, e.2))) ((e.1, e.2), (e.1, e.2)) L.sCQ L.nCQ L.hOC L.hneC L.FCQ hr2 trivial) (e_name (s := sCl CC e.1 e.2) 8)
          (e_ins (ew_make (S := fsCInit CC) (ψ := fun r => oIns r CC (clTab e.1 e.2)) (fun r => (r, e.1, e.2)) L.MC L.FCI hr2 L.LC.gC (ea_cons (e_ix (i_tup (ss := [sInt e.1, sInt e.2]) 0 rfl rfl) (e_ix (i_lst (R := sIJ) (as := e :: r) (y := e) atI0) (e_name 9) e_int) e_int) (ea_cons (e_ix (i_tup (ss := [sInt e.1, sInt e.2]) 1 rfl rfl) (e_ix (i_lst (R := sIJ) (as := e :: r) (y := e) atI0) (e_name 9) e_int) e_int) ea_nil)) (fun _ => trivial)))))))))) (by simp)
  -- a third hand
  obtain ⟨rp, hrp⟩ : ∃ rp : Pa, rp = ⟨(chEnd ns c many).cs, many⟩ := ⟨_, rfl⟩
  have hph : PH rp := by rw [hrp]; exact ch_ph hc hm0 hm
  have hch : (chEnd ns c many).cs = rp.changes := by rw [hrp]
  have hle : many = rp.least := by rw [hrp]
  have h3 : rp.changes.length ≤ 3 := by rw [← hch]; exact (chEnd_ok hc).few
  have hc' := (chEnd_ok (ns := ns) (many := many) hc).c0
  have hh : Hands [p, q, rp] := ⟨fun x hx => by
    (simp only [List.mem_cons, List.not_mem_nil, or_false] at hx)
    rcases hx with rfl | rfl | rfl
    · exact hp
    · exact hq
    · exact hph, Nat.le_refl _, by
    have := hq.hand.few
    simp only [List.flatMap_cons, List.flatMap_nil, List.append_nil, List.length_append]
    omega⟩
  refine j_set 13 (O1 := [dO dr ns (chEnd ns c many).c]) (s := sLst (sPa CP) [p, q, rp]) (e_lst (ew_lst (R := sPa CP) (as := [p, q, rp]) (el_cons (e_name 6) (el_cons (e_name 7) (el_cons (e_patch rp L.MP L.FP hr5 L.PC.gP hph.ok (ea_cons (s := sTupl sCh rp.changes) (O1 := [dO dr ns (chEnd ns c many).c]) (e_callR (S := fsChangesD) (O2 := []) ⟨dr, ns, c, many⟩ L.FH hr6 L.gH (ea_cons (O1 := [dO dr ns c]) (e_name 1) (ea_cons (O1 := [dO dr ns c]) (e_name 2) ea_nil)) hc (by rw [← hch]; rfl)) (ea_cons (s := sInt rp.least) (e_eqS (e_name 2) (by rw [hle])) ea_nil))) el_nil))) (szl (by simp)))) ?_ scLaw.nd
  generalize (chEnd ns c many).c = c' at hc'
  clear hch hrp
  -- the pairs that clash
  refine j_setFilter1 (R := sIJ) (as := [(0, 1), (0, 2), (1, 2)]) (O1 := [dO dr ns c']) 14 15 (fun e => !isOk (togV (at3 p q rp e.1) (at3 p q rp e.2))) scLaw.nd (it_lst (e_lst (ew_lst (R := sIJ) (as := [(0, 1), (0, 2), (1, 2)]) (el_cons (e_tup (ea_cons e_int (ea_cons e_int ea_nil)) (szl (by simp))) (el_cons (e_tup (ea_cons e_int (ea_cons e_int ea_nil)) (szl (by simp))) (el_cons (e_tup (ea_cons e_int (ea_cons e_int ea_nil)) (szl (by simp))) el_nil))) (szl (by simp))))) (blkOk_by (own := [("_law_pair", 15)]) (N := lawN) (sc := defScope sLaw) (by decide +kernel))
    (fun e he s H _ cl fp => ?_) (fun e he _ s H _ cl fp => e_name 15) (szl (by simp)) (fun lr hlr => ?_)
  · have ok1 := tog_ok hp hq
    have ok2 := tog_ok hp hph
    have ok3 := tog_ok hq hph
    simp only [List.mem_cons, List.not_mem_nil, or_false] at he
    rcases he with rfl | rfl | rfl
    · exact t_not (t_tog (CP := CP) (CT := CT) (CC := CC) (togV p q) L.sTB L.nTB L.FTB L.sCB L.nCB L.FCB (by exact hr1) (e_callR (S := fsTog CP CT CC) (O2 := [dO dr ns c']) (p, q) L.FT (by exact hr6) L.gT (ea_cons (e_ix (i_lst (R := sPa CP) (as := [p, q, rp]) (i := 0) (y := p) rfl) (e_name 13) (e_ix (i_tup (ss := [sInt 0, sInt 1]) 0 rfl rfl) (e_name 15) e_int)) (ea_cons (e_ix (i_lst (R := sPa CP) (as := [p, q, rp]) (i := 1) (y := q) rfl) (e_name 13) (e_ix (i_tup (ss := [sInt 0, sInt 1]) 1 rfl rfl) (e_name 15) e_int)) ea_nil)) ok1))
    · exact t_not (t_tog (CP := CP) (CT := CT) (CC := CC) (togV p rp) L.sTB L.nTB L.FTB L.sCB L.nCB L.FCB (by exact hr1) (e_callR (S := fsTog CP CT CC) (O2 := [dO dr ns c']) (p, rp) L.FT (by exact hr6) L.gT (ea_cons (e_ix (i_lst (R := sPa CP) (as := [p, q, rp]) (i := 0) (y := p) rfl) (e_name 13) (e_ix (i_tup (ss := [sInt 0, sInt 2]) 0 rfl rfl) (e_name 15) e_int)) (ea_cons (e_ix (i_lst (R := sPa CP) (as := [p, q, rp]) (i := 2) (y := rp) rfl) (e_name 13) (e_ix (i_tup (ss := [sInt 0, sInt 2]) 1 rfl rfl) (e_name 15) e_int)) ea_nil)) ok2))
    · exact t_not (t_tog (CP := CP) (CT := CT) (CC := CC) (togV q rp) L.sTB L.nTB L.FTB L.sCB L.nCB L.FCB (by exact hr1) (e_callR (S := fsTog CP CT CC) (O2 := [dO dr ns c']) (q, rp) L.FT (by exact hr6) L.gT (ea_cons (e_ix (i_lst (R := sPa CP) (as := [p, q, rp]) (i := 1) (y := q) rfl) (e_name 13) (e_ix (i_tup (ss := [sInt 1, sInt 2]) 0 rfl rfl) (e_name 15) e_int)) (ea_cons (e_ix (i_lst (R := sPa CP) (as := [p, q, rp]) (i := 2) (y := rp) rfl) (e_name 13) (e_ix (i_tup (ss := [sInt 1, sInt 2]) 1 rfl rfl) (e_name 15) e_int)) ea_nil)) ok3))
  refine j_freeze 14 (s := sLst sIJ (pr3 p q rp)) rfl hlr (fun K G o => frz_lst K G lr o) ?_
  -- all together
  refine j_set 16 (O1 := [dO dr ns c']) (s := sAll CP (allV [p, q, rp])) (e_callR (S := fsAllT CP) (O2 := [dO dr ns c']) (true, [p, q, rp]) L.FA hr L.gA (ea_cons (s := sTupl (sPa CP) [p, q, rp]) (e_callTy (c_tuple (R := sPa CP) (as := [p, q, rp])) L.Cc.tuple (by decide +kernel) (ea_cons (e_name 13) ea_nil)) ea_nil) (all_ok hh)) ?_ scLaw.nd
  refine j_if (O1 := [dO dr ns c']) (u := false) ?_ (fun h => nomatch h) (fun _ => j_on ?_)
  · cases hpr : pr3 p q rp with
    | nil => exact t_w (tw_andF (t_eq (t_cmp (o_neIJ (as := []) (bs := []) hr) (e_name 14) (e_lst (ew_lst (R := sIJ) (as := []) el_nil (szl (by simp))))) (by simp)))
    | cons e rr =>
      have hall : allV [p, q, rp] = .pair e.1 e.2 := by
        unfold allV
        rw [pair3, hpr]
        rfl
      rw [hall]
      exact t_eq (t_w (tw_and2 (t_cmp (o_neIJ (as := e :: rr) (bs := []) hr) (e_name 14) (e_lst (ew_lst (R := sIJ) (as := []) el_nil (szl (by simp))))) (tw_and1 (t_cmp (s1 := sTup [sInt e.1, sInt e.2]) (s2 := sTup [sInt e.1, sInt e.2]) (o_neD (k := 0) (w := true) (hr.mono (by decide)) isD_tup2' isD_tup2' shaped_ii shaped_ii (by simp [PyData.eqv, PyData.eqvAll])) (e_name 16) (e_ix (i_lst (R := sIJ) (as := e :: rr) (y := e) atI0) (e_name 14) e_int))))) (by simp)
  refine j_if (O1 := [dO dr ns c']) (u := false) ?_ (fun h => nomatch h) (fun _ => j_on ?_)
  · have nilok : PH ⟨[], 0⟩ := ⟨⟨trivial, fun d hd => (nomatch hd), Nat.zero_le _, fun d hd => (nomatch hd)⟩, Int.le_refl _, by decide⟩
    have h0 : Hands [] := ⟨fun x hx => (nomatch hx), Nat.zero_le _, Nat.zero_le _⟩
    have h1 : Hands [p] := ⟨fun x hx => by rw [List.mem_singleton.mp hx]; exact hp, by simp, by simp; omega⟩
    refine t_eq (t_w (tw_or2 (u := false) ?_ (tw_or2 (t_cmp (o_neO (S := fsPEq CP) (u := decide ((⟨[], 0⟩ : Pa) = ⟨[], 0⟩)) (⟨[], 0⟩, ⟨[], 0⟩) L.sQ L.nQ L.hO L.hne L.FQ hr2 ⟨nilok.ok, nilok.ok⟩) (e_callR (S := fsAllT CP) (s := sPa CP ⟨[], 0⟩) (O2 := [dO dr ns c']) (false, []) L.FA hr L.gA (ea_cons (s := sLst (sPa CP) []) (e_lst (ew_lst (R := sPa CP) (as := []) el_nil (szl (by simp)))) ea_nil) (all_ok h0) (by show sAll CP (allV []) = _; rw [all_nil]; rfl))
        (e_patch ⟨[], 0⟩ L.MP L.FP hr5 L.PC.gP nilok.ok (ea_cons (s := sTupl sCh []) (e_tupl (R := sCh) (as := []) el_nil (szl (by simp))) (ea_cons e_int ea_nil))))
      (tw_or1 (t_cmp (o_neO (S := fsPEq CP) (u := decide (p = p)) (p, p) L.sQ L.nQ L.hO L.hne L.FQ hr2 ⟨hp.ok, hp.ok⟩) (e_callR (S := fsAllT CP) (s := sPa CP p) (O2 := [dO dr ns c']) (false, [p]) L.FA hr L.gA (ea_cons (s := sLst (sPa CP) [p]) (e_lst (ew_lst (R := sPa CP) (as := [p]) (el_cons (e_name 6) el_nil) (szl (by simp)))) ea_nil) (all_ok h1) (by show sAll CP (allV [p]) = _; rw [all_one hp]; rfl)) (e_name 6)))))) (by simp)
    by_cases hpr : pr3 p q rp = []
    · have hb : pairBad [p, q, rp] = [] := by rw [pair3]; exact hpr
      have hff := pair_none hh hb
      obtain ⟨t1, t2⟩ := all_turn hh hff
      have aok := (all_ok hh).res hb
      rw [all_fit hb, hpr]
      exact t_eq (t_w (tw_and2 (t_cmp (o_eqIJ (as := []) (bs := []) hr) (e_name 14) (e_lst (ew_lst (R := sIJ) (as := []) el_nil (szl (by simp))))) (tw_and1 (t_cmp (o_neO (S := fsPEq CP) (u := decide (allPa [p, q, rp] = allPa [p, q, rp])) (allPa [p, q, rp], allPa [p, q, rp]) L.sQ L.nQ L.hO L.hne L.FQ hr2 ⟨aok, aok⟩) (e_name (s := sPa CP (allPa [p, q, rp])) 16)
        (e_callR (S := fsAllT CP) (s := sPa CP (allPa [p, q, rp])) (O2 := [dO dr ns c']) (false, [rp, p, q]) L.FA hr L.gA (ea_cons (s := sLst (sPa CP) [rp, p, q]) (e_lst (ew_lst (R := sPa CP) (as := [rp, p, q]) (el_cons (e_ix (i_lst (R := sPa CP) (as := [p, q, rp]) (y := rp) rfl) (e_name 13) e_int) (el_cons (e_ix (i_lst (R := sPa CP) (as := [p, q, rp]) (y := p) rfl) (e_name 13) e_int) (el_cons (e_ix (i_lst (R := sPa CP) (as := [p, q, rp]) (y := q) rfl) (e_name 13) e_int) el_nil))) (szl (by simp)))) ea_nil) (all_ok t1) (by show sAll CP (allV [rp, p, q]) = _; rw [t2]; rfl)))))) (by simp)
    · exact t_w (tw_andF (t_eq (t_cmp (o_eqIJ (as := pr3 p q rp) (bs := []) hr) (e_name 14) (e_lst (ew_lst (R := sIJ) (as := []) el_nil (szl (by simp))))) (decide_eq_false hpr)))
  by_cases hb : badV p.changes q.changes = []
  · have hfit := bad_none.mp hb
    rw [tog_fit hfit, hb]
    refine j_if (O1 := [dO dr ns c']) (u := false) (t_eq (t_cmp (o_neIJ (as := []) (bs := []) hr) (e_name 9) (e_lst (ew_lst (R := sIJ) (as := []) el_nil (szl (by simp))))) (by simp)) (fun h => nomatch h) (fun _ => j_on ?_)
    exact law_c L hr hf hp hq hh hfit hc'
  · refine j_if (O1 := [dO dr ns c']) (u := true) (t_eq (t_cmp (o_neIJ (as := badV p.changes q.changes) (bs := []) hr) (e_name 9) (e_lst (ew_lst (R := sIJ) (as := []) el_nil (szl (by simp))))) (by simp [hb])) (fun _ => ?_) (fun h => nomatch h)
    obtain ⟨e, rr, he⟩ := List.exists_cons_of_ne_nil hb
    rw [tog_clash he]
    exact j_ret (O1 := [dO dr ns c']) (s := sBl (!false)) (e_not (e_callB (c_isiC (k := false) (ty_ins L.tC) L.kTC) L.Cc.isi (by decide +kernel) (ea_cons (e_name (s := sCl CC e.1 e.2) 8) (ea_cons (e_gref L.TC.gT) ea_nil)))) (fin_ret hf (fun w hw => nomatch hw) fun G v hv => hv)
end
end K51

namespace Gd
open PySem L2
section
variable {X : Cx} {δ : List (Option Slot)} {O O1 : List Own} {α β : Type} {R : α → Slot} {S : β → Slot} {as : List α} {pos : Pos}
/-- [elt for a, b in iter], [elt for a, b in iter if ..] -/
theorem ew_T2 {elt iter : Expr} {scope : Scope} {own : List (Str × Nat)} {r1 r2 : α → Slot} (i j : Nat) {x1 x2 : Str} {p1 p2 p4 : Pos} {kk : Nat} {ifs : List Expr} (t : α → Bool) (f : α → β) (hN : X.N.Nodup) (hi : IT X δ O (.Tuple [.Name x1 p1, .Name x2 p2] kk p4) iter (fun y => sTup [r1 y, r2 y]) as O1) (ok : BlkOk X.N X.env.scope scope own)
    (htst : ∀ y, y ∈ as → ∀ s H C cl fp, TSs (Blk X scope s H C cl fp) (setD (wipeD δ (own.map (·.2))) [(i, r1 y), (j, r2 y)]) O1 ifs (t y) O1)
    (helt : ∀ y, y ∈ as → t y = true → ∀ s H C cl fp, E (Blk X scope s H C cl fp) (setD (wipeD δ (own.map (·.2))) [(i, r1 y), (j, r2 y)]) O1 elt (S (f y)) O1) (hz : as.length ≤ sizeLine)
    (hin : ∀ z ∈ [i, j], z ∈ own.map (·.2) := by decide) (h1 : X.N[i]? = some x1 := by rfl) (h2 : X.N[j]? = some x2 := by rfl)
    (hx1 : ∀ s H C cl fp, Loc (Blk X scope s H C cl fp).env.scope x1 := by intro _ _ _ _ _; first | exact Or.inl rfl | exact Or.inr rfl) (hx2 : ∀ s H C cl fp, Loc (Blk X scope s H C cl fp).env.scope x2 := by intro _ _ _ _ _; first | exact Or.inl rfl | exact Or.inr rfl)
    (hf1 : ∀ s H C cl fp, (Blk X scope s H C cl fp).fn x1 = true ∨ (Blk X scope s H C cl fp).env.scope.names.lookup x1 = some .local := by intro _ _ _ _ _; first | exact .inl rfl | exact .inr rfl) (hf2 : ∀ s H C cl fp, (Blk X scope s H C cl fp).fn x2 = true ∨ (Blk X scope s H C cl fp).env.scope.names.lookup x2 = some .local := by intro _ _ _ _ _; first | exact .inl rfl | exact .inr rfl)
    (hifs : ifs = [] ∨ ∃ c, ifs = [c] := by first | exact .inl rfl | exact .inr ⟨_, rfl⟩) (hc : X.calm = true := by rfl) (hcb : ∀ s H C cl fp, (Blk X scope s H C cl fp).calm = true := by intro _ _ _ _ _; rfl) (hs : noSet iter = true := by rfl) :
    EW X δ O (.ListComp elt [⟨.Tuple [.Name x1 p1, .Name x2 p2] kk p4, iter, ifs, 0⟩] scope pos) (fun p => oLst p S ((as.filter t).map f)) O1 := by
  have h := ew_compG (pos := pos) (S := S) (g := gTup X.K 2 (gCons (gName i) (gCons (gName j) gNil))) (fun y => [(i, r1 y), (j, r2 y)]) [i, j] (fun _ => O1) (fun _ => O1) (fun k => (as[k]?.map t).getD false) (fun k => ((as.take k).filter t).map f) hN
    (fun s H C cl fp => pg_tup (hcb s H C cl fp) (pgs_cons (pg_name hN h1 (hx1 s H C cl fp) (hf1 s H C cl fp)) (pgs_cons (pg_name hN h2 (hx2 s H C cl fp) (hf2 s H C cl fp)) pgs_nil)))
    (fun B δ O σ G H y v Q st hv k => by
      obtain ⟨p, vs, rfl, hp, h⟩ := hv
      obtain ⟨v1, v2, rfl, e1, e2⟩ := alls2 h
      refine ⟨p, _, rfl, sqT_up st.stp.gh hp, rfl, v1, [v2], rfl, v2, [], rfl, rfl, k _ ((st.set e1).set e2) fun vs hvs => ?_⟩
      rw [wipe_set (hvs j (by simp)), wipe_set (hvs i (by simp))])
    hi ok (fun k y hy s H C cl fp => by rw [hy]; exact htst y (List.mem_of_getElem? hy) s H C cl fp)
    (fun k y hy ht => by
      rw [hy] at ht
      have ht : t y = true := ht
      refine ⟨f y, ?_, fun s H C cl fp => helt y (List.mem_of_getElem? hy) ht s H C cl fp⟩
      show ((as.take (k + 1)).filter t).map f = _
      rw [take_succ hy, List.filter_append, List.map_append, List.filter_cons_of_pos ht]
      rfl)
    (fun k hk ht => by
      have hy := List.getElem?_eq_getElem hk
      rw [hy] at ht
      have ht : t as[k] = false := ht
      refine ⟨rfl, ?_⟩
      show ((as.take (k + 1)).filter t).map f = _
      rw [take_succ hy, List.filter_append, List.filter_cons_of_neg (by rw [ht]; exact Bool.false_ne_true), List.filter_nil, List.append_nil]) rfl hz hin hifs hc hs
  simpa only [List.take_length] using h
theorem flat_len {γ : Type} {f : α → List γ} {m : Nat} : ∀ {zs : List α}, (∀ z ∈ zs, (f z).length ≤ m) → (zs.flatMap f).length ≤ zs.length * m
  | [], _ => by simp
  | z :: zs, h => by
    have h1 := h z List.mem_cons_self
    have h2 := flat_len (f := f) fun y hy => h y (List.mem_cons_of_mem z hy)
    rw [List.flatMap_cons, List.length_append, List.length_cons, Nat.succ_mul]
    omega
/-- a, b = x, y, names that inner blocks read -/
theorem j_parC {B : Bs} {rest : List Stmt} {D : Ends} {s1 s2 : Slot} {O2 : List Own} {a b : Expr} {x y : Str} {px py pt pos pt2 : Pos} {kt k2} (i j : Nat) (ha : E X δ O a s1 O1) (hb : E X δ O1 b s2 O2) (q : J X B ((δ.set i (some s1)).set j (some s2)) O2 rest D) (hN : X.N.Nodup) (hi : X.N[i]? = some x := by rfl) (hj : X.N[j]? = some y := by rfl) (hc : X.calm = true := by rfl)
    (hx : Loc X.env.scope x := by first | exact Or.inl rfl | exact Or.inr rfl) (hy : Loc X.env.scope y := by first | exact Or.inl rfl | exact Or.inr rfl) (h1 : noStar a = true := by rfl) (h2 : noStar b = true := by rfl)
    (hf1 : X.fn x = true ∨ X.env.scope.names.lookup x = some .local := by first | exact .inl rfl | exact .inr rfl) (hf2 : X.fn y = true ∨ X.env.scope.names.lookup y = some .local := by first | exact .inl rfl | exact .inr rfl)
    (hw : swappedStores [.Tuple [.Name x px, .Name y py] kt pt] (.Tuple [a, b] k2 pt2) X.env = pure none := by rfl) :
    J X B δ O (.Assign [.Tuple [.Name x px, .Name y py] kt pt] (.Tuple [a, b] k2 pt2) pos :: rest) D :=
  j_asgT (y := ()) (R := fun _ : Unit => sTup [s1, s2]) (ts := fun _ => [(i, s1), (j, s2)]) (tg_tup2 (r1 := fun _ : Unit => s1) (r2 := fun _ : Unit => s2) i j hN hi hj hx hy hf1 hf2 hc) (e_tup (ea_cons ha (ea_cons hb ea_nil h2) h1) (szl (by simp))) q rfl hw rfl
end
end Gd
namespace K51
open PySem L2 Gd
theorem row_len {B : List Ch} {p : Ch × Nat} : (rowB B p).length ≤ B.length := by
  unfold rowB
  rw [List.length_map]
  have := List.length_filter_le (fun q : Ch × Nat => !fitC p.1 q.1) B.zipIdx
  rwa [List.length_zipIdx] at this
theorem ne_front {t : Str} (h : isToken t = true) (hl : t.length ≤ 100000) : Ne1 ⟨1, 1, [t]⟩ := ⟨Int.le_refl _, fun u hu => by rw [List.mem_singleton.mp hu]; exact ⟨h, hl⟩, (by show (1 : Nat) ≤ 1000; decide), fun z => by cases z.2⟩
section
variable {P : Program} {w : World} {K : Fg} {mg : Str → Option Value} {base : Heap} {C CP CT CC : Addr}
theorem law_a5 (L : LawC P w K mg base C CP CT CC) {f : Addr} {cdv : Value} {A : Around} {outer : List Env} {s : Shared} {H : Hp} {EE : XK} {B : Bs} {D : Ends} {xs ns : List Int} {dr : Addr} {c many : Int} {p q : Pa} (hr : Room 7 (cxD P w K mg base lawN "law" sLaw f cdv A outer s H EE).A) (hf : Gd.Fin K B fsLaw xs D)
    (hp : PH p) (hq : PH q) (h4 : p.changes.length ≤ 4) (hc : 0 ≤ c) (hm0 : 0 ≤ many) (hm : many ≤ 10) (e1 : p.least = many) (e2 : q.least = many + nextV ns c 2) :
    J (cxD P w K mg base lawN "law" sLaw f cdv A outer s H EE) B [some (sLstK sInt xs), some (sRef dr), some (sInt many), some (sTupl sCh p.changes), some (sTupl sCh q.changes), none, none, none, none, none, none, none, none, none, none, none, none, none, none, none, none, none, none]
      [dO dr ns c] ((defBody sLaw).drop 5) D := by
  have hr6 : Room 6 _ := hr.mono (by decide)
  have hr5 : Room 5 _ := hr.mono (by decide)
  have hr3 : Room 3 _ := hr.mono (by decide)
  (have hr1 : Room 1 _ := hr.mono (by decide))
  refine j_par 6 7 (s1 := sPa CP p) (s2 := sPa CP q) (O1 := [dO dr ns c]) (O2 := [dO dr ns (c + 1)])
    (e_patch p L.MP L.FP hr5 L.PC.gP hp.ok (ea_cons (s := sTupl sCh p.changes) (e_name 3) (ea_cons (s := sInt p.least) (e_eqS (e_name 2) (by rw [e1])) ea_nil)))
    (e_patch q L.MP L.FP hr5 L.PC.gP hq.ok (ea_cons (s := sTupl sCh q.changes) (O1 := [dO dr ns c]) (e_name 4) (ea_cons (s := sInt q.least) (O1 := [dO dr ns (c + 1)]) (e_eqS (e_bin o_add (e_name 2) (e_call (S := fsNext) (O2 := []) (dr, ns, c, 2) L.FN hr3 L.gN (ea_cons (e_name 1) (ea_cons e_int ea_nil)) (by show 0 ≤ c ∧ (0 : Int) < 2; omega))) (by rw [e2])) ea_nil))) ?_ scLaw.nd
  have hc1 : 0 ≤ c + 1 := by omega
  clear e2
  generalize c + 1 = c' at hc1
  refine j_set 8 (O1 := [dO dr ns c']) (s := sTg CP CT CC (togV p q)) (e_callR (S := fsTog CP CT CC) (O2 := [dO dr ns c']) (p, q) L.FT hr6 L.gT (ea_cons (e_name 6) (ea_cons (e_name 7) ea_nil)) (tog_ok hp hq)) ?_ scLaw.nd
  refine j_set 9 (O1 := [dO dr ns c']) (s := sLst sIJ []) (e_lst (ew_lst (R := sIJ) (as := []) el_nil (szl (by simp)))) ?_ scLaw.nd
  have few1 := hp.hand.few
  have few2 := hq.hand.few
  have cs1 : SmallC p.changes := hp.small.1
  have cs2 : SmallC q.changes := hq.small.1
  refine j_for (O1 := [dO dr ns c']) (R := fun y : Ch × Nat => sTup [sInt (y.2 : Nat), sCh y.1]) (as := p.changes.zipIdx) (fun n (g : Nat) => g = n) (fun g => [some (sLstK sInt xs), some (sRef dr), some (sInt many), some (sTupl sCh p.changes), some (sTupl sCh q.changes), none, some (sPa CP p), some (sPa CP q), some (sTg CP CT CC (togV p q)), some (sLst sIJ ((p.changes.zipIdx.take g).flatMap (rowB q.changes))), none, none, none, none, none, none, none, none, none, none, none, none, none]) (fun _ => [dO dr ns c']) (fun y => [(10, sInt (y.2 : Nat)), (5, sCh y.1)])
    (it_enumT (R := sCh) L.ze (e_name 3)) (tg_tup2 (r1 := fun y : Ch × Nat => sInt (y.2 : Nat)) (r2 := fun y : Ch × Nat => sCh y.1) 10 5 scLaw.nd) ⟨0, rfl, fun _ _ _ _ h => h⟩ ?_ ?_
  · rintro B1 n y g hB1 hy rfl
    have hy1 : y.1 ∈ p.changes := by
      have hz := List.mem_zipIdx (i := y.2) (x := y.1) (k := 0) (List.mem_of_getElem? hy)
      rw [hz.2.2]
      exact List.getElem_mem _
    have len1 : ((p.changes.zipIdx.take g).flatMap (rowB q.changes)).length ≤ 5 * q.changes.length := by
      refine Nat.le_trans (flat_len (m := q.changes.length) fun z _ => row_len) (Nat.mul_le_mul_right _ ?_)
      rw [List.length_take, List.length_zipIdx]
      omega
    have len2 := row_len (B := q.changes) (p := y)
    refine j_set 9 (O1 := [dO dr ns c']) (s := sLst sIJ ((p.changes.zipIdx.take g).flatMap (rowB q.changes) ++ rowB q.changes y)) (e_lst (ew_bin (o_cat (R := sIJ) (as := (p.changes.zipIdx.take g).flatMap (rowB q.changes)) (bs := rowB q.changes y) (szl (by omega))) (e_name 9)
      (e_lst (ew_T2 (S := sIJ) (r1 := fun z : Ch × Nat => sInt (z.2 : Nat)) (r2 := fun z : Ch × Nat => sCh z.1) (as := q.changes.zipIdx) (O1 := [dO dr ns c']) 11 12 (fun z => !fitC y.1 z.1) (fun z => ((y.2 : Int), (z.2 : Int))) scLaw.nd (it_enumT (R := sCh) L.ze (e_name 4)) (blkOk_by (own := [("_law_number_here", 11), ("_law_late", 12)]) (N := lawN) (sc := defScope sLaw) (by decide +kernel))
        (fun z hz s H _ cl fp => ts_one (t_not (t_val (e_callR (S := fsFitD) (s := sBl (fitC y.1 z.1)) (O2 := [dO dr ns c']) (y.1, z.1) L.FF (by exact hr1) L.gF (ea_cons (s := sCh y.1) (e_name 5) (ea_cons (s := sCh z.1) (e_name 12) ea_nil)) ⟨cs1.str _ hy1, cs2.str _ ?_⟩)))) (fun z hz _ s H _ cl fp => e_tup (ea_cons (s := sInt (y.2 : Nat)) (e_name 10) (ea_cons (s := sInt (z.2 : Nat)) (e_name 11) ea_nil)) (szl (by simp))) (szl (by rw [List.length_zipIdx]; omega)))))) ?_ scLaw.nd
    · have hz := List.mem_zipIdx (i := z.2) (x := z.1) (k := 0) hz
      show z.1 ∈ q.changes
      rw [hz.2.2]
      exact List.getElem_mem _
    · refine j_nil fun σ G H st => ⟨g + 1, G, rfl, ?_⟩
      have e : (p.changes.zipIdx.take (g + 1)).flatMap (rowB q.changes) = (p.changes.zipIdx.take g).flatMap (rowB q.changes) ++ rowB q.changes y := by
        rw [take_succ hy, List.flatMap_append, List.flatMap_cons, List.flatMap_nil, List.append_nil]
      dsimp only
      rw [e]
      exact st.wk (.same (.same (.same (.same (.same (.skip (.same (.same (.same (.same (.skip (.same (.same (.same (.same (.same (.same (.same (.same (.same (.same (.same (.same .nil)))))))))))))))))))))))
  · rintro g rfl
    rw [List.take_length]
    exact law_b L hr hf hp hq h4 hc1 hm0 hm
theorem law_a4 (L : LawC P w K mg base C CP CT CC) {f : Addr} {cdv : Value} {A : Around} {outer : List Env} {s : Shared} {H : Hp} {EE : XK} {B : Bs} {D : Ends} {xs ns : List Int} {dr : Addr} {c many : Int} {as bs : List Ch} (hr : Room 7 (cxD P w K mg base lawN "law" sLaw f cdv A outer s H EE).A) (hf : Gd.Fin K B fsLaw xs D)
    (hA : Hand many as) (hB : Hand many bs) (h3 : as.length ≤ 3) (h4 : bs.length ≤ 4) (hc : 0 ≤ c) (hm0 : 4 ≤ many) (hm : many ≤ 9) :
    J (cxD P w K mg base lawN "law" sLaw f cdv A outer s H EE) B [some (sLstK sInt xs), some (sRef dr), some (sInt many), some (sTupl sCh as), some (sTupl sCh bs), none, none, none, none, none, none, none, none, none, none, none, none, none, none, none, none, none, none]
      [dO dr ns c] ((defBody sLaw).drop 4) D := by
  have hr4 : Room 4 _ := hr.mono (by decide)
  have hr3 : Room 3 _ := hr.mono (by decide)
  have go : ∀ (as bs : List Ch) (c : Int), Hand many as → Hand many bs → as.length ≤ 4 → 0 ≤ c → J (cxD P w K mg base lawN "law" sLaw f cdv A outer s H EE) B [some (sLstK sInt xs), some (sRef dr), some (sInt many), some (sTupl sCh as), some (sTupl sCh bs), none, none, none, none, none, none, none, none, none, none, none, none, none, none, none, none, none, none]
      [dO dr ns c] ((defBody sLaw).drop 5) D := by
    intro as bs c hA hB h4 hc
    have b2 : 0 ≤ nextV ns c 2 ∧ nextV ns c 2 < 2 := ⟨nextV_lo (by decide), nextV_hi (by decide)⟩
    exact law_a5 L (p := ⟨as, many⟩) (q := ⟨bs, many + nextV ns c 2⟩) hr hf ⟨hA, by show 0 ≤ many; omega, by show many ≤ 10; omega⟩ ⟨hB.mono (by show many ≤ many + _; omega), by show 0 ≤ many + _; omega, by show many + _ ≤ 10; omega⟩ h4 hc (by omega) (by omega) rfl rfl
  refine j_if (O1 := [dO dr ns (c + 1)]) (t_cmp o_eq (e_call (S := fsNext) (O2 := []) (dr, ns, c, 4) L.FN hr3 L.gN (ea_cons (e_name 1) (ea_cons e_int ea_nil)) (by show 0 ≤ c ∧ (0 : Int) < 4; omega)) e_int) (fun h => ?_) (fun h => j_on (go as bs (c + 1) hA hB (by omega) (by omega)))
  have hpk : pickV ["a", "b"] ns (c + 1) ∈ (["a", "b"] : List Str) := pick_mem (by decide)
  have hab : isToken (pickV ["a", "b"] ns (c + 1)) = true ∧ (pickV ["a", "b"] ns (c + 1)).length ≤ 100000 := by
    have all : (["a", "b"] : List Str).all (fun t => isToken t && decide (t.length ≤ 100000)) = true := by decide +kernel
    have := List.all_eq_true.mp all _ hpk
    simpa using this
  have hsm := pick_some (ws := ["a", "b"]) (ns := ns) (c := c + 1) (by decide)
  generalize pickV ["a", "b"] ns (c + 1) = t at hab hsm
  have aA := hand_front (a := ⟨1, 1, ["a"]⟩) (L := many) (ne_front (by decide +kernel) (by decide +kernel)) (by decide) (by show (1 : Int) ≤ many; omega) (by decide) hA (by omega)
  have aB := hand_front (a := ⟨1, 1, [t]⟩) (L := many) (ne_front hab.1 hab.2) (by show (0 : Int) ≤ 1; decide) (by show (1 : Int) ≤ many; omega) (by show (1 : Nat) ≤ 2; decide) hB h4
  have la := List.length_filter_le (fun d : Ch => decide (d.first > 1)) as
  have lb := List.length_filter_le (fun d : Ch => decide (d.first > 1)) bs
  refine j_parC 3 4 (s1 := sTupl sCh ([⟨1, 1, ["a"]⟩] ++ as.filter fun d => decide (d.first > 1))) (s2 := sTupl sCh ([⟨1, 1, [t]⟩] ++ bs.filter fun d => decide (d.first > 1))) (O1 := [dO dr ns (c + 1)]) (O2 := [dO dr ns (c + 1 + 1)])
    (e_bin (o_addT (R := sCh) (as := [⟨1, 1, ["a"]⟩]) (bs := as.filter fun d => decide (d.first > 1)) (by simp only [List.length_singleton]; omega)) (e_tupl (R := sCh) (as := [⟨1, 1, ["a"]⟩]) (el_cons (e_tup (ea_cons e_int (ea_cons e_int (ea_cons (e_tupl (R := sStr) (as := ["a"]) (el_cons e_str el_nil) (szl (by simp))) ea_nil))) (szl (by simp))) el_nil) (szl (by simp)))
      (e_callTy (c_tuple (R := sCh) (as := as.filter fun d => decide (d.first > 1))) L.Cc.tuple (by decide +kernel) (ea_cons (e_lst (ew_filter1 (R := sCh) (as := as) 5 (fun d => decide (d.first > 1)) scLaw.nd (it_tupl (e_name 3)) (blkOk_by (own := [("_law_change", 5)]) (N := lawN) (sc := defScope sLaw) (by decide +kernel))
        (fun y hy s H _ cl fp => t_cmp (s1 := sInt y.first) o_gt (e_ix (i_tup (ss := [sInt y.first, sInt y.last, sTupl sStr y.words]) 0 rfl rfl) (e_name (s := sCh y) 5) e_int) e_int) (fun y hy _ s H _ cl fp => e_name 5) (szl (by omega)))) ea_nil)))
    (e_bin (o_addT (R := sCh) (as := [⟨1, 1, [t]⟩]) (bs := bs.filter fun d => decide (d.first > 1)) (by simp only [List.length_singleton]; omega)) (e_tupl (R := sCh) (as := [⟨1, 1, [t]⟩]) (el_cons (e_tup (ea_cons e_int (ea_cons e_int (ea_cons (e_tupl (R := sStr) (as := [t]) (el_cons (e_callR (S := fsPick sStr) (s := sStr t) (O2 := []) (dr, ns, c + 1, ["a", "b"], t) L.FK hr4 L.gK (ea_cons (O1 := [dO dr ns (c + 1)]) (e_name 1) (ea_cons (O1 := [dO dr ns (c + 1)]) (s := sLst sStr ["a", "b"]) (e_lst (ew_lst (R := sStr) (as := ["a", "b"]) (el_cons e_str (el_cons e_str el_nil)) (szl (by simp)))) ea_nil)) ⟨by show 0 ≤ c + 1; omega, hsm⟩) el_nil) (szl (by simp))) ea_nil))) (szl (by simp))) el_nil) (szl (by simp)))
      (e_callTy (c_tuple (R := sCh) (as := bs.filter fun d => decide (d.first > 1))) L.Cc.tuple (by decide +kernel) (ea_cons (e_lst (ew_filter1 (R := sCh) (as := bs) 5 (fun d => decide (d.first > 1)) scLaw.nd (it_tupl (e_name 4)) (blkOk_by (own := [("_law_change", 5)]) (N := lawN) (sc := defScope sLaw) (by decide +kernel))
        (fun y hy s H _ cl fp => t_cmp (s1 := sInt y.first) o_gt (e_ix (i_tup (ss := [sInt y.first, sInt y.last, sTupl sStr y.words]) 0 rfl rfl) (e_name (s := sCh y) 5) e_int) e_int) (fun y hy _ s H _ cl fp => e_name 5) (szl (by omega)))) ea_nil))) (j_on (go _ _ (c + 1 + 1) aA aB ?_ (by omega))) scLaw.nd
  show (([⟨1, 1, ["a"]⟩] : List Ch) ++ as.filter fun d : Ch => decide (d.first > 1)).length ≤ 4
  (rw [List.length_append, List.length_singleton])
  omega
theorem ok_law {f : Addr} {fd : FuncData} (F : Fun K "law" "law" sLaw f fd) (L : LawC P w K mg base C CP CT CC) : FnOk P w K mg base CX0 8 f fd ["_law_script"] (fsLaw.sp K) := by
  refine fn_okF F scLaw (fun _ => rfl) fun xs cdv A outer s G H D EE hr hp hf hn => ?_
  have hr7 : Room 7 _ := hr
  have hr6 : Room 6 _ := hr.mono (by decide)
  have hr3 : Room 3 _ := hr.mono (by decide)
  refine j_setW (O1 := []) 1 (ew_lstS (ss := [sLst sInt (lawNs xs), sInt 0, sInt 0]) (ea_cons (e_lst (ew_sliceK (e_name 0) po_n (po_s e_int))) (ea_cons e_int (ea_cons e_int ea_nil))) (szl (by simp))) (fun dr hdr => ?_) scLaw.nd
  generalize lawNs xs = ns
  have b1 : 0 ≤ nextV ns 0 6 ∧ nextV ns 0 6 < 6 := ⟨nextV_lo (by decide), nextV_hi (by decide)⟩
  refine j_set 2 (O1 := [dO dr ns (0 + 1)]) (s := sInt (4 + nextV ns 0 6)) (e_bin o_add e_int (e_call (S := fsNext) (O2 := []) (dr, ns, 0, 6) L.FN hr3 L.gN (ea_cons (e_name 1) (ea_cons e_int ea_nil)) (by show (0 : Int) ≤ 0 ∧ (0 : Int) < 6; omega))) ?_ scLaw.nd
  have hm : 4 ≤ 4 + nextV ns 0 6 ∧ 4 + nextV ns 0 6 ≤ 9 := by omega
  generalize 4 + nextV ns 0 6 = many at hm
  have k1 := chEnd_ok (ns := ns) (c := 0 + 1) (many := many) (by decide)
  obtain ⟨S1, hS1⟩ : ∃ S, S = chEnd ns (0 + 1) many := ⟨_, rfl⟩
  rw [← hS1] at k1
  have c1 := k1.c0
  have k2 := chEnd_ok (ns := ns) (c := S1.c) (many := many) c1
  obtain ⟨S2, hS2⟩ : ∃ S, S = chEnd ns S1.c many := ⟨_, rfl⟩
  rw [← hS2] at k2
  have c2 := k2.c0
  refine j_parC 3 4 (s1 := sTupl sCh S1.cs) (s2 := sTupl sCh S2.cs) (O1 := [dO dr ns S1.c]) (O2 := [dO dr ns S2.c])
    (e_callR (S := fsChangesD) (O2 := []) ⟨dr, ns, 0 + 1, many⟩ L.FH hr6 L.gH (ea_cons (O1 := [dO dr ns (0 + 1)]) (e_name 1) (ea_cons (O1 := [dO dr ns (0 + 1)]) (e_name 2) ea_nil)) (by show (0 : Int) ≤ 0 + 1; decide) (by rw [hS1]; rfl) (by rw [hS1]; rfl))
    (e_callR (S := fsChangesD) (O2 := []) ⟨dr, ns, S1.c, many⟩ L.FH hr6 L.gH (ea_cons (O1 := [dO dr ns S1.c]) (e_name 1) (ea_cons (O1 := [dO dr ns S1.c]) (e_name 2) ea_nil)) c1 (by rw [hS2]; rfl) (by rw [hS2]; rfl)) ?_ scLaw.nd
  have hA := k1.hand
  have hB := k2.hand
  have h3 := k1.few
  have h3b := k2.few
  clear hS2 k2 hS1 k1
  generalize S1.cs = as at hA h3
  generalize S2.cs = bs at hB h3b
  generalize S2.c = c at c2
  have cs1 : SmallC as := hA.small.1
  by_cases hnil : as = []
  · refine j_if (O1 := [dO dr ns c]) (u := false) (t_w (tw_andF (t_eq (t_cmp (o_neCh (as := as) (bs := []) hr cs1.str (fun _ h => nomatch h)) (e_name 3) (e_tupl (R := sCh) (as := []) el_nil (szl (by simp)))) (by simp [hnil])))) (fun h => nomatch h) (fun _ => j_on ?_)
    exact law_a4 L hr hf hA hB h3 (by omega) c2 hm.1 hm.2
  · obtain ⟨a, r, har⟩ := List.exists_cons_of_ne_nil hnil
    refine j_if (O1 := [dO dr ns (c + 1)]) (t_w (tw_andN (O1 := [dO dr ns c]) (t_eq (t_cmp (o_neCh (as := as) (bs := []) hr cs1.str (fun _ h => nomatch h)) (e_name 3) (e_tupl (R := sCh) (as := []) el_nil (szl (by simp)))) (by simp [hnil])) (tw_and1 (t_cmp o_eq (e_call (S := fsNext) (O2 := []) (dr, ns, c, 3) L.FN hr3 L.gN (ea_cons (e_name 1) (ea_cons e_int ea_nil)) (by show 0 ≤ c ∧ (0 : Int) < 3; omega)) e_int)))) (fun h => ?_) (fun h => j_on ?_)
    · have am : a ∈ as := by rw [har]; exact List.mem_cons_self
      have an := good_ne1 hA.good a am
      have aB := hand_front (a := a) an (hA.lo a am) (hA.ends a am) (hA.words a am) hB (by omega)
      have lb := List.length_filter_le (fun d : Ch => decide (d.first > a.last)) bs
      have ha0 : atI as 0 = some a := by rw [har]; exact atI0
      refine j_set 4 (O1 := [dO dr ns (c + 1)]) (s := sTupl sCh ([a] ++ bs.filter fun d => decide (d.first > a.last))) (e_bin (o_addT (R := sCh) (as := [a]) (bs := bs.filter fun d => decide (d.first > a.last)) (by simp only [List.length_singleton]; omega)) (e_tupl (R := sCh) (as := [a]) (el_cons (e_ix (i_tupl (R := sCh) (as := as) (y := a) ha0) (e_name 3) e_int) el_nil) (szl (by simp)))
        (e_callTy (c_tuple (R := sCh) (as := bs.filter fun d => decide (d.first > a.last))) L.Cc.tuple (by decide +kernel) (ea_cons (e_lst (ew_filter1 (R := sCh) (as := bs) 5 (fun d => decide (d.first > a.last)) scLaw.nd (it_tupl (e_name 4)) (blkOk_by (own := [("_law_change", 5)]) (N := lawN) (sc := defScope sLaw) (by decide +kernel))
          (fun y hy s H _ cl fp => t_cmp (s1 := sInt y.first) (s2 := sInt a.last) o_gt (e_ix (i_tup (ss := [sInt y.first, sInt y.last, sTupl sStr y.words]) 0 rfl rfl) (e_name (s := sCh y) 5) e_int) (e_ix (i_tup (ss := [sInt a.first, sInt a.last, sTupl sStr a.words]) 1 rfl rfl) (e_ix (i_tupl (R := sCh) (as := as) (y := a) ha0) (e_name 3) e_int) e_int)) (fun y hy _ s H _ cl fp => e_name 5) (szl (by omega)))) ea_nil))) (j_on ?_) scLaw.nd
      exact law_a4 L hr hf hA aB h3 (by rw [List.length_append, List.length_singleton]; omega) (by omega) hm.1 hm.2
    · exact law_a4 L hr hf hA hB h3 (by omega) (by omega) hm.1 hm.2
end
end K51

namespace K51
open PySem L2 Gd
theorem all_mk {l : PySem.W.OpenLaw} {w : World} {K : PySem.W.Frag} {h : Heap} {mg : Str → Option Value} {fa : Addr} (X : K.In h) (G : h.Ns mainGlobals mg) (hfa : mg "law" = some (.ref fa))
    {fw : Addr} {odw anw : Option Addr} {slw : Array (Option Value)} {ocw kVw dcw pmw cdw ctw : Value}
    {ftk : Addr} {odtk antk : Option Addr} {sltk : Array (Option Value)} {octk kVtk dctk pmtk cdtk cttk : Value}
    {fk : Addr} {odk ank : Option Addr} {slk : Array (Option Value)} {ock dck pmk cdk ctk : Value}
    {fcr : Addr} {odcr ancr : Option Addr} {slcr : Array (Option Value)} {occr kVcr dccr pmcr cdcr ctcr : Value}
    {fck : Addr} {odck anck : Option Addr} {slck : Array (Option Value)} {occk kVck dcck pmck cdck ctck : Value}
    {far : Addr} {odar anar : Option Addr} {slar : Array (Option Value)} {ocar kVar dcar pmar cdar ctar : Value}
    {fjo : Addr} {odjo anjo : Option Addr} {sljo : Array (Option Value)} {ocjo kVjo dcjo pmjo cdjo ctjo : Value}
    {fpt : Addr} {odpt anpt : Option Addr} {slpt : Array (Option Value)} {ocpt kVpt dcpt pmpt cdpt ctpt : Value}
    {fcp : Addr} {odcp ancp : Option Addr} {slcp : Array (Option Value)} {occp kVcp dccp pmcp cdcp ctcp : Value}
    {fbe : Addr} {odbe anbe : Option Addr} {slbe : Array (Option Value)} {ocbe kVbe dcbe pmbe cdbe ctbe : Value}
    {fgw : Addr} {odgw angw : Option Addr} {slgw : Array (Option Value)} {ocgw kVgw dcgw pmgw cdgw ctgw : Value}
    {fmo : Addr} {odmo anmo : Option Addr} {slmo : Array (Option Value)} {ocmo kVmo dcmo pmmo cdmo ctmo : Value}
    {fgo : Addr} {odgo ango : Option Addr} {slgo : Array (Option Value)} {ocgo kVgo dcgo pmgo cdgo ctgo : Value}
    {fca : Addr} {odca anca : Option Addr} {slca : Array (Option Value)} {occa kVca dcca pmca cdca ctca : Value}
    {ftg : Addr} {odtg antg : Option Addr} {sltg : Array (Option Value)} {octg kVtg dctg pmtg cdtg cttg : Value}
    {fsd : Addr} {odsd ansd : Option Addr} {slsd : Array (Option Value)} {ocsd kVsd dcsd pmsd cdsd ctsd : Value}
    {fat : Addr} {odat anat : Option Addr} {slat : Array (Option Value)} {ocat kVat dcat pmat cdat ctat : Value}
    {fce : Addr} {odce ance : Option Addr} {slce : Array (Option Value)} {occe kVce dcce pmce cdce ctce : Value}
    {fdr : Addr} {oddr andr : Option Addr} {sldr : Array (Option Value)} {ocdr kVdr dcdr pmdr cddr ctdr : Value}
    {fnu : Addr} {odnu annu : Option Addr} {slnu : Array (Option Value)} {ocnu kVnu dcnu pmnu cdnu ctnu : Value}
    {fne : Addr} {odne anne : Option Addr} {slne : Array (Option Value)} {ocne kVne dcne pmne cdne ctne : Value}
    {fpi : Addr} {odpi anpi : Option Addr} {slpi : Array (Option Value)} {ocpi kVpi dcpi pmpi cdpi ctpi : Value}
    {fwo : Addr} {odwo anwo : Option Addr} {slwo : Array (Option Value)} {ocwo kVwo dcwo pmwo cdwo ctwo : Value}
    {fch : Addr} {odch anch : Option Addr} {slch : Array (Option Value)} {occh kVch dcch pmch cdch ctch : Value}
    {ffi : Addr} {odfi anfi : Option Addr} {slfi : Array (Option Value)} {ocfi kVfi dcfi pmfi cdfi ctfi : Value}
    {fwv : Addr} {odwv anwv : Option Addr} {slwv : Array (Option Value)} {ocwv kVwv dcwv pmwv cdwv ctwv : Value}
    {fla : Addr} {odla anla : Option Addr} {slla : Array (Option Value)} {ocla kVla dcla pmla cdla ctla : Value}
    {fEI : Addr} {odEI anEI : Option Addr} {slEI : Array (Option Value)} {ocEI kVEI dcEI pmEI cdEI ctEI : Value}
    {fEA : Addr} {odEA anEA : Option Addr} {slEA : Array (Option Value)} {ocEA kVEA dcEA pmEA cdEA ctEA : Value}
    {fEG : Addr} {odEG anEG : Option Addr} {slEG : Array (Option Value)} {ocEG kVEG dcEG pmEG cdEG ctEG : Value}
    {fPI : Addr} {odPI anPI : Option Addr} {slPI : Array (Option Value)} {ocPI kVPI dcPI pmPI cdPI ctPI : Value}
    {fPQ : Addr} {odPQ anPQ : Option Addr} {slPQ : Array (Option Value)} {ocPQ kVPQ dcPQ pmPQ cdPQ ctPQ : Value}
    {fPC : Addr} {odPC anPC : Option Addr} {slPC : Array (Option Value)} {ocPC kVPC dcPC pmPC cdPC ctPC : Value}
    {fPG : Addr} {odPG anPG : Option Addr} {slPG : Array (Option Value)} {ocPG kVPG dcPG pmPG cdPG ctPG : Value}
    {fPE : Addr} {odPE anPE : Option Addr} {slPE : Array (Option Value)} {ocPE kVPE dcPE pmPE cdPE ctPE : Value}
    {fQI : Addr} {odQI anQI : Option Addr} {slQI : Array (Option Value)} {ocQI kVQI dcQI pmQI cdQI ctQI : Value}
    {fQC : Addr} {odQC anQC : Option Addr} {slQC : Array (Option Value)} {ocQC kVQC dcQC pmQC cdQC ctQC : Value}
    {fQS : Addr} {odQS anQS : Option Addr} {slQS : Array (Option Value)} {ocQS kVQS dcQS pmQS cdQS ctQS : Value}
    {fQP : Addr} {odQP anQP : Option Addr} {slQP : Array (Option Value)} {ocQP kVQP dcQP pmQP cdQP ctQP : Value}
    {fQE : Addr} {odQE anQE : Option Addr} {slQE : Array (Option Value)} {ocQE kVQE dcQE pmQE cdQE ctQE : Value}
    {fQT : Addr} {odQT anQT : Option Addr} {slQT : Array (Option Value)} {ocQT kVQT dcQT pmQT cdQT ctQT : Value}
    {fTI : Addr} {odTI anTI : Option Addr} {slTI : Array (Option Value)} {ocTI kVTI dcTI pmTI cdTI ctTI : Value}
    {fTQ : Addr} {odTQ anTQ : Option Addr} {slTQ : Array (Option Value)} {ocTQ kVTQ dcTQ pmTQ cdTQ ctTQ : Value}
    {fTB : Addr} {odTB anTB : Option Addr} {slTB : Array (Option Value)} {ocTB kVTB dcTB pmTB cdTB ctTB : Value}
    {fLI : Addr} {odLI anLI : Option Addr} {slLI : Array (Option Value)} {ocLI kVLI dcLI pmLI cdLI ctLI : Value}
    {fLQ : Addr} {odLQ anLQ : Option Addr} {slLQ : Array (Option Value)} {ocLQ kVLQ dcLQ pmLQ cdLQ ctLQ : Value}
    {fLB : Addr} {odLB anLB : Option Addr} {slLB : Array (Option Value)} {ocLB kVLB dcLB pmLB cdLB ctLB : Value}
    {C CP CQ CT CC Dk aK aS : Addr} {odK odS : Option Addr} {slK slS : Array (Option Value)} {itK itS : Array Value} {nK nS : Nat} {tL tN tM tE fo1 ro1 : _}
    {nmCP : Str} {qCP : Str} {NNCP : Addr} {bsCP bmCP : List Value} {hd0CP snCP subCP abCP colCP ddCP k0CP k1CP k2CP k3CP k5CP id0CP : _}
    {nmCT : Str} {qCT : Str} {NNCT : Addr} {bsCT bmCT : List Value} {hd0CT snCT subCT abCT colCT ddCT k0CT k1CT k2CT k3CT k5CT id0CT : _}
    {nmCC : Str} {qCC : Str} {NNCC : Addr} {bsCC bmCC : List Value} {hd0CC snCC subCC abCC colCC ddCC k0CC k1CC k2CC k3CC k5CC id0CC : _}
    (na_w : PySem.W.nsIn K mainGlobals "is_word" = some (some (.ref fw)))
    (nl_w : K.lookup fw = some ⟨ocw, odw, .func (PySem.W.fnOf "is_word" "is_word" (defArgs sIsWord) (defBody sIsWord) (defScope sIsWord) .none kVw dcw pmw anw cdw ctw), slw⟩)
    (nc_w : PySem.W.codeIn K cdw "is_word" = true)
    (nk_w : PySem.W.keepIn K (.ref fw) = true)
    (na_tk : PySem.W.nsIn K mainGlobals "is_token" = some (some (.ref ftk)))
    (nl_tk : K.lookup ftk = some ⟨octk, odtk, .func (PySem.W.fnOf "is_token" "is_token" (defArgs sIsToken) (defBody sIsToken) (defScope sIsToken) .none kVtk dctk pmtk antk cdtk cttk), sltk⟩)
    (nc_tk : PySem.W.codeIn K cdtk "is_token" = true)
    (nk_tk : PySem.W.keepIn K (.ref ftk) = true)
    (na_k : PySem.W.nsIn K mainGlobals "check_words" = some (some (.ref fk)))
    (nl_k : K.lookup fk = some ⟨ock, odk, .func (PySem.W.fnOf "check_words" "check_words" (defArgs sCheck) (defBody sCheck) (defScope sCheck) .none (.ref Dk) dck pmk ank cdk ctk), slk⟩)
    (nc_k : PySem.W.codeIn K cdk "check_words" = true)
    (nk_k : PySem.W.keepIn K (.ref fk) = true)
    (na_cr : PySem.W.nsIn K mainGlobals "carried" = some (some (.ref fcr)))
    (nl_cr : K.lookup fcr = some ⟨occr, odcr, .func (PySem.W.fnOf "carried" "carried" (defArgs sCarried) (defBody sCarried) (defScope sCarried) .none kVcr dccr pmcr ancr cdcr ctcr), slcr⟩)
    (nc_cr : PySem.W.codeIn K cdcr "carried" = true)
    (nk_cr : PySem.W.keepIn K (.ref fcr) = true)
    (na_ck : PySem.W.nsIn K mainGlobals "check_edits" = some (some (.ref fck)))
    (nl_ck : K.lookup fck = some ⟨occk, odck, .func (PySem.W.fnOf "check_edits" "check_edits" (defArgs sCheckEdits) (defBody sCheckEdits) (defScope sCheckEdits) .none kVck dcck pmck anck cdck ctck), slck⟩)
    (nc_ck : PySem.W.codeIn K cdck "check_edits" = true)
    (nk_ck : PySem.W.keepIn K (.ref fck) = true)
    (na_ar : PySem.W.nsIn K mainGlobals "are_changes" = some (some (.ref far)))
    (nl_ar : K.lookup far = some ⟨ocar, odar, .func (PySem.W.fnOf "are_changes" "are_changes" (defArgs sAre) (defBody sAre) (defScope sAre) .none kVar dcar pmar anar cdar ctar), slar⟩)
    (nc_ar : PySem.W.codeIn K cdar "are_changes" = true)
    (nk_ar : PySem.W.keepIn K (.ref far) = true)
    (na_jo : PySem.W.nsIn K mainGlobals "joined" = some (some (.ref fjo)))
    (nl_jo : K.lookup fjo = some ⟨ocjo, odjo, .func (PySem.W.fnOf "joined" "joined" (defArgs sJoined) (defBody sJoined) (defScope sJoined) .none kVjo dcjo pmjo anjo cdjo ctjo), sljo⟩)
    (nc_jo : PySem.W.codeIn K cdjo "joined" = true)
    (nk_jo : PySem.W.keepIn K (.ref fjo) = true)
    (na_pt : PySem.W.nsIn K mainGlobals "patch" = some (some (.ref fpt)))
    (nl_pt : K.lookup fpt = some ⟨ocpt, odpt, .func (PySem.W.fnOf "patch" "patch" (defArgs sPatch) (defBody sPatch) (defScope sPatch) .none kVpt dcpt pmpt anpt cdpt ctpt), slpt⟩)
    (nc_pt : PySem.W.codeIn K cdpt "patch" = true)
    (nk_pt : PySem.W.keepIn K (.ref fpt) = true)
    (na_cp : PySem.W.nsIn K mainGlobals "check_patch" = some (some (.ref fcp)))
    (nl_cp : K.lookup fcp = some ⟨occp, odcp, .func (PySem.W.fnOf "check_patch" "check_patch" (defArgs sCheckPatch) (defBody sCheckPatch) (defScope sCheckPatch) .none kVcp dccp pmcp ancp cdcp ctcp), slcp⟩)
    (nc_cp : PySem.W.codeIn K cdcp "check_patch" = true)
    (nk_cp : PySem.W.keepIn K (.ref fcp) = true)
    (na_be : PySem.W.nsIn K mainGlobals "behind" = some (some (.ref fbe)))
    (nl_be : K.lookup fbe = some ⟨ocbe, odbe, .func (PySem.W.fnOf "behind" "behind" (defArgs sBehind) (defBody sBehind) (defScope sBehind) .none kVbe dcbe pmbe anbe cdbe ctbe), slbe⟩)
    (nc_be : PySem.W.codeIn K cdbe "behind" = true)
    (nk_be : PySem.W.keepIn K (.ref fbe) = true)
    (na_gw : PySem.W.nsIn K mainGlobals "goes_with" = some (some (.ref fgw)))
    (nl_gw : K.lookup fgw = some ⟨ocgw, odgw, .func (PySem.W.fnOf "goes_with" "goes_with" (defArgs sGoes) (defBody sGoes) (defScope sGoes) .none kVgw dcgw pmgw angw cdgw ctgw), slgw⟩)
    (nc_gw : PySem.W.codeIn K cdgw "goes_with" = true)
    (nk_gw : PySem.W.keepIn K (.ref fgw) = true)
    (na_mo : PySem.W.nsIn K mainGlobals "moved" = some (some (.ref fmo)))
    (nl_mo : K.lookup fmo = some ⟨ocmo, odmo, .func (PySem.W.fnOf "moved" "moved" (defArgs sMoved) (defBody sMoved) (defScope sMoved) .none kVmo dcmo pmmo anmo cdmo ctmo), slmo⟩)
    (nc_mo : PySem.W.codeIn K cdmo "moved" = true)
    (nk_mo : PySem.W.keepIn K (.ref fmo) = true)
    (na_go : PySem.W.nsIn K mainGlobals "growth_of" = some (some (.ref fgo)))
    (nl_go : K.lookup fgo = some ⟨ocgo, odgo, .func (PySem.W.fnOf "growth_of" "growth_of" (defArgs sGrowthOf) (defBody sGrowthOf) (defScope sGrowthOf) .none kVgo dcgo pmgo ango cdgo ctgo), slgo⟩)
    (nc_go : PySem.W.codeIn K cdgo "growth_of" = true)
    (nk_go : PySem.W.keepIn K (.ref fgo) = true)
    (na_ca : PySem.W.nsIn K mainGlobals "comes_ahead" = some (some (.ref fca)))
    (nl_ca : K.lookup fca = some ⟨occa, odca, .func (PySem.W.fnOf "comes_ahead" "comes_ahead" (defArgs sComes) (defBody sComes) (defScope sComes) .none kVca dcca pmca anca cdca ctca), slca⟩)
    (nc_ca : PySem.W.codeIn K cdca "comes_ahead" = true)
    (nk_ca : PySem.W.keepIn K (.ref fca) = true)
    (na_tg : PySem.W.nsIn K mainGlobals "together" = some (some (.ref ftg)))
    (nl_tg : K.lookup ftg = some ⟨octg, odtg, .func (PySem.W.fnOf "together" "together" (defArgs sTog) (defBody sTog) (defScope sTog) .none kVtg dctg pmtg antg cdtg cttg), sltg⟩)
    (nc_tg : PySem.W.codeIn K cdtg "together" = true)
    (nk_tg : PySem.W.keepIn K (.ref ftg) = true)
    (na_sd : PySem.W.nsIn K mainGlobals "side_by_side" = some (some (.ref fsd)))
    (nl_sd : K.lookup fsd = some ⟨ocsd, odsd, .func (PySem.W.fnOf "side_by_side" "side_by_side" (defArgs sSide) (defBody sSide) (defScope sSide) .none kVsd dcsd pmsd ansd cdsd ctsd), slsd⟩)
    (nc_sd : PySem.W.codeIn K cdsd "side_by_side" = true)
    (nk_sd : PySem.W.keepIn K (.ref fsd) = true)
    (na_at : PySem.W.nsIn K mainGlobals "all_together" = some (some (.ref fat)))
    (nl_at : K.lookup fat = some ⟨ocat, odat, .func (PySem.W.fnOf "all_together" "all_together" (defArgs sAllT) (defBody sAllT) (defScope sAllT) .none kVat dcat pmat anat cdat ctat), slat⟩)
    (nc_at : PySem.W.codeIn K cdat "all_together" = true)
    (nk_at : PySem.W.keepIn K (.ref fat) = true)
    (na_ce : PySem.W.nsIn K mainGlobals "_law_cell_at" = some (some (.ref fce)))
    (nl_ce : K.lookup fce = some ⟨occe, odce, .func (PySem.W.fnOf "_law_cell_at" "_law_cell_at" (defArgs sCell) (defBody sCell) (defScope sCell) .none kVce dcce pmce ance cdce ctce), slce⟩)
    (nc_ce : PySem.W.codeIn K cdce "_law_cell_at" = true)
    (nk_ce : PySem.W.keepIn K (.ref fce) = true)
    (na_dr : PySem.W.nsIn K mainGlobals "_law_draw" = some (some (.ref fdr)))
    (nl_dr : K.lookup fdr = some ⟨ocdr, oddr, .func (PySem.W.fnOf "_law_draw" "_law_draw" (defArgs sDraw) (defBody sDraw) (defScope sDraw) .none kVdr dcdr pmdr andr cddr ctdr), sldr⟩)
    (nc_dr : PySem.W.codeIn K cddr "_law_draw" = true)
    (nk_dr : PySem.W.keepIn K (.ref fdr) = true)
    (na_nu : PySem.W.nsIn K mainGlobals "_law_number" = some (some (.ref fnu)))
    (nl_nu : K.lookup fnu = some ⟨ocnu, odnu, .func (PySem.W.fnOf "_law_number" "_law_number" (defArgs sNumber) (defBody sNumber) (defScope sNumber) .none kVnu dcnu pmnu annu cdnu ctnu), slnu⟩)
    (nc_nu : PySem.W.codeIn K cdnu "_law_number" = true)
    (nk_nu : PySem.W.keepIn K (.ref fnu) = true)
    (na_ne : PySem.W.nsIn K mainGlobals "_law_next" = some (some (.ref fne)))
    (nl_ne : K.lookup fne = some ⟨ocne, odne, .func (PySem.W.fnOf "_law_next" "_law_next" (defArgs sNext) (defBody sNext) (defScope sNext) .none kVne dcne pmne anne cdne ctne), slne⟩)
    (nc_ne : PySem.W.codeIn K cdne "_law_next" = true)
    (nk_ne : PySem.W.keepIn K (.ref fne) = true)
    (na_pi : PySem.W.nsIn K mainGlobals "_law_pick" = some (some (.ref fpi)))
    (nl_pi : K.lookup fpi = some ⟨ocpi, odpi, .func (PySem.W.fnOf "_law_pick" "_law_pick" (defArgs sPick) (defBody sPick) (defScope sPick) .none kVpi dcpi pmpi anpi cdpi ctpi), slpi⟩)
    (nc_pi : PySem.W.codeIn K cdpi "_law_pick" = true)
    (nk_pi : PySem.W.keepIn K (.ref fpi) = true)
    (na_wo : PySem.W.nsIn K mainGlobals "_law_words" = some (some (.ref fwo)))
    (nl_wo : K.lookup fwo = some ⟨ocwo, odwo, .func (PySem.W.fnOf "_law_words" "_law_words" (defArgs sWordsD) (defBody sWordsD) (defScope sWordsD) .none kVwo dcwo pmwo anwo cdwo ctwo), slwo⟩)
    (nc_wo : PySem.W.codeIn K cdwo "_law_words" = true)
    (nk_wo : PySem.W.keepIn K (.ref fwo) = true)
    (na_ch : PySem.W.nsIn K mainGlobals "_law_changes" = some (some (.ref fch)))
    (nl_ch : K.lookup fch = some ⟨occh, odch, .func (PySem.W.fnOf "_law_changes" "_law_changes" (defArgs sChangesD) (defBody sChangesD) (defScope sChangesD) .none kVch dcch pmch anch cdch ctch), slch⟩)
    (nc_ch : PySem.W.codeIn K cdch "_law_changes" = true)
    (nk_ch : PySem.W.keepIn K (.ref fch) = true)
    (na_fi : PySem.W.nsIn K mainGlobals "_law_fit" = some (some (.ref ffi)))
    (nl_fi : K.lookup ffi = some ⟨ocfi, odfi, .func (PySem.W.fnOf "_law_fit" "_law_fit" (defArgs sFitD) (defBody sFitD) (defScope sFitD) .none kVfi dcfi pmfi anfi cdfi ctfi), slfi⟩)
    (nc_fi : PySem.W.codeIn K cdfi "_law_fit" = true)
    (nk_fi : PySem.W.keepIn K (.ref ffi) = true)
    (na_wv : PySem.W.nsIn K mainGlobals "_law_weave" = some (some (.ref fwv)))
    (nl_wv : K.lookup fwv = some ⟨ocwv, odwv, .func (PySem.W.fnOf "_law_weave" "_law_weave" (defArgs sWeaveD) (defBody sWeaveD) (defScope sWeaveD) .none kVwv dcwv pmwv anwv cdwv ctwv), slwv⟩)
    (nc_wv : PySem.W.codeIn K cdwv "_law_weave" = true)
    (nk_wv : PySem.W.keepIn K (.ref fwv) = true)
    (na_la : PySem.W.nsIn K mainGlobals "law" = some (some (.ref fla)))
    (nl_la : K.lookup fla = some ⟨ocla, odla, .func (PySem.W.fnOf "law" "law" (defArgs sLaw) (defBody sLaw) (defScope sLaw) .none kVla dcla pmla anla cdla ctla), slla⟩)
    (nc_la : PySem.W.codeIn K cdla "law" = true)
    (nk_la : PySem.W.keepIn K (.ref fla) = true)
    (aC : PySem.W.nsIn K mainGlobals "Edit" = some (some (.ref C)))
    (aCP : PySem.W.nsIn K mainGlobals "Patch" = some (some (.ref CP)))
    (aCQ : PySem.W.nsIn K mainGlobals "Pieces" = some (some (.ref CQ)))
    (aCT : PySem.W.nsIn K mainGlobals "Together" = some (some (.ref CT)))
    (aCC : PySem.W.nsIn K mainGlobals "Clash" = some (some (.ref CC)))
    (na_EI : PySem.W.findIn K (.ref C) "__init__" = some (some (.ref fEI)))
    (ni_EI : PySem.W.isFn K (.ref fEI) = true)
    (nl_EI : K.lookup fEI = some ⟨ocEI, odEI, .func (PySem.W.fnOf "__init__" "Edit.__init__" (defArgs sInit) (defBody sInit) (defScope sInit) .none kVEI dcEI pmEI anEI cdEI ctEI), slEI⟩)
    (nc_EI : PySem.W.codeIn K cdEI "Edit.__init__" = true)
    (nk_EI : PySem.W.keepIn K (.ref fEI) = true)
    (na_EA : PySem.W.findIn K (.ref C) "__add__" = some (some (.ref fEA)))
    (ni_EA : PySem.W.isFn K (.ref fEA) = true)
    (nl_EA : K.lookup fEA = some ⟨ocEA, odEA, .func (PySem.W.fnOf "__add__" "Edit.__add__" (defArgs sAdd) (defBody sAdd) (defScope sAdd) .none kVEA dcEA pmEA anEA cdEA ctEA), slEA⟩)
    (nc_EA : PySem.W.codeIn K cdEA "Edit.__add__" = true)
    (nk_EA : PySem.W.keepIn K (.ref fEA) = true)
    (na_EG : PySem.W.findIn K (.ref C) "growth" = some (some (.ref fEG)))
    (ni_EG : PySem.W.isFn K (.ref fEG) = true)
    (nl_EG : K.lookup fEG = some ⟨ocEG, odEG, .func (PySem.W.fnOf "growth" "Edit.growth" (defArgs sGrowth) (defBody sGrowth) (defScope sGrowth) .none kVEG dcEG pmEG anEG cdEG ctEG), slEG⟩)
    (nc_EG : PySem.W.codeIn K cdEG "Edit.growth" = true)
    (nk_EG : PySem.W.keepIn K (.ref fEG) = true)
    (na_PI : PySem.W.findIn K (.ref CP) "__init__" = some (some (.ref fPI)))
    (ni_PI : PySem.W.isFn K (.ref fPI) = true)
    (nl_PI : K.lookup fPI = some ⟨ocPI, odPI, .func (PySem.W.fnOf "__init__" "Patch.__init__" (defArgs sPInit) (defBody sPInit) (defScope sPInit) .none kVPI dcPI pmPI anPI cdPI ctPI), slPI⟩)
    (nc_PI : PySem.W.codeIn K cdPI "Patch.__init__" = true)
    (nk_PI : PySem.W.keepIn K (.ref fPI) = true)
    (na_PQ : PySem.W.findIn K (.ref CP) "__eq__" = some (some (.ref fPQ)))
    (ni_PQ : PySem.W.isFn K (.ref fPQ) = true)
    (nl_PQ : K.lookup fPQ = some ⟨ocPQ, odPQ, .func (PySem.W.fnOf "__eq__" "Patch.__eq__" (defArgs sPEq) (defBody sPEq) (defScope sPEq) .none kVPQ dcPQ pmPQ anPQ cdPQ ctPQ), slPQ⟩)
    (nc_PQ : PySem.W.codeIn K cdPQ "Patch.__eq__" = true)
    (nk_PQ : PySem.W.keepIn K (.ref fPQ) = true)
    (na_PC : PySem.W.findIn K (.ref CP) "__call__" = some (some (.ref fPC)))
    (ni_PC : PySem.W.isFn K (.ref fPC) = true)
    (nl_PC : K.lookup fPC = some ⟨ocPC, odPC, .func (PySem.W.fnOf "__call__" "Patch.__call__" (defArgs sPCall) (defBody sPCall) (defScope sPCall) .none kVPC dcPC pmPC anPC cdPC ctPC), slPC⟩)
    (nc_PC : PySem.W.codeIn K cdPC "Patch.__call__" = true)
    (nk_PC : PySem.W.keepIn K (.ref fPC) = true)
    (na_PG : PySem.W.findIn K (.ref CP) "growth" = some (some (.ref fPG)))
    (ni_PG : PySem.W.isFn K (.ref fPG) = true)
    (nl_PG : K.lookup fPG = some ⟨ocPG, odPG, .func (PySem.W.fnOf "growth" "Patch.growth" (defArgs sPGrowth) (defBody sPGrowth) (defScope sPGrowth) .none kVPG dcPG pmPG anPG cdPG ctPG), slPG⟩)
    (nc_PG : PySem.W.codeIn K cdPG "Patch.growth" = true)
    (nk_PG : PySem.W.keepIn K (.ref fPG) = true)
    (na_PE : PySem.W.findIn K (.ref CP) "edits" = some (some (.ref fPE)))
    (ni_PE : PySem.W.isFn K (.ref fPE) = true)
    (nl_PE : K.lookup fPE = some ⟨ocPE, odPE, .func (PySem.W.fnOf "edits" "Patch.edits" (defArgs sPEdits) (defBody sPEdits) (defScope sPEdits) .none kVPE dcPE pmPE anPE cdPE ctPE), slPE⟩)
    (nc_PE : PySem.W.codeIn K cdPE "Patch.edits" = true)
    (nk_PE : PySem.W.keepIn K (.ref fPE) = true)
    (na_QI : PySem.W.findIn K (.ref CQ) "__init__" = some (some (.ref fQI)))
    (ni_QI : PySem.W.isFn K (.ref fQI) = true)
    (nl_QI : K.lookup fQI = some ⟨ocQI, odQI, .func (PySem.W.fnOf "__init__" "Pieces.__init__" (defArgs sQInit) (defBody sQInit) (defScope sQInit) .none kVQI dcQI pmQI anQI cdQI ctQI), slQI⟩)
    (nc_QI : PySem.W.codeIn K cdQI "Pieces.__init__" = true)
    (nk_QI : PySem.W.keepIn K (.ref fQI) = true)
    (na_QC : PySem.W.findIn K (.ref CQ) "cut" = some (some (.ref fQC)))
    (ni_QC : PySem.W.isFn K (.ref fQC) = true)
    (nl_QC : K.lookup fQC = some ⟨ocQC, odQC, .func (PySem.W.fnOf "cut" "Pieces.cut" (defArgs sQCut) (defBody sQCut) (defScope sQCut) .none kVQC dcQC pmQC anQC cdQC ctQC), slQC⟩)
    (nc_QC : PySem.W.codeIn K cdQC "Pieces.cut" = true)
    (nk_QC : PySem.W.keepIn K (.ref fQC) = true)
    (na_QS : PySem.W.findIn K (.ref CQ) "size" = some (some (.ref fQS)))
    (ni_QS : PySem.W.isFn K (.ref fQS) = true)
    (nl_QS : K.lookup fQS = some ⟨ocQS, odQS, .func (PySem.W.fnOf "size" "Pieces.size" (defArgs sQSize) (defBody sQSize) (defScope sQSize) .none kVQS dcQS pmQS anQS cdQS ctQS), slQS⟩)
    (nc_QS : PySem.W.codeIn K cdQS "Pieces.size" = true)
    (nk_QS : PySem.W.keepIn K (.ref fQS) = true)
    (na_QP : PySem.W.findIn K (.ref CQ) "parted" = some (some (.ref fQP)))
    (ni_QP : PySem.W.isFn K (.ref fQP) = true)
    (nl_QP : K.lookup fQP = some ⟨ocQP, odQP, .func (PySem.W.fnOf "parted" "Pieces.parted" (defArgs sQParted) (defBody sQParted) (defScope sQParted) .none kVQP dcQP pmQP anQP cdQP ctQP), slQP⟩)
    (nc_QP : PySem.W.codeIn K cdQP "Pieces.parted" = true)
    (nk_QP : PySem.W.keepIn K (.ref fQP) = true)
    (na_QE : PySem.W.findIn K (.ref CQ) "edit" = some (some (.ref fQE)))
    (ni_QE : PySem.W.isFn K (.ref fQE) = true)
    (nl_QE : K.lookup fQE = some ⟨ocQE, odQE, .func (PySem.W.fnOf "edit" "Pieces.edit" (defArgs sQEdit) (defBody sQEdit) (defScope sQEdit) .none kVQE dcQE pmQE anQE cdQE ctQE), slQE⟩)
    (nc_QE : PySem.W.codeIn K cdQE "Pieces.edit" = true)
    (nk_QE : PySem.W.keepIn K (.ref fQE) = true)
    (na_QT : PySem.W.findIn K (.ref CQ) "told" = some (some (.ref fQT)))
    (ni_QT : PySem.W.isFn K (.ref fQT) = true)
    (nl_QT : K.lookup fQT = some ⟨ocQT, odQT, .func (PySem.W.fnOf "told" "Pieces.told" (defArgs sQTold) (defBody sQTold) (defScope sQTold) .none kVQT dcQT pmQT anQT cdQT ctQT), slQT⟩)
    (nc_QT : PySem.W.codeIn K cdQT "Pieces.told" = true)
    (nk_QT : PySem.W.keepIn K (.ref fQT) = true)
    (na_TI : PySem.W.findIn K (.ref CT) "__init__" = some (some (.ref fTI)))
    (ni_TI : PySem.W.isFn K (.ref fTI) = true)
    (nl_TI : K.lookup fTI = some ⟨ocTI, odTI, .func (PySem.W.fnOf "__init__" "Together.__init__" (defArgs sTInit) (defBody sTInit) (defScope sTInit) .none kVTI dcTI pmTI anTI cdTI ctTI), slTI⟩)
    (nc_TI : PySem.W.codeIn K cdTI "Together.__init__" = true)
    (nk_TI : PySem.W.keepIn K (.ref fTI) = true)
    (na_TQ : PySem.W.findIn K (.ref CT) "__eq__" = some (some (.ref fTQ)))
    (ni_TQ : PySem.W.isFn K (.ref fTQ) = true)
    (nl_TQ : K.lookup fTQ = some ⟨ocTQ, odTQ, .func (PySem.W.fnOf "__eq__" "Together.__eq__" (defArgs sTEq) (defBody sTEq) (defScope sTEq) .none kVTQ dcTQ pmTQ anTQ cdTQ ctTQ), slTQ⟩)
    (nc_TQ : PySem.W.codeIn K cdTQ "Together.__eq__" = true)
    (nk_TQ : PySem.W.keepIn K (.ref fTQ) = true)
    (na_TB : PySem.W.findIn K (.ref CT) "__bool__" = some (some (.ref fTB)))
    (ni_TB : PySem.W.isFn K (.ref fTB) = true)
    (nl_TB : K.lookup fTB = some ⟨ocTB, odTB, .func (PySem.W.fnOf "__bool__" "Together.__bool__" (defArgs sTBool) (defBody sTBool) (defScope sTBool) .none kVTB dcTB pmTB anTB cdTB ctTB), slTB⟩)
    (nc_TB : PySem.W.codeIn K cdTB "Together.__bool__" = true)
    (nk_TB : PySem.W.keepIn K (.ref fTB) = true)
    (na_LI : PySem.W.findIn K (.ref CC) "__init__" = some (some (.ref fLI)))
    (ni_LI : PySem.W.isFn K (.ref fLI) = true)
    (nl_LI : K.lookup fLI = some ⟨ocLI, odLI, .func (PySem.W.fnOf "__init__" "Clash.__init__" (defArgs sCInit) (defBody sCInit) (defScope sCInit) .none kVLI dcLI pmLI anLI cdLI ctLI), slLI⟩)
    (nc_LI : PySem.W.codeIn K cdLI "Clash.__init__" = true)
    (nk_LI : PySem.W.keepIn K (.ref fLI) = true)
    (na_LQ : PySem.W.findIn K (.ref CC) "__eq__" = some (some (.ref fLQ)))
    (ni_LQ : PySem.W.isFn K (.ref fLQ) = true)
    (nl_LQ : K.lookup fLQ = some ⟨ocLQ, odLQ, .func (PySem.W.fnOf "__eq__" "Clash.__eq__" (defArgs sCEq) (defBody sCEq) (defScope sCEq) .none kVLQ dcLQ pmLQ anLQ cdLQ ctLQ), slLQ⟩)
    (nc_LQ : PySem.W.codeIn K cdLQ "Clash.__eq__" = true)
    (nk_LQ : PySem.W.keepIn K (.ref fLQ) = true)
    (na_LB : PySem.W.findIn K (.ref CC) "__bool__" = some (some (.ref fLB)))
    (ni_LB : PySem.W.isFn K (.ref fLB) = true)
    (nl_LB : K.lookup fLB = some ⟨ocLB, odLB, .func (PySem.W.fnOf "__bool__" "Clash.__bool__" (defArgs sCBool) (defBody sCBool) (defScope sCBool) .none kVLB dcLB pmLB anLB cdLB ctLB), slLB⟩)
    (nc_LB : PySem.W.codeIn K cdLB "Clash.__bool__" = true)
    (nk_LB : PySem.W.keepIn K (.ref fLB) = true)
    (pgC : PySem.W.plainGet K C Str.empty = true)
    (hdC : PySem.W.hasDictIn K C = true)
    (poC : PySem.W.plainOver K C = true)
    (saC : PySem.W.findIn K (.ref C) "__setattr__" = some (some (.builtin "object.__setattr__")))
    (mkC : PySem.W.makesIn K C = true)
    (kcC : PySem.W.keepIn K (.ref C) = true)
    (pgCP : PySem.W.plainGet K CP Str.empty = true)
    (hdCP : PySem.W.hasDictIn K CP = true)
    (poCP : PySem.W.plainOver K CP = true)
    (saCP : PySem.W.findIn K (.ref CP) "__setattr__" = some (some (.builtin "object.__setattr__")))
    (mkCP : PySem.W.makesIn K CP = true)
    (kcCP : PySem.W.keepIn K (.ref CP) = true)
    (pgCQ : PySem.W.plainGet K CQ Str.empty = true)
    (hdCQ : PySem.W.hasDictIn K CQ = true)
    (poCQ : PySem.W.plainOver K CQ = true)
    (saCQ : PySem.W.findIn K (.ref CQ) "__setattr__" = some (some (.builtin "object.__setattr__")))
    (mkCQ : PySem.W.makesIn K CQ = true)
    (kcCQ : PySem.W.keepIn K (.ref CQ) = true)
    (pgCT : PySem.W.plainGet K CT Str.empty = true)
    (hdCT : PySem.W.hasDictIn K CT = true)
    (poCT : PySem.W.plainOver K CT = true)
    (saCT : PySem.W.findIn K (.ref CT) "__setattr__" = some (some (.builtin "object.__setattr__")))
    (mkCT : PySem.W.makesIn K CT = true)
    (kcCT : PySem.W.keepIn K (.ref CT) = true)
    (pgCC : PySem.W.plainGet K CC Str.empty = true)
    (hdCC : PySem.W.hasDictIn K CC = true)
    (poCC : PySem.W.plainOver K CC = true)
    (saCC : PySem.W.findIn K (.ref CC) "__setattr__" = some (some (.builtin "object.__setattr__")))
    (mkCC : PySem.W.makesIn K CC = true)
    (kcCC : PySem.W.keepIn K (.ref CC) = true)
    (nC_first : PySem.W.findIn K (.ref C) "first" = some none)
    (nC_last : PySem.W.findIn K (.ref C) "last" = some none)
    (nC_words : PySem.W.findIn K (.ref C) "words" = some none)
    (nCP_changes : PySem.W.findIn K (.ref CP) "changes" = some none)
    (nCP_least : PySem.W.findIn K (.ref CP) "least" = some none)
    (nCQ_rows : PySem.W.findIn K (.ref CQ) "rows" = some none)
    (nCQ_least : PySem.W.findIn K (.ref CQ) "least" = some none)
    (nCT_whole : PySem.W.findIn K (.ref CT) "whole" = some none)
    (nCT_one : PySem.W.findIn K (.ref CT) "one" = some none)
    (nCT_other : PySem.W.findIn K (.ref CT) "other" = some none)
    (nCC_one : PySem.W.findIn K (.ref CC) "one" = some none)
    (nCC_other : PySem.W.findIn K (.ref CC) "other" = some none)
    (xaC : PySem.W.findIn K (.ref C) "__class__" = some (some (.builtin "object.__class__")))
    (xmC : PySem.W.mroIn K C (.type "object") = some true)
    (xaCP : PySem.W.findIn K (.ref CP) "__class__" = some (some (.builtin "object.__class__")))
    (xmCP : PySem.W.mroIn K CP (.type "object") = some true)
    (xaCT : PySem.W.findIn K (.ref CT) "__class__" = some (some (.builtin "object.__class__")))
    (xmCT : PySem.W.mroIn K CT (.type "object") = some true)
    (xaCC : PySem.W.findIn K (.ref CC) "__class__" = some (some (.builtin "object.__class__")))
    (xmCC : PySem.W.mroIn K CC (.type "object") = some true)
    (xn : PySem.W.specialIn K (.builtin "object.__class__") "__get__" = some (some (.builtin "getset_descriptor.__get__")))
    (xt : PySem.W.takesIn K (.builtin "object.__class__") = some true)
    (xf : PySem.W.fnIn K fPC = true)
    (lOCP : K.lookup CP = some (excClassObj nmCP qCP CP NNCP bsCP bmCP hd0CP snCP subCP abCP colCP ddCP k0CP k1CP k2CP k3CP k5CP id0CP))
    (bOCP : bmCP.contains (.type "object") = true)
    (ne0CP : PySem.W.findIn K (.ref CP) "__ne__" = some (some (.builtin "object.__ne__")))
    (lOCT : K.lookup CT = some (excClassObj nmCT qCT CT NNCT bsCT bmCT hd0CT snCT subCT abCT colCT ddCT k0CT k1CT k2CT k3CT k5CT id0CT))
    (bOCT : bmCT.contains (.type "object") = true)
    (ne0CT : PySem.W.findIn K (.ref CT) "__ne__" = some (some (.builtin "object.__ne__")))
    (lOCC : K.lookup CC = some (excClassObj nmCC qCC CC NNCC bsCC bmCC hd0CC snCC subCC abCC colCC ddCC k0CC k1CC k2CC k3CC k5CC id0CC))
    (bOCC : bmCC.contains (.type "object") = true)
    (ne0CC : PySem.W.findIn K (.ref CC) "__ne__" = some (some (.builtin "object.__ne__")))
    (kTC : PySem.W.kitOne K (.ref CC) (.ref CT) = some false)
    (ah : PySem.W.selfFirst K C = true)
    (ad : PySem.W.findIn K (.ref C) (PySem.dunder "add") = some (some (.ref fEA)))
    (ar : PySem.W.findIn K (.ref C) (PySem.dunderR "add") = some none)
    (a1 : PySem.W.findIn K (.type "int") (PySem.dunder "add") = some fo1)
    (a2 : PySem.W.findIn K (.type "int") (PySem.dunderR "add") = some ro1)
    (as0 : PySem.W.subIn K (.type "int") (.ref C) = some false)
    (gL : PySem.W.nsIn K mainGlobals "LETTERS" = some (some (.str letters tL)))
    (gN : PySem.W.nsIn K mainGlobals "LONGEST" = some (some (.int 10 tN)))
    (gE : PySem.W.nsIn K mainGlobals "MOST_EDITS" = some (some (.int 60 tE)))
    (gK : PySem.W.nsIn K mainGlobals "KEPT" = some (some (.ref aK)))
    (lK : K.lookup aK = some ⟨.type "tuple", odK, .seq itK nK, slK⟩)
    (sK : itK.size ≤ sizeLine)
    (vK : Vals (keptL.map V.str) itK.toList)
    (gS : PySem.W.nsIn K mainGlobals "SIGNS" = some (some (.ref aS)))
    (lS : K.lookup aS = some ⟨.type "tuple", odS, .seq itS nS, slS⟩)
    (sS : itS.size ≤ sizeLine)
    (vS : Vals (signsL.map V.str) itS.toList)
    (dh : PySem.W.nsIn K Dk "hole" = some (some (.bool false)))
    (dm : PySem.W.nsIn K Dk "most" = some (some (.int 200 tM)))
    (zlen : PySem.W.nsIn K mainGlobals "len" = some none)
    (zint : PySem.W.nsIn K mainGlobals "int" = some none)
    (zrange : PySem.W.nsIn K mainGlobals "range" = some none)
    (zall : PySem.W.nsIn K mainGlobals "all" = some none)
    (zisinstance : PySem.W.nsIn K mainGlobals "isinstance" = some none)
    (zstr : PySem.W.nsIn K mainGlobals "str" = some none)
    (zlist : PySem.W.nsIn K mainGlobals "list" = some none)
    (ztuple : PySem.W.nsIn K mainGlobals "tuple" = some none)
    (zbool : PySem.W.nsIn K mainGlobals "bool" = some none)
    (zmin : PySem.W.nsIn K mainGlobals "min" = some none)
    (zmax : PySem.W.nsIn K mainGlobals "max" = some none)
    (zsum : PySem.W.nsIn K mainGlobals "sum" = some none)
    (zenumerate : PySem.W.nsIn K mainGlobals "enumerate" = some none)
    (zset : PySem.W.nsIn K mainGlobals "set" = some none)
    (zsorted : PySem.W.nsIn K mainGlobals "sorted" = some none)
    : ∃ fd : FuncData, (∀ (s : Shared) (v : Value), BindsTo s fd ⟨[v], []⟩ [("_law_script", v)]) ∧ ∀ base : Heap, K.In base → base.Ns mainGlobals mg → FnOk l.prog w K mg base CX0 8 fa fd ["_law_script"] (fsLaw.sp K) := by
  have e := hfa.symm.trans (PySem.W.mg_of X G na_la)
  cases e
  have T : Bt mg := ⟨PySem.W.mg_none_of X G zlen, PySem.W.mg_none_of X G zint, PySem.W.mg_none_of X G zrange⟩
  have Cc : Cs K mg := ⟨⟨_, PySem.W.mg_of X G gL⟩, ⟨_, PySem.W.mg_of X G gN⟩, ⟨_, PySem.W.mg_of X G gK, .ref aK, rfl, fun G => ⟨aK, _, rfl, .inr ⟨_, _, _, lK, rfl, rfl, sK, vK⟩, All2.ofVals _⟩⟩, ⟨_, PySem.W.mg_of X G gS, .ref aS, rfl, fun G => ⟨aS, _, rfl, .inr ⟨_, _, _, lS, rfl, rfl, sS, vS⟩, All2.ofVals _⟩⟩, PySem.W.mg_none_of X G zall, PySem.W.mg_none_of X G zint, PySem.W.mg_none_of X G zisinstance, PySem.W.mg_none_of X G zstr, PySem.W.mg_none_of X G zlist, PySem.W.mg_none_of X G ztuple, PySem.W.mg_none_of X G zbool, PySem.W.mg_none_of X G zmin⟩
  have EC : EdC K mg C := ⟨⟨pgC, hdC, poC, saC⟩, nC_first, nC_last, nC_words, PySem.W.mg_of X G aC⟩
  have PC : PaC K mg CP := ⟨⟨pgCP, hdCP, poCP, saCP⟩, nCP_changes, nCP_least, PySem.W.mg_of X G aCP⟩
  have Q : QC K mg CQ := ⟨⟨pgCQ, hdCQ, poCQ, saCQ⟩, nCQ_rows, nCQ_least, PySem.W.mg_of X G aCQ⟩
  have TC : ToC K mg CT := ⟨⟨pgCT, hdCT, poCT, saCT⟩, nCT_whole, nCT_one, nCT_other, PySem.W.mg_of X G aCT⟩
  have LC : ClC K mg CC := ⟨⟨pgCC, hdCC, poCC, saCC⟩, nCC_one, nCC_other, PySem.W.mg_of X G aCC⟩
  have CI : ClsI K C := ⟨EC.cl, xaC, xn, xt, xmC⟩
  have PI : ClsI K CP := ⟨PC.cl, xaCP, xn, xt, xmCP⟩
  have TI : ClsI K CT := ⟨TC.cl, xaCT, xn, xt, xmCT⟩
  have LI : ClsI K CC := ⟨LC.cl, xaCC, xn, xt, xmCC⟩
  have COCP : ClsO K CP := ⟨_, _, _, _, _, _, _, _, _, _, _, _, _, _, _, _, _, lOCP, bOCP⟩
  have COCT : ClsO K CT := ⟨_, _, _, _, _, _, _, _, _, _, _, _, _, _, _, _, _, lOCT, bOCT⟩
  have COCC : ClsO K CC := ⟨_, _, _, _, _, _, _, _, _, _, _, _, _, _, _, _, _, lOCC, bOCC⟩
  have CA : ClsAdd K C fEA := ⟨ah, ad, ni_EA, ar, ⟨_, a1⟩, ⟨_, a2⟩, as0⟩
  have M : Mk K C fEI := ⟨mkC, na_EI, ni_EI, kcC⟩
  have MP : Mk K CP fPI := ⟨mkCP, na_PI, ni_PI, kcCP⟩
  have MQ : Mk K CQ fQI := ⟨mkCQ, na_QI, ni_QI, kcCQ⟩
  have MT : Mk K CT fTI := ⟨mkCT, na_TI, ni_TI, kcCT⟩
  have ML : Mk K CC fLI := ⟨mkCC, na_LI, ni_LI, kcCC⟩
  have Fw := fun_mk (st := sIsWord) nl_w nc_w nk_w
  have bw := Fw.binds (ps := ["thing"]) fun _ _ _ _ _ _ us hl => match us, hl with | [_], _ => rfl
  have Ftk := fun_mk (st := sIsToken) nl_tk nc_tk nk_tk
  have btk := Ftk.binds (ps := ["thing"]) fun _ _ _ _ _ _ us hl => match us, hl with | [_], _ => rfl
  have kw : ∀ q ∈ kwsCheck, ∃ u, PySem.W.nsIn K Dk q.1 = some (some u) ∧ RelV q.2 u := by
    intro q hq
    (rcases List.mem_cons.mp hq with rfl | hq)
    · exact ⟨_, dh, rfl⟩
    · (rcases List.mem_cons.mp hq with rfl | hq)
      · exact ⟨_, dm, _, rfl⟩
      · cases hq
  have Fk : FunD K "check_words" "check_words" (defArgs sCheck) (defBody sCheck) (defScope sCheck) [] kwsCheck fk _ := ⟨⟨_, _, _, _, _, _, _, _, _, _, rfl, nl_k, nc_k, .inl ⟨rfl, rfl⟩, .inr ⟨Dk, rfl, kw⟩⟩, nk_k⟩
  have bk : ∃ ds, Vals [.bl false, .int 200] ds ∧ Binds K _ ["words", "hole", "most"] ds := Fk.binds0 1 (fun z => nomatch z) rfl fun D doc pm an cdv ct us ks h1 h2 => match us, ks, h1, h2 with | [_], [_, _], _, _ => ⟨_, _, _, _, _, _, rfl, rfl, _, _, _, _, _, _, rfl, rfl, rfl⟩
  have Fcr := fun_mk (st := sCarried) nl_cr nc_cr nk_cr
  have bcr := Fcr.binds (ps := ["one", "other"]) fun _ _ _ _ _ _ us hl => match us, hl with | [_, _], _ => rfl
  have Fck := fun_mk (st := sCheckEdits) nl_ck nc_ck nk_ck
  have bck := Fck.binds (ps := ["edits"]) fun _ _ _ _ _ _ us hl => match us, hl with | [_], _ => rfl
  have Far := fun_mk (st := sAre) nl_ar nc_ar nk_ar
  have bar := Far.binds (ps := ["thing"]) fun _ _ _ _ _ _ us hl => match us, hl with | [_], _ => rfl
  have Fjo := fun_mk (st := sJoined) nl_jo nc_jo nk_jo
  have bjo := Fjo.binds (ps := ["changes"]) fun _ _ _ _ _ _ us hl => match us, hl with | [_], _ => rfl
  have Fpt := fun_mk (st := sPatch) nl_pt nc_pt nk_pt
  have bpt := Fpt.binds (ps := ["edits"]) fun _ _ _ _ _ _ us hl => match us, hl with | [_], _ => rfl
  have Fcp := fun_mk (st := sCheckPatch) nl_cp nc_cp nk_cp
  have bcp := Fcp.binds (ps := ["thing"]) fun _ _ _ _ _ _ us hl => match us, hl with | [_], _ => rfl
  have Fbe := fun_mk (st := sBehind) nl_be nc_be nk_be
  have bbe := Fbe.binds (ps := ["one", "other"]) fun _ _ _ _ _ _ us hl => match us, hl with | [_, _], _ => rfl
  have Fgw := fun_mk (st := sGoes) nl_gw nc_gw nk_gw
  have bgw := Fgw.binds (ps := ["one", "other"]) fun _ _ _ _ _ _ us hl => match us, hl with | [_, _], _ => rfl
  have Fmo := fun_mk (st := sMoved) nl_mo nc_mo nk_mo
  have bmo := Fmo.binds (ps := ["changes", "others"]) fun _ _ _ _ _ _ us hl => match us, hl with | [_, _], _ => rfl
  have Fgo := fun_mk (st := sGrowthOf) nl_go nc_go nk_go
  have bgo := Fgo.binds (ps := ["change"]) fun _ _ _ _ _ _ us hl => match us, hl with | [_], _ => rfl
  have Fca := fun_mk (st := sComes) nl_ca nc_ca nk_ca
  have bca := Fca.binds (ps := ["change", "stretch"]) fun _ _ _ _ _ _ us hl => match us, hl with | [_, _], _ => rfl
  have Ftg := fun_mk (st := sTog) nl_tg nc_tg nk_tg
  have btg := Ftg.binds (ps := ["one", "other"]) fun _ _ _ _ _ _ us hl => match us, hl with | [_, _], _ => rfl
  have Fsd := fun_mk (st := sSide) nl_sd nc_sd nk_sd
  have bsd := Fsd.binds (ps := ["changes"]) fun _ _ _ _ _ _ us hl => match us, hl with | [_], _ => rfl
  have Fat := fun_mk (st := sAllT) nl_at nc_at nk_at
  have bat := Fat.binds (ps := ["patches"]) fun _ _ _ _ _ _ us hl => match us, hl with | [_], _ => rfl
  have Fce := fun_mk (st := sCell) nl_ce nc_ce nk_ce
  have bce := Fce.binds (ps := ["_law_script", "_law_k"]) fun _ _ _ _ _ _ us hl => match us, hl with | [_, _], _ => rfl
  have Fdr := fun_mk (st := sDraw) nl_dr nc_dr nk_dr
  have bdr := Fdr.binds (ps := ["_law_cell", "_law_k", "_law_bound"]) fun _ _ _ _ _ _ us hl => match us, hl with | [_, _, _], _ => rfl
  have Fnu := fun_mk (st := sNumber) nl_nu nc_nu nk_nu
  have bnu := Fnu.binds (ps := ["_law_cell", "_law_k", "_law_bound"]) fun _ _ _ _ _ _ us hl => match us, hl with | [_, _, _], _ => rfl
  have Fne := fun_mk (st := sNext) nl_ne nc_ne nk_ne
  have bne := Fne.binds (ps := ["_law_draw_here", "_law_bound"]) fun _ _ _ _ _ _ us hl => match us, hl with | [_, _], _ => rfl
  have Fpi := fun_mk (st := sPick) nl_pi nc_pi nk_pi
  have bpi := Fpi.binds (ps := ["_law_draw_here", "_law_things"]) fun _ _ _ _ _ _ us hl => match us, hl with | [_, _], _ => rfl
  have Fwo := fun_mk (st := sWordsD) nl_wo nc_wo nk_wo
  have bwo := Fwo.binds (ps := ["_law_draw_here", "_law_many"]) fun _ _ _ _ _ _ us hl => match us, hl with | [_, _], _ => rfl
  have Fch := fun_mk (st := sChangesD) nl_ch nc_ch nk_ch
  have bch := Fch.binds (ps := ["_law_draw_here", "_law_many"]) fun _ _ _ _ _ _ us hl => match us, hl with | [_, _], _ => rfl
  have Ffi := fun_mk (st := sFitD) nl_fi nc_fi nk_fi
  have bfi := Ffi.binds (ps := ["_law_one", "_law_other"]) fun _ _ _ _ _ _ us hl => match us, hl with | [_, _], _ => rfl
  have Fwv := fun_mk (st := sWeaveD) nl_wv nc_wv nk_wv
  have bwv := Fwv.binds (ps := ["_law_draw_here", "_law_changes_here", "_law_words_here"]) fun _ _ _ _ _ _ us hl => match us, hl with | [_, _, _], _ => rfl
  have Fla := fun_mk (st := sLaw) nl_la nc_la nk_la
  have FEI := fun_mk (st := sInit) nl_EI nc_EI nk_EI
  have bEI := FEI.binds (ps := ["self", "first", "last", "words"]) fun _ _ _ _ _ _ us hl => match us, hl with | [_, _, _, _], _ => rfl
  have FEA := fun_mk (st := sAdd) nl_EA nc_EA nk_EA
  have bEA := FEA.binds (ps := ["self", "many"]) fun _ _ _ _ _ _ us hl => match us, hl with | [_, _], _ => rfl
  have FEG := fun_mk (st := sGrowth) nl_EG nc_EG nk_EG
  have bEG := FEG.binds (ps := ["self"]) fun _ _ _ _ _ _ us hl => match us, hl with | [_], _ => rfl
  have FPI := fun_mk (st := sPInit) nl_PI nc_PI nk_PI
  have bPI := FPI.binds (ps := ["self", "changes", "least"]) fun _ _ _ _ _ _ us hl => match us, hl with | [_, _, _], _ => rfl
  have FPQ := fun_mk (st := sPEq) nl_PQ nc_PQ nk_PQ
  have bPQ := FPQ.binds (ps := ["self", "other"]) fun _ _ _ _ _ _ us hl => match us, hl with | [_, _], _ => rfl
  have FPC := fun_mk (st := sPCall) nl_PC nc_PC nk_PC
  have bPC := FPC.binds (ps := ["self", "words"]) fun _ _ _ _ _ _ us hl => match us, hl with | [_, _], _ => rfl
  have FPG := fun_mk (st := sPGrowth) nl_PG nc_PG nk_PG
  have bPG := FPG.binds (ps := ["self"]) fun _ _ _ _ _ _ us hl => match us, hl with | [_], _ => rfl
  have FPE := fun_mk (st := sPEdits) nl_PE nc_PE nk_PE
  have bPE := FPE.binds (ps := ["self"]) fun _ _ _ _ _ _ us hl => match us, hl with | [_], _ => rfl
  have FQI := fun_mk (st := sQInit) nl_QI nc_QI nk_QI
  have bQI := FQI.binds (ps := ["self"]) fun _ _ _ _ _ _ us hl => match us, hl with | [_], _ => rfl
  have FQC := fun_mk (st := sQCut) nl_QC nc_QC nk_QC
  have bQC := FQC.binds (ps := ["self", "place"]) fun _ _ _ _ _ _ us hl => match us, hl with | [_, _], _ => rfl
  have FQS := fun_mk (st := sQSize) nl_QS nc_QS nk_QS
  have bQS := FQS.binds (ps := ["self", "row"]) fun _ _ _ _ _ _ us hl => match us, hl with | [_, _], _ => rfl
  have FQP := fun_mk (st := sQParted) nl_QP nc_QP nk_QP
  have bQP := FQP.binds (ps := ["self", "row", "many"]) fun _ _ _ _ _ _ us hl => match us, hl with | [_, _, _], _ => rfl
  have FQE := fun_mk (st := sQEdit) nl_QE nc_QE nk_QE
  have bQE := FQE.binds (ps := ["self", "edit"]) fun _ _ _ _ _ _ us hl => match us, hl with | [_, _], _ => rfl
  have FQT := fun_mk (st := sQTold) nl_QT nc_QT nk_QT
  have bQT := FQT.binds (ps := ["self"]) fun _ _ _ _ _ _ us hl => match us, hl with | [_], _ => rfl
  have FTI := fun_mk (st := sTInit) nl_TI nc_TI nk_TI
  have bTI := FTI.binds (ps := ["self", "whole", "one", "other"]) fun _ _ _ _ _ _ us hl => match us, hl with | [_, _, _, _], _ => rfl
  have FTQ := fun_mk (st := sTEq) nl_TQ nc_TQ nk_TQ
  have bTQ := FTQ.binds (ps := ["self", "other"]) fun _ _ _ _ _ _ us hl => match us, hl with | [_, _], _ => rfl
  have FTB := fun_mk (st := sTBool) nl_TB nc_TB nk_TB
  have bTB := FTB.binds (ps := ["self"]) fun _ _ _ _ _ _ us hl => match us, hl with | [_], _ => rfl
  have FLI := fun_mk (st := sCInit) nl_LI nc_LI nk_LI
  have bLI := FLI.binds (ps := ["self", "one", "other"]) fun _ _ _ _ _ _ us hl => match us, hl with | [_, _, _], _ => rfl
  have FLQ := fun_mk (st := sCEq) nl_LQ nc_LQ nk_LQ
  have bLQ := FLQ.binds (ps := ["self", "other"]) fun _ _ _ _ _ _ us hl => match us, hl with | [_, _], _ => rfl
  have FLB := fun_mk (st := sCBool) nl_LB nc_LB nk_LB
  have bLB := FLB.binds (ps := ["self"]) fun _ _ _ _ _ _ us hl => match us, hl with | [_], _ => rfl
  refine ⟨PySem.W.fnOf "law" "law" (defArgs sLaw) (defBody sLaw) (defScope sLaw) .none kVla dcla pmla anla cdla ctla, fun s v => .of_eq rfl, fun base _ _ => ?_⟩
  have Oce := ok_cell (P := l.prog) (w := w) (mg := mg) (base := base) Fce bce T
  have Odr := ok_draw (P := l.prog) (w := w) (mg := mg) (base := base) Fdr bdr T
  have Onu := ok_number (P := l.prog) (w := w) (mg := mg) (base := base) Fnu bnu T (PySem.W.mg_of X G na_dr) Odr
  have One := ok_next (P := l.prog) (w := w) (mg := mg) (base := base) Fne bne T (PySem.W.mg_of X G na_ce) Oce (PySem.W.mg_of X G na_nu) Onu
  have Opi := ok_pick (P := l.prog) (w := w) (mg := mg) (base := base) (R := sStr) Fpi bpi T (PySem.W.mg_of X G na_ne) One
  have Ow := ok_isWord (P := l.prog) (w := w) (mg := mg) (base := base) Fw bw T Cc
  have Ot := ok_isToken (P := l.prog) (w := w) (mg := mg) (base := base) Ftk btk Cc (PySem.W.mg_of X G na_w) Ow
  have Ok := ok_check (P := l.prog) (w := w) (mg := mg) (base := base) Fk bk T Cc (PySem.W.mg_of X G na_tk) Ot
  have OEI := ok_init (P := l.prog) (w := w) (mg := mg) (base := base) FEI bEI Cc EC (PySem.W.mg_of X G na_tk) Ot
  have OEG := ok_growth (P := l.prog) (w := w) (mg := mg) (base := base) FEG bEG T EC
  have OEA := ok_add (P := l.prog) (w := w) (mg := mg) (base := base) FEA bEA Cc EC M OEI
  have Ogo := ok_growthOf (P := l.prog) (w := w) (mg := mg) (base := base) Fgo bgo T
  have Ojo := ok_joined (P := l.prog) (w := w) (mg := mg) (base := base) Fjo bjo T Cc
  have Oar := ok_are (P := l.prog) (w := w) (mg := mg) (base := base) Far bar T Cc (PySem.W.mg_of X G na_tk) Ot
  have OPI := ok_pinit (P := l.prog) (w := w) (mg := mg) (base := base) FPI bPI Cc PC (PySem.W.mg_of X G na_ar) Oar
  have OPQ := ok_peq (P := l.prog) (w := w) (mg := mg) (base := base) FPQ bPQ Cc PC PI
  have OPG := ok_pgrowth (P := l.prog) (w := w) (mg := mg) (base := base) FPG bPG (PySem.W.mg_none_of X G zsum) PC (PySem.W.mg_of X G na_go) Ogo
  have OPE := ok_pedits (P := l.prog) (w := w) (mg := mg) (base := base) FPE bPE PC EC M OEI
  have OPC := ok_pcall (P := l.prog) (w := w) (mg := mg) (base := base) FPC bPC T PC (PySem.W.mg_of X G na_k) Ok
  have OQI := ok_qinit (P := l.prog) (w := w) (mg := mg) (base := base) FQI bQI Q
  have OQS := ok_qsize (P := l.prog) (w := w) (mg := mg) (base := base) FQS bQS Cc
  have OQP := ok_qparted (P := l.prog) (w := w) (mg := mg) (base := base) FQP bQP (PySem.W.mg_none_of X G zmax) Q
  have OQC := ok_qcut (P := l.prog) (w := w) (mg := mg) (base := base) FQC bQC T (PySem.W.mg_none_of X G zlist) (PySem.W.mg_none_of X G zenumerate) Q ⟨na_QS, ni_QS, nk_QS⟩ OQS ⟨na_QP, ni_QP, nk_QP⟩ OQP
  have OQE := ok_qedit (P := l.prog) (w := w) (mg := mg) (base := base) FQE bQE EC Q ⟨na_QC, ni_QC, nk_QC⟩ OQC
  have OQT := ok_qtold (P := l.prog) (w := w) (mg := mg) (base := base) FQT bQT Cc Q (PySem.W.mg_of X G na_jo) Ojo
  have Ock := ok_checkEdits (P := l.prog) (w := w) (mg := mg) (base := base) Fck bck T Cc EC CI (PySem.W.mg_of X G gE)
  have Opt := ok_patch (P := l.prog) (w := w) (mg := mg) (base := base) Fpt bpt PC Q (PySem.W.mg_of X G na_ck) Ock MQ OQI ⟨na_QE, ni_QE, nk_QE⟩ OQE ⟨na_QT, ni_QT, nk_QT⟩ OQT MP OPI
  have Owo := ok_wordsD (P := l.prog) (w := w) (mg := mg) (base := base) Fwo bwo T (PySem.W.mg_of X G na_pi) Opi
  have Ocp := ok_checkPatch (P := l.prog) (w := w) (mg := mg) (base := base) Fcp bcp Cc PC PI
  have Obe := ok_behind (P := l.prog) (w := w) (mg := mg) (base := base) Fbe bbe (PySem.W.mg_none_of X G zmax) PC (PySem.W.mg_of X G na_cp) Ocp (PySem.W.mg_of X G na_pt) Opt ⟨na_PE, ni_PE, nk_PE⟩ OPE ⟨na_PG, ni_PG, nk_PG⟩ OPG MP OPI
  have Ocr := ok_carried (P := l.prog) (w := w) (mg := mg) (base := base) Fcr bcr EC CA OEA ⟨na_EG, ni_EG, nk_EG⟩ OEG
  have Ogw := ok_goes (P := l.prog) (w := w) (mg := mg) (base := base) Fgw bgw 
  have Oca := ok_comes (P := l.prog) (w := w) (mg := mg) (base := base) Fca bca 
  have Omo := ok_moved (P := l.prog) (w := w) (mg := mg) (base := base) Fmo bmo (PySem.W.mg_none_of X G zsum) (PySem.W.mg_of X G na_go) Ogo (PySem.W.mg_of X G na_ca) Oca (PySem.W.mg_of X G na_jo) Ojo
  have OTI := ok_tinit (P := l.prog) (w := w) (mg := mg) (base := base) FTI bTI (CP := CP) TC
  have OTB := ok_tbool (P := l.prog) (w := w) (mg := mg) (base := base) FTB bTB (CP := CP) (CT := CT)
  have OTQ := ok_teq (P := l.prog) (w := w) (mg := mg) (base := base) FTQ bTQ Cc TC TI na_PQ ni_PQ OPQ
  have OLI := ok_cinit (P := l.prog) (w := w) (mg := mg) (base := base) FLI bLI LC
  have OLB := ok_cbool (P := l.prog) (w := w) (mg := mg) (base := base) FLB bLB (CC := CC)
  have OLQ := ok_ceq (P := l.prog) (w := w) (mg := mg) (base := base) FLQ bLQ Cc LC LI
  have Osd := ok_side (P := l.prog) (w := w) (mg := mg) (base := base) Fsd bsd (PySem.W.mg_none_of X G zsorted) (PySem.W.mg_of X G na_jo) Ojo
  have Otg := ok_tog (P := l.prog) (w := w) (mg := mg) (base := base) Ftg btg (PySem.W.mg_none_of X G zenumerate) (PySem.W.mg_none_of X G zmax) PC TC LC (PySem.W.mg_of X G na_cp) Ocp (PySem.W.mg_of X G na_gw) Ogw ML OLI (PySem.W.mg_of X G na_mo) Omo ⟨na_PG, ni_PG, nk_PG⟩ OPG MP OPI MT OTI (PySem.W.mg_of X G na_sd) Osd
  have Oat := ok_allT (P := l.prog) (w := w) (mg := mg) (base := base) Fat bat (PySem.W.mg_none_of X G zenumerate) (PySem.W.mg_none_of X G zmax) PC (PySem.W.mg_of X G na_cp) Ocp (PySem.W.mg_of X G na_tg) Otg (PySem.W.mg_of X G na_sd) Osd MP OPI na_TB ni_TB OTB na_LB ni_LB OLB
  have Och := ok_changesD (P := l.prog) (w := w) (mg := mg) (base := base) Fch bch T Cc (PySem.W.mg_of X G na_ne) One (PySem.W.mg_of X G na_wo) Owo
  have Ofi := ok_fitD (P := l.prog) (w := w) (mg := mg) (base := base) Ffi bfi 
  have Owv := ok_weaveD (P := l.prog) (w := w) (mg := mg) (base := base) Fwv bwv T Cc (PySem.W.mg_none_of X G zsum) (PySem.W.mg_of X G na_ne) One
  exact ok_law Fla ⟨T, Cc, EC, PC, TC, LC, PySem.W.mg_none_of X G zenumerate, PySem.W.mg_none_of X G zmax, PySem.W.mg_none_of X G zset, PySem.W.mg_none_of X G zsorted, fne, (PySem.W.mg_of X G na_ne), One, fpi, (PySem.W.mg_of X G na_pi), Opi, fch, (PySem.W.mg_of X G na_ch), Och, ffi, (PySem.W.mg_of X G na_fi), Ofi, fwv, (PySem.W.mg_of X G na_wv), Owv, ftg, (PySem.W.mg_of X G na_tg), Otg, fat, (PySem.W.mg_of X G na_at), Oat, fbe, (PySem.W.mg_of X G na_be), Obe, fcr, (PySem.W.mg_of X G na_cr), Ocr, fEI, M, OEI, fPI, MP, OPI, fTI, MT, OTI, fLI, ML, OLI, fPC, ⟨na_PC, ni_PC, xf⟩, OPC, fPG, ⟨na_PG, ni_PG, nk_PG⟩, OPG, fPQ, na_PQ, ni_PQ, OPQ, COCP, ne0CP, fTQ, na_TQ, ni_TQ, OTQ, COCT, ne0CT, fLQ, na_LQ, ni_LQ, OLQ, COCC, ne0CC, fTB, na_TB, ni_TB, OTB, fLB, na_LB, ni_LB, OLB, LI, kTC⟩
theorem walk {l : PySem.W.OpenLaw} {q : Program} {loose : List Str} {XP : (Str → Option Value) → Heap → Prop} {YP : World → Heap → Prop} {d : DefRec} {K : Params → PySem.W.Frag} (hn : l.most = some 63) (hdf : d.params.defaults = []) -- -
    (hY : ∀ (w : World) (h : Heap), YP w h → (K w.params).In h) -- -
    (F : ∀ (w : World) (mg : Str → Option Value) (fa : Addr) (h : Heap), (K w.params).In h → h.Ns mainGlobals mg → mg d.name = some (.ref fa) → -- -
      ∃ fd : FuncData, (∀ (s : Shared) (u : Value), BindsTo s fd ⟨[u], []⟩ [("_law_script", u)]) ∧ ∀ base : Heap, (K w.params).In base → base.Ns mainGlobals mg → FnOk l.prog w (K w.params) mg base CX0 8 fa fd ["_law_script"] (fsLaw.sp (K w.params))) :
    PySem.W.WalkO q loose XP YP l.row.toRowW d [] (fun f vs => PySem.call f vs) := -- -
  L2.walk_of (n := 63) (k := 8) (x := "_law_script") (CX := fun _ => CX0) (sp := fun w => fsLaw.sp (K w.params)) hn (by decide) hdf ⟨rfl, by decide, by decide⟩ hY F (fun _ H a ns hl _ hS => ⟨ns, H, trivial, Same.refl H, .cons ⟨a, _, rfl, hS, All2.ofVals ns⟩ .nil, (fun w hw => by cases hw), List.nodup_nil, fun v G' H' t ow hv => hv⟩) fun _ _ _ _ _ z => z
end K51

set_option Elab.async false
set_option linter.all false
open PySem PySem.W PyProof.Rows in
set_option maxRecDepth 100000 in
set_option maxHeartbeats 0 in
theorem PySem.Challenge.cw_typingroom_k51_whole_hands_holds : PySem.Challenge.rw_typingroom_k51_whole_hands.Holds := by
  w_on; o_law; k_head; (case hw => w_witness2) -- -
  k_fill
  refine K51.walk (l := PySem.Challenge.rw_typingroom_k51_whole_hands) rfl rfl (fun w h Y => PySem.W.kIn_of Y) ?F
  case F =>
    intro w mg fa h KX G hmg
    refine' K51.all_mk KX G hmg ?na_w ?nl_w ?nc_w ?nk_w ?na_tk ?nl_tk ?nc_tk ?nk_tk ?na_k ?nl_k ?nc_k ?nk_k ?na_cr ?nl_cr ?nc_cr ?nk_cr ?na_ck ?nl_ck ?nc_ck ?nk_ck ?na_ar ?nl_ar ?nc_ar ?nk_ar ?na_jo ?nl_jo ?nc_jo ?nk_jo ?na_pt ?nl_pt ?nc_pt ?nk_pt ?na_cp ?nl_cp ?nc_cp ?nk_cp ?na_be ?nl_be ?nc_be ?nk_be ?na_gw ?nl_gw ?nc_gw ?nk_gw ?na_mo ?nl_mo ?nc_mo ?nk_mo ?na_go ?nl_go ?nc_go ?nk_go ?na_ca ?nl_ca ?nc_ca ?nk_ca ?na_tg ?nl_tg ?nc_tg ?nk_tg ?na_sd ?nl_sd ?nc_sd ?nk_sd ?na_at ?nl_at ?nc_at ?nk_at ?na_ce ?nl_ce ?nc_ce ?nk_ce ?na_dr ?nl_dr ?nc_dr ?nk_dr ?na_nu ?nl_nu ?nc_nu ?nk_nu ?na_ne ?nl_ne ?nc_ne ?nk_ne ?na_pi ?nl_pi ?nc_pi ?nk_pi ?na_wo ?nl_wo ?nc_wo ?nk_wo ?na_ch ?nl_ch ?nc_ch ?nk_ch ?na_fi ?nl_fi ?nc_fi ?nk_fi ?na_wv ?nl_wv ?nc_wv ?nk_wv ?na_la ?nl_la ?nc_la ?nk_la ?aC ?aCP ?aCQ ?aCT ?aCC ?na_EI ?ni_EI ?nl_EI ?nc_EI ?nk_EI ?na_EA ?ni_EA ?nl_EA ?nc_EA ?nk_EA ?na_EG ?ni_EG ?nl_EG ?nc_EG ?nk_EG ?na_PI ?ni_PI ?nl_PI ?nc_PI ?nk_PI ?na_PQ ?ni_PQ ?nl_PQ ?nc_PQ ?nk_PQ ?na_PC ?ni_PC ?nl_PC ?nc_PC ?nk_PC ?na_PG ?ni_PG ?nl_PG ?nc_PG ?nk_PG ?na_PE ?ni_PE ?nl_PE ?nc_PE ?nk_PE ?na_QI ?ni_QI ?nl_QI ?nc_QI ?nk_QI ?na_QC ?ni_QC ?nl_QC ?nc_QC ?nk_QC ?na_QS ?ni_QS ?nl_QS ?nc_QS ?nk_QS ?na_QP ?ni_QP ?nl_QP ?nc_QP ?nk_QP ?na_QE ?ni_QE ?nl_QE ?nc_QE ?nk_QE ?na_QT ?ni_QT ?nl_QT ?nc_QT ?nk_QT ?na_TI ?ni_TI ?nl_TI ?nc_TI ?nk_TI ?na_TQ ?ni_TQ ?nl_TQ ?nc_TQ ?nk_TQ ?na_TB ?ni_TB ?nl_TB ?nc_TB ?nk_TB ?na_LI ?ni_LI ?nl_LI ?nc_LI ?nk_LI ?na_LQ ?ni_LQ ?nl_LQ ?nc_LQ ?nk_LQ ?na_LB ?ni_LB ?nl_LB ?nc_LB ?nk_LB ?pgC ?hdC ?poC ?saC ?mkC ?kcC ?pgCP ?hdCP ?poCP ?saCP ?mkCP ?kcCP ?pgCQ ?hdCQ ?poCQ ?saCQ ?mkCQ ?kcCQ ?pgCT ?hdCT ?poCT ?saCT ?mkCT ?kcCT ?pgCC ?hdCC ?poCC ?saCC ?mkCC ?kcCC ?nC_first ?nC_last ?nC_words ?nCP_changes ?nCP_least ?nCQ_rows ?nCQ_least ?nCT_whole ?nCT_one ?nCT_other ?nCC_one ?nCC_other ?xaC ?xmC ?xaCP ?xmCP ?xaCT ?xmCT ?xaCC ?xmCC ?xn ?xt ?xf ?lOCP ?bOCP ?ne0CP ?lOCT ?bOCT ?ne0CT ?lOCC ?bOCC ?ne0CC ?kTC ?ah ?ad ?ar ?a1 ?a2 ?as0 ?gL ?gN ?gE ?gK ?lK ?sK ?vK ?gS ?lS ?sS ?vS ?dh ?dm ?zlen ?zint ?zrange ?zall ?zisinstance ?zstr ?zlist ?ztuple ?zbool ?zmin ?zmax ?zsum ?zenumerate ?zset ?zsorted
    (case na_w => k_is)
    (case nl_w => k_is)
    (case nc_w => k_is)
    (case nk_w => k_is)
    (case na_tk => k_is)
    (case nl_tk => k_is)
    (case nc_tk => k_is)
    (case nk_tk => k_is)
    (case na_k => k_is)
    (case nl_k => k_is)
    (case nc_k => k_is)
    (case nk_k => k_is)
    (case na_cr => k_is)
    (case nl_cr => k_is)
    (case nc_cr => k_is)
    (case nk_cr => k_is)
    (case na_ck => k_is)
    (case nl_ck => k_is)
    (case nc_ck => k_is)
    (case nk_ck => k_is)
    (case na_ar => k_is)
    (case nl_ar => k_is)
    (case nc_ar => k_is)
    (case nk_ar => k_is)
    (case na_jo => k_is)
    (case nl_jo => k_is)
    (case nc_jo => k_is)
    (case nk_jo => k_is)
    (case na_pt => k_is)
    (case nl_pt => k_is)
    (case nc_pt => k_is)
    (case nk_pt => k_is)
    (case na_cp => k_is)
    (case nl_cp => k_is)
    (case nc_cp => k_is)
    (case nk_cp => k_is)
    (case na_be => k_is)
    (case nl_be => k_is)
    (case nc_be => k_is)
    (case nk_be => k_is)
    (case na_gw => k_is)
    (case nl_gw => k_is)
    (case nc_gw => k_is)
    (case nk_gw => k_is)
    (case na_mo => k_is)
    (case nl_mo => k_is)
    (case nc_mo => k_is)
    (case nk_mo => k_is)
    (case na_go => k_is)
    (case nl_go => k_is)
    (case nc_go => k_is)
    (case nk_go => k_is)
    (case na_ca => k_is)
    (case nl_ca => k_is)
    (case nc_ca => k_is)
    (case nk_ca => k_is)
    (case na_tg => k_is)
    (case nl_tg => k_is)
    (case nc_tg => k_is)
    (case nk_tg => k_is)
    (case na_sd => k_is)
    (case nl_sd => k_is)
    (case nc_sd => k_is)
    (case nk_sd => k_is)
    (case na_at => k_is)
    (case nl_at => k_is)
    (case nc_at => k_is)
    (case nk_at => k_is)
    (case na_ce => k_is)
    (case nl_ce => k_is)
    (case nc_ce => k_is)
    (case nk_ce => k_is)
    (case na_dr => k_is)
    (case nl_dr => k_is)
    (case nc_dr => k_is)
    (case nk_dr => k_is)
    (case na_nu => k_is)
    (case nl_nu => k_is)
    (case nc_nu => k_is)
    (case nk_nu => k_is)
    (case na_ne => k_is)
    (case nl_ne => k_is)
    (case nc_ne => k_is)
    (case nk_ne => k_is)
    (case na_pi => k_is)
    (case nl_pi => k_is)
    (case nc_pi => k_is)
    (case nk_pi => k_is)
    (case na_wo => k_is)
    (case nl_wo => k_is)
    (case nc_wo => k_is)
    (case nk_wo => k_is)
    (case na_ch => k_is)
    (case nl_ch => k_is)
    (case nc_ch => k_is)
    (case nk_ch => k_is)
    (case na_fi => k_is)
    (case nl_fi => k_is)
    (case nc_fi => k_is)
    (case nk_fi => k_is)
    (case na_wv => k_is)
    (case nl_wv => k_is)
    (case nc_wv => k_is)
    (case nk_wv => k_is)
    (case na_la => k_is)
    (case nl_la => k_is)
    (case nc_la => k_is)
    (case nk_la => k_is)
    (case aC => k_is)
    (case aCP => k_is)
    (case aCQ => k_is)
    (case aCT => k_is)
    (case aCC => k_is)
    (case na_EI => k_is)
    (case ni_EI => k_is)
    (case nl_EI => k_is)
    (case nc_EI => k_is)
    (case nk_EI => k_is)
    (case na_EA => k_is)
    (case ni_EA => k_is)
    (case nl_EA => k_is)
    (case nc_EA => k_is)
    (case nk_EA => k_is)
    (case na_EG => k_is)
    (case ni_EG => k_is)
    (case nl_EG => k_is)
    (case nc_EG => k_is)
    (case nk_EG => k_is)
    (case na_PI => k_is)
    (case ni_PI => k_is)
    (case nl_PI => k_is)
    (case nc_PI => k_is)
    (case nk_PI => k_is)
    (case na_PQ => k_is)
    (case ni_PQ => k_is)
    (case nl_PQ => k_is)
    (case nc_PQ => k_is)
    (case nk_PQ => k_is)
    (case na_PC => k_is)
    (case ni_PC => k_is)
    (case nl_PC => k_is)
    (case nc_PC => k_is)
    (case nk_PC => k_is)
    (case na_PG => k_is)
    (case ni_PG => k_is)
    (case nl_PG => k_is)
    (case nc_PG => k_is)
    (case nk_PG => k_is)
    (case na_PE => k_is)
    (case ni_PE => k_is)
    (case nl_PE => k_is)
    (case nc_PE => k_is)
    (case nk_PE => k_is)
    (case na_QI => k_is)
    (case ni_QI => k_is)
    (case nl_QI => k_is)
    (case nc_QI => k_is)
    (case nk_QI => k_is)
    (case na_QC => k_is)
    (case ni_QC => k_is)
    (case nl_QC => k_is)
    (case nc_QC => k_is)
    (case nk_QC => k_is)
    (case na_QS => k_is)
    (case ni_QS => k_is)
    (case nl_QS => k_is)
    (case nc_QS => k_is)
    (case nk_QS => k_is)
    (case na_QP => k_is)
    (case ni_QP => k_is)
    (case nl_QP => k_is)
    (case nc_QP => k_is)
    (case nk_QP => k_is)
    (case na_QE => k_is)
    (case ni_QE => k_is)
    (case nl_QE => k_is)
    (case nc_QE => k_is)
    (case nk_QE => k_is)
    (case na_QT => k_is)
    (case ni_QT => k_is)
    (case nl_QT => k_is)
    (case nc_QT => k_is)
    (case nk_QT => k_is)
    (case na_TI => k_is)
    (case ni_TI => k_is)
    (case nl_TI => k_is)
    (case nc_TI => k_is)
    (case nk_TI => k_is)
    (case na_TQ => k_is)
    (case ni_TQ => k_is)
    (case nl_TQ => k_is)
    (case nc_TQ => k_is)
    (case nk_TQ => k_is)
    (case na_TB => k_is)
    (case ni_TB => k_is)
    (case nl_TB => k_is)
    (case nc_TB => k_is)
    (case nk_TB => k_is)
    (case na_LI => k_is)
    (case ni_LI => k_is)
    (case nl_LI => k_is)
    (case nc_LI => k_is)
    (case nk_LI => k_is)
    (case na_LQ => k_is)
    (case ni_LQ => k_is)
    (case nl_LQ => k_is)
    (case nc_LQ => k_is)
    (case nk_LQ => k_is)
    (case na_LB => k_is)
    (case ni_LB => k_is)
    (case nl_LB => k_is)
    (case nc_LB => k_is)
    (case nk_LB => k_is)
    (case pgC => k_is)
    (case hdC => k_is)
    (case poC => k_is)
    (case saC => k_is)
    (case mkC => k_is)
    (case kcC => k_is)
    (case pgCP => k_is)
    (case hdCP => k_is)
    (case poCP => k_is)
    (case saCP => k_is)
    (case mkCP => k_is)
    (case kcCP => k_is)
    (case pgCQ => k_is)
    (case hdCQ => k_is)
    (case poCQ => k_is)
    (case saCQ => k_is)
    (case mkCQ => k_is)
    (case kcCQ => k_is)
    (case pgCT => k_is)
    (case hdCT => k_is)
    (case poCT => k_is)
    (case saCT => k_is)
    (case mkCT => k_is)
    (case kcCT => k_is)
    (case pgCC => k_is)
    (case hdCC => k_is)
    (case poCC => k_is)
    (case saCC => k_is)
    (case mkCC => k_is)
    (case kcCC => k_is)
    (case nC_first => k_is)
    (case nC_last => k_is)
    (case nC_words => k_is)
    (case nCP_changes => k_is)
    (case nCP_least => k_is)
    (case nCQ_rows => k_is)
    (case nCQ_least => k_is)
    (case nCT_whole => k_is)
    (case nCT_one => k_is)
    (case nCT_other => k_is)
    (case nCC_one => k_is)
    (case nCC_other => k_is)
    (case xaC => k_is)
    (case xmC => k_is)
    (case xaCP => k_is)
    (case xmCP => k_is)
    (case xaCT => k_is)
    (case xmCT => k_is)
    (case xaCC => k_is)
    (case xmCC => k_is)
    (case xn => k_is)
    (case xt => k_is)
    (case xf => k_is)
    (case lOCP => k_is)
    (case bOCP => decide)
    (case ne0CP => k_is)
    (case lOCT => k_is)
    (case bOCT => decide)
    (case ne0CT => k_is)
    (case lOCC => k_is)
    (case bOCC => decide)
    (case ne0CC => k_is)
    (case kTC => first | k_is | rfl | (unfold PySem.W.kitOne; rw [if_neg (by decide)]; k_is))
    (case ah => k_is)
    (case ad => k_is)
    (case ar => k_is)
    (case a1 => k_is)
    (case a2 => k_is)
    (case as0 => k_is)
    (case gL => k_is)
    (case gN => k_is)
    (case gE => k_is)
    (case gK => k_is)
    (case lK => k_is)
    (case sK => decide)
    (case vK => exact .cons ⟨_, rfl⟩ (.cons ⟨_, rfl⟩ (.cons ⟨_, rfl⟩ .nil)))
    (case gS => k_is)
    (case lS => k_is)
    (case sS => decide)
    (case vS => exact .cons ⟨_, rfl⟩ (.cons ⟨_, rfl⟩ (.cons ⟨_, rfl⟩ (.cons ⟨_, rfl⟩ (.cons ⟨_, rfl⟩ (.cons ⟨_, rfl⟩ (.cons ⟨_, rfl⟩ (.cons ⟨_, rfl⟩ (.cons ⟨_, rfl⟩ (.nil))))))))))
    (case dh => k_is)
    (case dm => k_is)
    (case zlen => k_is)
    (case zint => k_is)
    (case zrange => k_is)
    (case zall => k_is)
    (case zisinstance => k_is)
    (case zstr => k_is)
    (case zlist => k_is)
    (case ztuple => k_is)
    (case zbool => k_is)
    (case zmin => k_is)
    (case zmax => k_is)
    (case zsum => k_is)
    (case zenumerate => k_is)
    (case zset => k_is)
    (case zsorted => k_is)
