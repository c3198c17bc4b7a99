import PyProof.Rows.All
import Wide.All
import OpenK.AllK
import Wide.FinOn
import HandS.ForMost
import HandS.Zip
import HandS.Rev
import HandS.Conv
import HandS.TupAny
import HandS.TupMul
import HandS.Deep
import HandS.IsInst
import KE.SortData
import HandS.TupLe
import HandS.More
import HandS.SetFor
import KE.DataMinMax
import HandS.SortKw
import KE.GoesMore
import HandS.AnyAll
import HandS.Comp
import HandS.GenOver
import HandS.Strs
import HandS.ExcIs
import HandS.WordsExc
import HandS.Small
import HandS.Style
import HandS.EndBits
import HandS.EndOwn
import PySem.Challenge.RW_shiftshold_k53_told_cover
set_option maxHeartbeats 4000000
set_option Elab.async false
set_option linter.all false
set_option maxRecDepth 100000
/-! ShA: values without addresses, marks of ownership, how a value lies in the abstract heap -/
namespace Sh
open PySem PySem.Spec PyProof.Rows L2

/-- a value without addresses -/
inductive Val where
  | non | bl (b : Bool) | int (i : Int) | str (x : Str)
  | tup (xs : List Val) | lst (xs : List Val)
  | dk (kvs : List (Key × Val)) | dt (kvs : List (List Key × Val))

/-- marks: st: nothing of it is ours (it stays as it is); l m: a list (or dict) of ours, its items marked m; tc m r, tn: a tuple's items, one by one; pr: a pair that a walk has just made -/
inductive Mk where
  | st | l (m : Mk) | tn | tc (m r : Mk) | pr
  deriving DecidableEq
def Mk.hd : Mk → Mk
  | .st => .st | .l m => m | .tn => .st | .tc m _ => m | .pr => .st
def Mk.tl : Mk → Mk
  | .st => .st | .l m => .l m | .tn => .tn | .tc _ r => r | .pr => .st
def Mk.isL : Mk → Bool
  | .l _ => true | _ => false

abbrev AS := Addr → Prop
/-- the written part; kt: whether it has tuples that are met as values -/
structure KK where
  K : PySem.W.Frag
  kt : Bool
  /-- the code objects of the defs that hold generator expressions, and their tables -/
  cs : List (Addr × Addr) := []
def KK.tb (K : KK) : List Addr := K.cs.map (·.2)
def TupAt (K : KK) (m : Mk) (H : Hp) (a : Addr) (ws : List V) : Prop := (∃ o : Obj, H a = some (.frz o (.tup ws)) ∧ o.dict = none) ∨ (m = .st ∧ K.kt = true ∧ SqT K.K H a ws)
theorem TupAt.toSt {K : KK} {m : Mk} {H : Hp} {a : Addr} {ws : List V} (h : TupAt K m H a ws) : TupAt K .st H a ws := h.imp id fun h => ⟨rfl, h.2⟩
theorem TupAt.sq {K : KK} {m : Mk} {H : Hp} {a : Addr} {ws : List V} (h : TupAt K m H a ws) : SqT K.K H a ws := h.elim (fun ⟨o, h, _⟩ => .inl (.inr ⟨o, h⟩)) fun h => h.2.2
/-- a new tuple's object -/
def tupO (its : Array Value) : Obj := { cls := .type "tuple", data := .seq its }
theorem TupAt.new {K : KK} {m : Mk} {H : Hp} {a : Addr} {ws : List V} {its : Array Value} (h : H a = some (.frz (tupO its) (.tup ws))) : TupAt K m H a ws := .inl ⟨_, h, rfl⟩
/-- a list that stays as it is -/
def StL (K : KK) (S : AS) (H : Hp) (a : Addr) (vs : List V) : Prop :=
  (S a ∧ H a = some (.lst vs)) ∨ (∃ o, H a = some (.frz o (.lst vs))) ∨
    ∃ (o : Obj) (its : Array Value) (n : Nat), K.K.lookup a = some o ∧ o.cls = .type "list" ∧ o.dict = none ∧ o.data = .seq its n ∧ its.size ≤ sizeLine ∧ Vals vs its.toList
theorem StL.seq {K : KK} {S : AS} {H : Hp} {a : Addr} {vs : List V} (h : StL K S H a vs) : SqL K.K H a vs := by
  rcases h with ⟨_, h⟩ | ⟨o, h⟩ | h
  · exact .inl (.inl h)
  · exact .inl (.inr ⟨o, h⟩)
  · exact .inr h

/-- a thing that stays as it is -/
def StD (S : AS) (H : Hp) (a : Addr) (u : HO) : Prop := (S a ∧ H a = some u) ∨ ∃ o, H a = some (.frz o u)
theorem StD.rd {S : AS} {H : Hp} {a : Addr} {u : HO} (h : StD S H a u) : Rd H a u := h.imp (·.2) id
/-- what stood there is frozen now -/
def FO (H H' : Hp) (a : Addr) : Prop := (∃ o kvs, H a = some (.dK kvs) ∧ H' a = some (.frz o (.dK kvs))) ∨ ∃ ps ps', H a = some (.tbl ps) ∧ H' a = some (.tbl ps') ∧ (TriplesOk ps.toList → TriplesOk ps'.toList)
/-- a table of code objects -/
def TabOk (H : Hp) (P : Addr) : Prop := ∃ ps : Array Value, H P = some (.tbl ps) ∧ TriplesOk ps.toList
/-- what stays is there; the tables are in order -/
def LV (K : KK) (S : AS) (H : Hp) : Prop := (∀ a, S a → H a ≠ none) ∧ ∀ P ∈ K.tb, S P ∧ TabOk H P
theorem LV.to {K : KK} {S S' : AS} {H H' : Hp} (h : LV K S H) (l : ∀ a, S' a → H' a ≠ none) (st : ∀ a, S a → S' a) (fr : ∀ a, S a → H a ≠ none → H' a = H a ∨ FO H H' a) : LV K S' H' := ⟨l, fun P hP => by
  obtain ⟨s, ps, e, t⟩ := h.2 P hP
  refine ⟨st P s, ?_⟩
  rcases fr P s (h.1 P s) with q | ⟨o, kvs, q, _⟩ | ⟨p1, p2, q1, q2, q3⟩
  · exact ⟨ps, q.trans e, t⟩
  · rw [e] at q; cases q
  · rw [e] at q1; cases q1
    exact ⟨p2, q2, q3 t⟩⟩
/-- how values lie in the heap; fp: the addresses that are ours -/
inductive RS (K : KK) (S : AS) (H : Hp) : Mk → List Val → List V → List Addr → Prop where
  | nil (mk) : RS K S H mk [] [] []
  | non {mk xs vs f} : RS K S H mk.tl xs vs f → RS K S H mk (.non :: xs) (.non :: vs) f
  | bl {mk b xs vs f} : RS K S H mk.tl xs vs f → RS K S H mk (.bl b :: xs) (.bl b :: vs) f
  | int {mk i xs vs f} : RS K S H mk.tl xs vs f → RS K S H mk (.int i :: xs) (.int i :: vs) f
  | str {mk x xs vs f} : RS K S H mk.tl xs vs f → RS K S H mk (.str x :: xs) (.str x :: vs) f
  | tup {mk ys a ws g xs vs f} : mk.hd.isL = false → TupAt K mk.hd H a ws → RS K S H mk.hd ys ws g → RS K S H mk.tl xs vs f → RS K S H mk (.tup ys :: xs) (.ref a :: vs) (g ++ f)
  | lstO {mk m ys a ws g xs vs f} : mk.hd = .l m → H a = some (.lst ws) → RS K S H (.l m) ys ws g → RS K S H mk.tl xs vs f → RS K S H mk (.lst ys :: xs) (.ref a :: vs) (a :: g ++ f)
  | lstS {mk ys a ws xs vs f} : mk.hd = .st → StL K S H a ws → RS K S H .st ys ws [] → RS K S H mk.tl xs vs f → RS K S H mk (.lst ys :: xs) (.ref a :: vs) f
  | dkO {mk m} {kvs : List (Key × Val)} {ks : List Key} {a} {ws : List V} {g xs vs f} : mk.hd = .l m → H a = some (.dK (ks.zip ws)) → ks = kvs.map (·.1) → RS K S H (.l m) (kvs.map (·.2)) ws g → RS K S H mk.tl xs vs f → RS K S H mk (.dk kvs :: xs) (.ref a :: vs) (a :: g ++ f)
  | dkS {mk} {kvs : List (Key × Val)} {ks : List Key} {a} {ws : List V} {xs vs f} : mk.hd = .st → StD S H a (.dK (ks.zip ws)) → ks = kvs.map (·.1) → RS K S H .st (kvs.map (·.2)) ws [] → RS K S H mk.tl xs vs f → RS K S H mk (.dk kvs :: xs) (.ref a :: vs) f
  | dtO {mk m} {kvs : List (List Key × Val)} {ks : List (List Key)} {a} {ws : List V} {g xs vs f} : mk.hd = .l m → H a = some (.dT (ks.zip ws)) → ks = kvs.map (·.1) → RS K S H (.l m) (kvs.map (·.2)) ws g → RS K S H mk.tl xs vs f → RS K S H mk (.dt kvs :: xs) (.ref a :: vs) (a :: g ++ f)
  | dtS {mk} {kvs : List (List Key × Val)} {ks : List (List Key)} {a} {ws : List V} {xs vs f} : mk.hd = .st → (S a ∧ H a = some (.dT (ks.zip ws))) → ks = kvs.map (·.1) → RS K S H .st (kvs.map (·.2)) ws [] → RS K S H mk.tl xs vs f → RS K S H mk (.dt kvs :: xs) (.ref a :: vs) f
/-- one value -/
def Rep (K : KK) (S : AS) (H : Hp) (m : Mk) (v : Val) (w : V) (f : List Addr) : Prop := RS K S H (.tc m .tn) [v] [w] f

section
variable {K : KK} {S S' : AS} {H H' : Hp} {mk m : Mk} {xs : List Val} {vs : List V} {f : List Addr}
theorem RS.length (h : RS K S H mk xs vs f) : vs.length = xs.length := by
  induction h <;> simp_all
theorem RS.nil_inv (h : RS K S H mk [] vs f) : vs = [] ∧ f = [] := by cases h; exact ⟨rfl, rfl⟩
theorem RS.uncons {x : Val} (h : RS K S H mk (x :: xs) vs f) : ∃ v ws fp fr, vs = v :: ws ∧ f = fp ++ fr ∧ Rep K S H mk.hd x v fp ∧ RS K S H mk.tl xs ws fr := by
  cases h with
  | non h => exact ⟨_, _, [], _, rfl, rfl, .non (.nil _), h⟩
  | bl h => exact ⟨_, _, [], _, rfl, rfl, .bl (.nil _), h⟩
  | int h => exact ⟨_, _, [], _, rfl, rfl, .int (.nil _), h⟩
  | str h => exact ⟨_, _, [], _, rfl, rfl, .str (.nil _), h⟩
  | tup h1 h2 h3 h => exact ⟨_, _, _, _, rfl, rfl, by have := RS.tup (mk := .tc mk.hd .tn) h1 h2 h3 (.nil _); rw [List.append_nil] at this; exact this, h⟩
  | lstO h1 h2 h3 h => exact ⟨_, _, _, _, rfl, rfl, by have := RS.lstO (mk := .tc mk.hd .tn) h1 h2 h3 (.nil _); rw [List.append_nil] at this; exact this, h⟩
  | lstS h1 h2 h3 h => exact ⟨_, _, [], _, rfl, rfl, RS.lstS (mk := .tc mk.hd .tn) h1 h2 h3 (.nil _), h⟩
  | dkO h1 h2 e h3 h => exact ⟨_, _, _, _, rfl, rfl, by have := RS.dkO (mk := .tc mk.hd .tn) h1 h2 e h3 (.nil _); rw [List.append_nil] at this; exact this, h⟩
  | dkS h1 h2 e h4 h => exact ⟨_, _, [], _, rfl, rfl, RS.dkS (mk := .tc mk.hd .tn) h1 h2 e h4 (.nil _), h⟩
  | dtO h1 h2 e h3 h => exact ⟨_, _, _, _, rfl, rfl, by have := RS.dtO (mk := .tc mk.hd .tn) h1 h2 e h3 (.nil _); rw [List.append_nil] at this; exact this, h⟩
  | dtS h1 h2 e h4 h => exact ⟨_, _, [], _, rfl, rfl, RS.dtS (mk := .tc mk.hd .tn) h1 h2 e h4 (.nil _), h⟩
theorem RS.cons {x : Val} {v : V} {fp : List Addr} (h1 : Rep K S H mk.hd x v fp) (h2 : RS K S H mk.tl xs vs f) : RS K S H mk (x :: xs) (v :: vs) (fp ++ f) := by
  cases h1 with
  | non h => cases h; exact .non h2
  | bl h => cases h; exact .bl h2
  | int h => cases h; exact .int h2
  | str h => cases h; exact .str h2
  | tup a b c h => cases h; rw [List.append_nil]; exact .tup a b c h2
  | lstO a b c h => cases h; rw [List.append_nil]; exact .lstO a b c h2
  | lstS a b c h => cases h; exact .lstS a b c h2
  | dkO a b e c h => cases h; rw [List.append_nil]; exact .dkO a b e c h2
  | dkS a b e d h => cases h; exact .dkS a b e d h2
  | dtO a b e c h => cases h; rw [List.append_nil]; exact .dtO a b e c h2
  | dtS a b e d h => cases h; exact .dtS a b e d h2
theorem SqT.keep {K : PySem.W.Frag} {a : Addr} {ws : List V} (h : SqT K H a ws) (ht : ∀ a xs, H a = some (.tup xs) → H' a = some (.tup xs)) (hz : ∀ a o u, H a = some (.frz o u) → H' a = some (.frz o u)) : SqT K H' a ws := by
  rcases h with (h | ⟨o, h⟩) | h
  · exact .inl (.inl (ht _ _ h))
  · exact .inl (.inr ⟨o, hz _ _ _ h⟩)
  · exact .inr h
theorem TupAt.keep {a : Addr} {ws : List V} (h : TupAt K m H a ws) (ht : ∀ a xs, H a = some (.tup xs) → H' a = some (.tup xs)) (hz : ∀ a o u, H a = some (.frz o u) → H' a = some (.frz o u)) : TupAt K m H' a ws := h.imp (fun ⟨o, h, d⟩ => ⟨o, hz _ _ _ h, d⟩) fun h => ⟨h.1, h.2.1, SqT.keep h.2.2 ht hz⟩
theorem StD.keep {a : Addr} {u : HO} (h : StD S H a u) (hu : ∀ o' u', u ≠ .frz o' u') (hu2 : ∀ ps, u ≠ .tbl ps) (hs : ∀ a, S a → S' a ∧ (H a ≠ none → H' a = H a ∨ FO H H' a)) (hz : ∀ a o u, H a = some (.frz o u) → H' a = some (.frz o u)) : StD S' H' a u := by
  rcases h with ⟨s, h⟩ | ⟨o, h⟩
  · rcases (hs a s).2 (by rw [h]; simp) with z | ⟨o, v, z1, z2⟩ | ⟨p1, p2, z1, z2, _⟩
    · exact .inl ⟨(hs a s).1, z.trans h⟩
    · rw [h] at z1; cases z1
      exact .inr ⟨o, z2⟩
    · rw [h] at z1
      exact absurd (Option.some.inj z1) (hu2 _)
  · exact .inr ⟨o, hz _ _ _ h⟩
theorem StL.keep {a : Addr} {ws : List V} (h : StL K S H a ws) (hs : ∀ a, S a → S' a ∧ (H a ≠ none → H' a = H a ∨ FO H H' a)) (hz : ∀ a o u, H a = some (.frz o u) → H' a = some (.frz o u)) : StL K S' H' a ws := by
  rcases h with ⟨s, h⟩ | ⟨o, h⟩ | h
  · rcases (hs a s).2 (by rw [h]; simp) with z | ⟨o, v, z1, z2⟩ | ⟨p1, p2, z1, z2, _⟩
    · exact .inl ⟨(hs a s).1, z.trans h⟩
    · rw [h] at z1; cases z1
    · rw [h] at z1; cases z1
  · exact .inr (.inl ⟨o, hz _ _ _ h⟩)
  · exact .inr (.inr h)
/-- the heap and what stays go on -/
theorem RS.keep (h : RS K S H mk xs vs f) (hf : ∀ a ∈ f, H' a = H a) (hs : ∀ a, S a → S' a ∧ (H a ≠ none → H' a = H a ∨ FO H H' a)) (ht : ∀ a xs, H a = some (.tup xs) → H' a = some (.tup xs)) (hz : ∀ a o u, H a = some (.frz o u) → H' a = some (.frz o u)) :
    RS K S' H' mk xs vs f := by
  induction h with
  | nil => exact .nil _
  | non _ ih => exact .non (ih hf)
  | bl _ ih => exact .bl (ih hf)
  | int _ ih => exact .int (ih hf)
  | str _ ih => exact .str (ih hf)
  | tup a b _ _ ih1 ih2 => exact .tup a (TupAt.keep b ht hz) (ih1 fun x hx => hf x (List.mem_append_left _ hx)) (ih2 fun x hx => hf x (List.mem_append_right _ hx))
  | lstO a b _ _ ih1 ih2 => exact .lstO a ((hf _ (by simp)).trans b) (ih1 fun x hx => hf x (by simp [hx])) (ih2 fun x hx => hf x (by simp [hx]))
  | lstS a b _ _ ih1 ih2 => exact .lstS a (b.keep hs hz) (ih1 (by simp)) (ih2 hf)
  | dkO a b e _ _ ih1 ih2 => exact .dkO a ((hf _ (by simp)).trans b) e (ih1 fun x hx => hf x (by simp [hx])) (ih2 fun x hx => hf x (by simp [hx]))
  | dkS a b e _ _ ih1 ih2 => exact .dkS a (b.keep (fun _ _ z => nomatch z) (fun _ z => nomatch z) hs hz) e (ih1 (by simp)) (ih2 hf)
  | dtO a b e _ _ ih1 ih2 => exact .dtO a ((hf _ (by simp)).trans b) e (ih1 fun x hx => hf x (by simp [hx])) (ih2 fun x hx => hf x (by simp [hx]))
  | dtS a b e _ _ ih1 ih2 => exact .dtS a ⟨(hs _ b.1).1, by
    rcases (hs _ b.1).2 (by rw [b.2]; simp) with z | ⟨o, v, z1, z2⟩ | ⟨p1, p2, z1, z2, _⟩
    · exact z.trans b.2
    · rw [b.2] at z1; cases z1
    · rw [b.2] at z1; cases z1⟩ e (ih1 (by simp)) (ih2 hf)
/-- what was ours stays from now on -/
theorem RS.weaken (h : RS K S H mk xs vs f) (hs : ∀ a, S a → S' a) (hf : ∀ a ∈ f, S' a) : RS K S' H .st xs vs [] := by
  induction h with
  | nil => exact .nil _
  | non _ ih => exact .non (ih hf)
  | bl _ ih => exact .bl (ih hf)
  | int _ ih => exact .int (ih hf)
  | str _ ih => exact .str (ih hf)
  | tup a b _ _ ih1 ih2 => exact .tup (g := []) rfl b.toSt (ih1 fun x hx => hf x (List.mem_append_left _ hx)) (ih2 fun x hx => hf x (List.mem_append_right _ hx))
  | lstO a b _ _ ih1 ih2 => exact .lstS rfl (.inl ⟨hf _ (by simp), b⟩) (ih1 fun x hx => hf x (by simp [hx])) (ih2 fun x hx => hf x (by simp [hx]))
  | lstS a b _ _ ih1 ih2 => exact .lstS rfl (b.keep (fun a s => ⟨hs a s, fun _ => .inl rfl⟩) (fun _ _ _ z => z)) (ih1 (by simp)) (ih2 hf)
  | dkO a b e _ _ ih1 ih2 => exact .dkS rfl (.inl ⟨hf _ (by simp), b⟩) e (ih1 fun x hx => hf x (by simp [hx])) (ih2 fun x hx => hf x (by simp [hx]))
  | dkS a b e _ _ ih1 ih2 => exact .dkS rfl (b.imp (fun z => ⟨hs _ z.1, z.2⟩) id) e (ih1 (by simp)) (ih2 hf)
  | dtO a b e _ _ ih1 ih2 => exact .dtS rfl ⟨hf _ (by simp), b⟩ e (ih1 fun x hx => hf x (by simp [hx])) (ih2 fun x hx => hf x (by simp [hx]))
  | dtS a b e _ _ ih1 ih2 => exact .dtS rfl ⟨hs _ b.1, b.2⟩ e (ih1 (by simp)) (ih2 hf)
/-- with st nothing is ours -/
theorem RS.st_nil (h : RS K S H mk xs vs f) : mk = .st → f = [] := by
  induction h with
  | nil => intro _; rfl
  | non _ ih => intro e; subst e; exact ih rfl
  | bl _ ih => intro e; subst e; exact ih rfl
  | int _ ih => intro e; subst e; exact ih rfl
  | str _ ih => intro e; subst e; exact ih rfl
  | tup a b _ _ ih1 ih2 => intro e; subst e; rw [ih1 rfl, ih2 rfl]; rfl
  | lstO a b _ _ ih1 ih2 => intro e; subst e; cases a
  | lstS a b _ _ ih1 ih2 => intro e; subst e; exact ih2 rfl
  | dkO a b e _ _ ih1 ih2 => intro e; subst e; cases a
  | dkS a b e _ _ ih1 ih2 => intro e; subst e; exact ih2 rfl
  | dtO a b e _ _ ih1 ih2 => intro e; subst e; cases a
  | dtS a b e _ _ ih1 ih2 => intro e; subst e; exact ih2 rfl
/-- what is ours is a list or a dict -/
def Own (o : Option HO) : Prop := match o with
  | some (.lst _) => True
  | some (.dK _) => True
  | some (.dT _) => True
  | _ => False
theorem RS.own (h : RS K S H mk xs vs f) : ∀ a ∈ f, Own (H a) := by
  induction h with
  | nil => simp
  | non _ ih => exact ih
  | bl _ ih => exact ih
  | int _ ih => exact ih
  | str _ ih => exact ih
  | tup a b _ _ ih1 ih2 => intro x hx; rcases List.mem_append.mp hx with hx | hx; exact ih1 x hx; exact ih2 x hx
  | lstO a b _ _ ih1 ih2 =>
    intro x hx
    rcases List.mem_append.mp hx with hx | hx
    · rcases List.mem_cons.mp hx with rfl | hx
      · rw [b]; trivial
      · exact ih1 x hx
    · exact ih2 x hx
  | lstS a b _ _ ih1 ih2 => exact ih2
  | dkO a b e _ _ ih1 ih2 =>
    intro x hx
    rcases List.mem_append.mp hx with hx | hx
    · rcases List.mem_cons.mp hx with rfl | hx
      · rw [b]; trivial
      · exact ih1 x hx
    · exact ih2 x hx
  | dkS a b e _ _ ih1 ih2 => exact ih2
  | dtO a b e _ _ ih1 ih2 =>
    intro x hx
    rcases List.mem_append.mp hx with hx | hx
    · rcases List.mem_cons.mp hx with rfl | hx
      · rw [b]; trivial
      · exact ih1 x hx
    · exact ih2 x hx
  | dtS a b e _ _ ih1 ih2 => exact ih2
theorem Own.some {o : Option HO} (h : Own o) : o ≠ none := by
  intro e; subst e; exact h
theorem RS.append {ys : List Val} {ws : List V} {g : List Addr} (h : RS K S H (.l m) xs vs f) (h' : RS K S H (.l m) ys ws g) : RS K S H (.l m) (xs ++ ys) (vs ++ ws) (f ++ g) := by
  induction xs generalizing vs f with
  | nil => obtain ⟨rfl, rfl⟩ := h.nil_inv; exact h'
  | cons x xs ih =>
    obtain ⟨v, ws', fp, fr, rfl, rfl, h1, h2⟩ := h.uncons
    have := RS.cons (mk := .l m) h1 (ih h2)
    simpa using this
theorem RS.appendS {ys : List Val} {ws : List V} (h : RS K S H .st xs vs []) (h' : RS K S H .st ys ws []) : RS K S H .st (xs ++ ys) (vs ++ ws) [] := by
  induction xs generalizing vs with
  | nil => obtain ⟨rfl, _⟩ := h.nil_inv; exact h'
  | cons x xs ih =>
    obtain ⟨v, ws', fp, fr, rfl, e, h1, h2⟩ := h.uncons
    obtain ⟨rfl, rfl⟩ := List.append_eq_nil_iff.mp e.symm
    exact RS.cons (mk := .st) h1 (ih h2)
end
section
variable {K : KK} {S S' : AS} {H H' : Hp} {m : Mk} {xs : List Val} {ws : List V} {f g : List Addr} {w : V} {a : Addr}
theorem Rep.non : Rep K S H m .non .non [] := RS.non (.nil _)
theorem Rep.bl {b : Bool} : Rep K S H m (.bl b) (.bl b) [] := RS.bl (.nil _)
theorem Rep.int {i : Int} : Rep K S H m (.int i) (.int i) [] := RS.int (.nil _)
theorem Rep.str {x : Str} : Rep K S H m (.str x) (.str x) [] := RS.str (.nil _)
theorem Rep.tup (h : m.isL = false) (q : TupAt K m H a ws) (r : RS K S H m xs ws g) : Rep K S H m (.tup xs) (.ref a) g := by
  have := RS.tup (mk := .tc m .tn) h q r (.nil _)
  rw [List.append_nil] at this; exact this
theorem Rep.lstO (q : H a = some (.lst ws)) (r : RS K S H (.l m) xs ws g) : Rep K S H (.l m) (.lst xs) (.ref a) (a :: g) := by
  have := RS.lstO (mk := .tc (.l m) .tn) rfl q r (.nil _)
  rw [List.append_nil] at this; exact this
theorem Rep.lstS (q : StL K S H a ws) (r : RS K S H .st xs ws []) : Rep K S H .st (.lst xs) (.ref a) [] := RS.lstS (mk := .tc .st .tn) rfl q r (.nil _)
theorem Rep.inv_non (h : Rep K S H m .non w f) : w = .non ∧ f = [] := by cases h with | non h => cases h; exact ⟨rfl, rfl⟩
theorem Rep.inv_bl {b : Bool} (h : Rep K S H m (.bl b) w f) : w = .bl b ∧ f = [] := by cases h with | bl h => cases h; exact ⟨rfl, rfl⟩
theorem Rep.inv_int {i : Int} (h : Rep K S H m (.int i) w f) : w = .int i ∧ f = [] := by cases h with | int h => cases h; exact ⟨rfl, rfl⟩
theorem Rep.inv_str {x : Str} (h : Rep K S H m (.str x) w f) : w = .str x ∧ f = [] := by cases h with | str h => cases h; exact ⟨rfl, rfl⟩
theorem Rep.inv_tup (h : Rep K S H m (.tup xs) w f) : ∃ a ws, w = .ref a ∧ m.isL = false ∧ TupAt K m H a ws ∧ RS K S H m xs ws f := by
  cases h with
  | tup x y z h => cases h; rw [List.append_nil]; exact ⟨_, _, rfl, x, y, z⟩
theorem Rep.inv_lst (h : Rep K S H m (.lst xs) w f) : (∃ m' a ws g, m = .l m' ∧ w = .ref a ∧ f = a :: g ∧ H a = some (.lst ws) ∧ RS K S H (.l m') xs ws g) ∨ (∃ a ws, m = .st ∧ w = .ref a ∧ f = [] ∧ StL K S H a ws ∧ RS K S H .st xs ws []) := by
  cases h with
  | lstO x y z h => cases h; rw [List.append_nil]; exact .inl ⟨_, _, _, _, x, rfl, rfl, y, z⟩
  | lstS x y z h => cases h; exact .inr ⟨_, _, x, rfl, rfl, y, z⟩
/-- a list, whoever has it -/
theorem Rep.seqL (h : Rep K S H m (.lst xs) w f) : ∃ a ws g, w = .ref a ∧ SqL K.K H a ws ∧ RS K S H m xs ws g ∧ (m = .st → g = []) := by
  rcases h.inv_lst with ⟨m', a, ws, g, rfl, rfl, rfl, q, r⟩ | ⟨a, ws, rfl, rfl, rfl, q, r⟩
  · exact ⟨a, ws, g, rfl, .of q, r, fun e => nomatch e⟩
  · exact ⟨a, ws, [], rfl, q.seq, r, fun _ => rfl⟩
theorem Rep.st_nil {v : Val} (h : Rep K S H .st v w f) : f = [] := by
  obtain ⟨w', ws, fp, fr, e1, e2, h1, h2⟩ := RS.uncons h
  cases h with
  | non h | bl h | int h | str h => cases h; rfl
  | tup a b c h => cases h; rw [c.st_nil rfl]; rfl
  | lstO a b c h => cases a
  | lstS a b c h => cases h; rfl
  | dkO a b e c h => cases a
  | dkS a b e d h => cases h; rfl
  | dtO a b e c h => cases a
  | dtS a b e d h => cases h; rfl
/-- what is ours of a value hangs on the heap alone -/
theorem RS.func {mk : Mk} {vs : List V} (h : RS K S H mk xs vs f) : ∀ {f'}, RS K S H mk xs vs f' → f = f' := by
  induction h with
  | nil => intro f' h'; exact h'.nil_inv.2.symm
  | non _ ih | bl _ ih | int _ ih | str _ ih => intro f' h'; cases h' with | _ h => exact ih h
  | tup a b c d ih1 ih2 =>
    intro f' h'
    cases h' with
    | tup a' b' c' d' =>
      rw [ih2 d']
      congr 1
      rcases b with b | ⟨e, _⟩
      · rcases b' with b' | ⟨e, _⟩
        · obtain ⟨_, b, _⟩ := b
          obtain ⟨_, b', _⟩ := b'
          rw [b] at b'; cases b'; exact ih1 c'
        · rw [c.st_nil e, c'.st_nil e]
      · rw [c.st_nil e, c'.st_nil e]
  | lstO a b c d ih1 ih2 =>
    intro f' h'
    cases h' with
    | lstO a' b' c' d' => rw [a] at a'; cases a'; rw [b] at b'; cases b'; rw [ih1 c', ih2 d']
    | lstS a' _ _ _ => rw [a] at a'; cases a'
  | lstS a b c d ih1 ih2 =>
    intro f' h'
    cases h' with
    | lstO a' b' c' d' => rw [a] at a'; cases a'
    | lstS a' _ _ d' => exact ih2 d'
  | dkO a b e c d ih1 ih2 =>
    intro f' h'
    cases h' with
    | dkO a' b' e' c' d' =>
      rw [a] at a'; cases a'
      subst e e'
      rw [b] at b'
      have b' := HO.dK.inj (Option.some.inj b')
      have l1 := c.length
      have l2 := c'.length
      have : _ = _ := congrArg (List.map (·.2)) b'
      rw [List.map_snd_zip (by simpa using Nat.le_of_eq l1), List.map_snd_zip (by simpa using Nat.le_of_eq l2)] at this
      subst this
      rw [ih1 c', ih2 d']
    | dkS a' _ _ _ _ => rw [a] at a'; cases a'
  | dkS a b e c d ih1 ih2 =>
    intro f' h'
    cases h' with
    | dkO a' b' e' c' d' => rw [a] at a'; cases a'
    | dkS a' _ _ _ d' => exact ih2 d'
  | dtO a b e c d ih1 ih2 =>
    intro f' h'
    cases h' with
    | dtO a' b' e' c' d' =>
      rw [a] at a'; cases a'
      subst e e'
      rw [b] at b'
      have b' := HO.dT.inj (Option.some.inj b')
      have l1 := c.length
      have l2 := c'.length
      have : _ = _ := congrArg (List.map (·.2)) b'
      rw [List.map_snd_zip (by simpa using Nat.le_of_eq l1), List.map_snd_zip (by simpa using Nat.le_of_eq l2)] at this
      subst this
      rw [ih1 c', ih2 d']
    | dtS a' _ _ _ _ => rw [a] at a'; cases a'
  | dtS a b e c d ih1 ih2 =>
    intro f' h'
    cases h' with
    | dtO a' b' e' c' d' => rw [a] at a'; cases a'
    | dtS a' _ _ _ d' => exact ih2 d'
end
/-- the mark of the i-th item -/
def Mk.at : Mk → Nat → Mk
  | m, 0 => m.hd
  | m, i + 1 => m.tl.at i
theorem Mk.at_st : ∀ i, Mk.st.at i = .st
  | 0 => rfl
  | i + 1 => Mk.at_st i
theorem Mk.at_l (m : Mk) : ∀ i, (Mk.l m).at i = m
  | 0 => rfl
  | i + 1 => Mk.at_l m i
/-- one item, and what may come in its place -/
theorem RS.get {K : KK} {S : AS} {H : Hp} {xs : List Val} : ∀ {mk : Mk} {vs : List V} {f : List Addr} {i : Nat} {x : Val}, RS K S H mk xs vs f → xs[i]? = some x → ∃ v fl fp fr, vs[i]? = some v ∧ f = fl ++ (fp ++ fr) ∧ Rep K S H (mk.at i) x v fp ∧
    ∀ {S' : AS} {H' : Hp} {x' : Val} {v' : V} {fp' : List Addr}, Rep K S' H' (mk.at i) x' v' fp' → (∀ {m : Mk} {ys : List Val} {ws : List V} {g : List Addr}, (∀ a ∈ g, a ∈ fl ++ fr) → RS K S H m ys ws g → RS K S' H' m ys ws g) → RS K S' H' mk (xs.set i x') (vs.set i v') (fl ++ (fp' ++ fr)) := by
  induction xs with
  | nil => intro mk vs f i x h e; simp at e
  | cons y ys ih =>
    intro mk vs f i x h e
    obtain ⟨v, ws, fp, fr, rfl, rfl, h1, h2⟩ := h.uncons
    cases i with
    | zero =>
      simp at e; subst e
      exact ⟨v, [], fp, fr, rfl, rfl, h1, fun {S' H' x' v' fp'} r k => show RS K S' H' mk (x' :: ys) (v' :: ws) (fp' ++ fr) from RS.cons r (k (fun a ha => ha) h2)⟩
    | succ i =>
      obtain ⟨v', fl, fp', fr', e1, rfl, h3, h4⟩ := ih h2 (by simpa using e)
      refine ⟨v', fp ++ fl, fp', fr', by simpa using e1, by simp, h3, fun r k => ?_⟩
      have := RS.cons (mk := mk) (k (fun a ha => by simp [ha]) h1) (h4 r fun ha hr => k (fun a z => by
        have := ha a z
        simp only [List.mem_append] at this ⊢
        rcases this with h | h
        · exact .inl (.inr h)
        · exact .inr h) hr)
      simpa using this
end Sh
namespace Sh
open PySem PySem.Spec PyProof.Rows L2
/-! ### steps -/
/-- from the heap H with fo ours to H' with fo' ours: all else stays -/
structure Step (S : AS) (H : Hp) (fo : List Addr) (S' : AS) (H' : Hp) (fo' : List Addr) : Prop where
  frame : ∀ a, H a ≠ none → a ∉ fo → H' a = H a ∨ (S a ∧ FO H H' a)
  tups : ∀ a xs, H a = some (.tup xs) → H' a = some (.tup xs)
  frzs : ∀ a o u, H a = some (.frz o u) → H' a = some (.frz o u)
  grow : ∀ a, H a ≠ none → H' a ≠ none
  stab : ∀ a, S a → S' a
  stabN : ∀ a, S' a → S a ∨ a ∈ fo ∨ H a = none
  own : ∀ a ∈ fo', a ∈ fo ∨ H a = none
  live : ∀ {K : KK}, LV K S H → LV K S' H'
section
variable {S S1 S2 : AS} {H H1 H2 : Hp} {fo fo1 fo2 g : List Addr}
theorem Step.refl : Step S H fo S H fo := ⟨fun _ _ _ => .inl rfl, fun _ _ h => h, fun _ _ _ h => h, fun _ h => h, fun _ h => h, fun _ h => .inl h, fun _ h => .inl h, fun h => h⟩
theorem Step.free (a : Step S H fo S1 H1 fo1) {b : Addr} (h : H1 b = none) : H b = none := by
  cases e : H b with
  | none => rfl
  | some o => exact absurd h (a.grow b (by rw [e]; simp))
/-- two steps; g: what came up in the first and lies aside in the second -/
theorem Step.trans (a : Step S H fo S1 H1 (fo1 ++ g)) (b : Step S1 H1 fo1 S2 H2 fo2) : Step S H fo S2 H2 (g ++ fo2) where
  frame := fun x h n => by
    have nf1 : x ∉ fo1 := fun hx => by
      rcases a.own x (List.mem_append_left _ hx) with z | z
      · exact n z
      · exact h z
    rcases a.frame x h n with h1 | ⟨sx, ⟨o, u, h1, h3⟩ | ⟨p1, p2, h1, h3, h5⟩⟩
    · rcases b.frame x (by rw [h1]; exact h) nf1 with h2 | ⟨s1, fo⟩
      · exact .inl (h2.trans h1)
      · refine .inr ⟨?_, fo.imp (fun ⟨o, u, h2, h4⟩ => ⟨o, u, h1.symm.trans h2, h4⟩) fun ⟨o, u, h2, h4⟩ => ⟨o, u, h1.symm.trans h2, h4⟩⟩
        rcases a.stabN x s1 with z | z | z
        · exact z
        · exact absurd z n
        · exact absurd z h
    · exact .inr ⟨sx, .inl ⟨o, u, h1, b.frzs _ _ _ h3⟩⟩
    · rcases b.frame x (by rw [h3]; simp) nf1 with h2 | ⟨s1, ⟨o, u, h2, h4⟩ | ⟨q1, q2, h2, h4, h6⟩⟩
      · exact .inr ⟨sx, .inr ⟨p1, p2, h1, h2.trans h3, h5⟩⟩
      · rw [h3] at h2; cases h2
      · rw [h3] at h2; cases h2
        exact .inr ⟨sx, .inr ⟨p1, q2, h1, h4, fun t => h6 (h5 t)⟩⟩
  tups := fun x xs h => b.tups x xs (a.tups x xs h)
  frzs := fun x o u h => b.frzs x o u (a.frzs x o u h)
  grow := fun x h => b.grow x (a.grow x h)
  stab := fun x h => b.stab x (a.stab x h)
  stabN := fun x h => by
    rcases b.stabN x h with z | z | z
    · exact a.stabN x z
    · exact .inr (a.own x (List.mem_append_left _ z))
    · exact .inr (.inr (a.free z))
  own := fun x h => by
    rcases List.mem_append.mp h with h | h
    · exact a.own x (List.mem_append_right _ h)
    · rcases b.own x h with z | z
      · exact a.own x (List.mem_append_left _ z)
      · exact .inr (a.free z)
  live := fun h => b.live (a.live h)
theorem Step.trans0 (a : Step S H fo S1 H1 fo1) (b : Step S1 H1 fo1 S2 H2 fo2) : Step S H fo S2 H2 fo2 := by
  have := Step.trans (g := []) (by rw [List.append_nil]; exact a) b
  exact this
theorem Step.perm (a : Step S H fo S1 H1 fo1) (h : ∀ x ∈ fo2, x ∈ fo1) : Step S H fo S1 H1 fo2 := ⟨a.frame, a.tups, a.frzs, a.grow, a.stab, a.stabN, fun x hx => a.own x (h x hx), a.live⟩
/-- more is ours -/
theorem Step.more (a : Step S H fo S1 H1 fo1) (h : ∀ x ∈ fo, x ∈ fo2) : Step S H fo2 S1 H1 fo1 := ⟨fun x e n => a.frame x e fun z => n (h x z), a.tups, a.frzs, a.grow, a.stab, fun x e => (a.stabN x e).imp_right fun z => z.imp_left (h x), fun x hx => (a.own x hx).imp_left (h x), a.live⟩
/-- a value that is not ours to change goes on -/
theorem RS.step {K : KK} {mk : Mk} {xs : List Val} {vs : List V} {f : List Addr} (h : RS K S H mk xs vs f) (a : Step S H fo S1 H1 fo1) (d : ∀ x ∈ f, x ∉ fo) (ds : ∀ x, S x → x ∉ fo) (dn : ∀ x ∈ f, ¬ S x) : RS K S1 H1 mk xs vs f :=
  h.keep (fun x hx => by
    rcases a.frame x (h.own x hx).some (d x hx) with z | ⟨s, _⟩
    · exact z
    · exact absurd s (dn x hx)) (fun x s => ⟨a.stab x s, fun n => (a.frame x n (ds x s)).imp_right (·.2)⟩) a.tups a.frzs
end

/-! ### the slots of a frame -/
abbrev Sl := List (Option V)
inductive Slot where
  | emp
  /-- pin: an argument that is handed back -/
  | val (pin : Bool) (m : Mk) (v : Val)
abbrev En := List Slot
inductive ES (K : KK) (S : AS) (H : Hp) : En → Sl → List Addr → Prop where
  | nil : ES K S H [] [] []
  | emp {x e σ f} : ES K S H e σ f → ES K S H (.emp :: e) (x :: σ) f
  | val {p m v w g e σ f} : Rep K S H m v w g → ES K S H e σ f → ES K S H (.val p m v :: e) (some w :: σ) (g ++ f)
/-- what is ours, what stays -/
structure Ow (K : KK) (S : AS) (H : Hp) (fo : List Addr) : Prop where
  nd : fo.Nodup
  ds : ∀ a ∈ fo, ¬ S a
  live : LV K S H
section
variable {K : KK} {S S1 : AS} {H H1 : Hp} {fo fo1 g f f1 : List Addr} {e : En} {σ : Sl}
theorem Ow.left (h : Ow K S H (fo ++ g)) : Ow K S H fo := ⟨(List.nodup_append.mp h.nd).1, fun a ha => h.ds a (List.mem_append_left _ ha), h.live⟩
theorem Ow.right (h : Ow K S H (fo ++ g)) : Ow K S H g := ⟨(List.nodup_append.mp h.nd).2.1, fun a ha => h.ds a (List.mem_append_right _ ha), h.live⟩
theorem Ow.ne (h : Ow K S H (fo ++ g)) : ∀ a ∈ fo, a ∉ g := fun a ha hb => (List.nodup_append.mp h.nd).2.2 a ha a hb rfl
theorem Ow.ne' (h : Ow K S H (fo ++ g)) : ∀ a ∈ g, a ∉ fo := fun a ha hb => h.ne a hb ha
theorem Ow.sd (h : Ow K S H fo) : ∀ a, S a → a ∉ fo := fun a s ha => h.ds a ha s
theorem Ow.perm (h : Ow K S H fo) (p : fo.Perm g) : Ow K S H g := ⟨p.nodup_iff.mp h.nd, fun a ha => h.ds a (p.mem_iff.mpr ha), h.live⟩
theorem Ow.sub (h : Ow K S H fo) (p : g.Sublist fo) : Ow K S H g := ⟨h.nd.sublist p, fun a ha => h.ds a (p.subset ha), h.live⟩
theorem Ow.none (h : Ow K S H fo) : Ow K S H [] := ⟨List.nodup_nil, fun _ h => absurd h (by simp), h.live⟩
/-- behind a step by what is ours alone, with g aside -/
theorem Ow.step (h : Ow K S H (fo ++ g)) (a : Step S H fo S1 H1 f1) (o : Ow K S1 H1 f1) (hg : ∀ x ∈ g, H x ≠ Option.none) : Ow K S1 H1 (g ++ f1) where
  nd := List.nodup_append.mpr ⟨h.right.nd, o.nd, fun x hx y hy e => by
    subst e
    rcases a.own x hy with z | z
    · exact h.ne x z hx
    · exact hg x hx z⟩
  ds := fun x hx s => by
    rcases List.mem_append.mp hx with hx | hx
    · rcases a.stabN x s with z | z | z
      · exact h.right.ds x hx z
      · exact h.ne x z hx
      · exact hg x hx z
    · exact o.ds x hx s
  live := o.live
theorem ES.length (h : ES K S H e σ f) : σ.length = e.length := by
  induction h <;> simp_all
theorem ES.own (h : ES K S H e σ f) : ∀ a ∈ f, Own (H a) := by
  induction h with
  | nil => simp
  | emp _ ih => exact ih
  | val r _ ih =>
    intro a ha
    rcases List.mem_append.mp ha with ha | ha
    · exact RS.own r a ha
    · exact ih a ha
theorem ES.keep {S' : AS} {H' : Hp} (h : ES K S H e σ f) (k : ∀ {m : Mk} {ys : List Val} {ws : List V} {g : List Addr}, (∀ a ∈ g, a ∈ f) → RS K S H m ys ws g → RS K S' H' m ys ws g) : ES K S' H' e σ f := by
  induction h with
  | nil => exact .nil
  | emp _ ih => exact .emp (ih k)
  | val r _ ih => exact .val (k (fun a ha => List.mem_append_left _ ha) r) (ih fun ha => k fun a hb => List.mem_append_right _ (ha a hb))
/-- by a step that leaves what is ours alone -/
theorem ES.step (h : ES K S H e σ f) (a : Step S H fo S1 H1 fo1) (d : ∀ x ∈ f, x ∉ fo) (ds : ∀ x, S x → x ∉ fo) (dn : ∀ x ∈ f, ¬ S x) : ES K S1 H1 e σ f := h.keep fun ha r => r.step a (fun x hx => d x (ha x hx)) ds fun x hx => dn x (ha x hx)
/-- one slot, and what may come in its place -/
theorem ES.get {i : Nat} {p : Bool} {m : Mk} {v : Val} (h : ES K S H e σ f) (hi : e[i]? = some (.val p m v)) : ∃ w fl fp fr, σ[i]? = some (some w) ∧ f = fl ++ (fp ++ fr) ∧ Rep K S H m v w fp ∧
    (∀ {S' : AS} {H' : Hp} {p' : Bool} {m' : Mk} {v' : Val} {w' : V} {fp' : List Addr}, Rep K S' H' m' v' w' fp' → (∀ {m : Mk} {ys : List Val} {ws : List V} {g : List Addr}, (∀ a ∈ g, a ∈ fl ++ fr) → RS K S H m ys ws g → RS K S' H' m ys ws g) → ES K S' H' (e.set i (.val p' m' v')) (σ.set i (some w')) (fl ++ (fp' ++ fr))) ∧
    ES K S H (e.set i .emp) σ (fl ++ fr) := by
  induction h generalizing i with
  | nil => simp at hi
  | emp h ih =>
    cases i with
    | zero => simp at hi
    | succ i =>
      obtain ⟨w, fl, fp, fr, e1, rfl, h1, h2, h3⟩ := ih (by simpa using hi)
      exact ⟨w, fl, fp, fr, by simpa using e1, rfl, h1, fun r k => .emp (h2 r k), .emp h3⟩
  | @val p0 m0 v0 w0 g0 e0 σ0 f0 r h ih =>
    cases i with
    | zero =>
      simp at hi
      obtain ⟨rfl, rfl, rfl⟩ := hi
      exact ⟨_, [], _, _, rfl, rfl, r, fun {S' H' p' m' v' w' fp'} r' k => show ES K S' H' (.val p' m' v' :: e0) (some w' :: σ0) (fp' ++ f0) from ES.val r' (h.keep fun ha => k ha), ES.emp h⟩
    | succ i =>
      obtain ⟨w, fl, fp, fr, e1, rfl, h1, h2, h3⟩ := ih (by simpa using hi)
      refine ⟨w, g0 ++ fl, fp, fr, by simpa using e1, by simp only [List.append_assoc], h1, fun {S' H' p' m' v' w' fp'} r' k => ?_, ?_⟩
      · have := ES.val (p := p0) (k (fun a ha => by simp [ha]) r) (h2 (p' := p') r' fun ha hr => k (fun a z => by
          have := ha a z
          simp only [List.mem_append] at this ⊢
          rcases this with h | h
          · exact .inl (.inr h)
          · exact .inr h) hr)
        simpa [List.append_assoc] using this
      · have := ES.val (p := p0) r h3
        simpa [List.append_assoc] using this
/-- an empty slot is filled -/
theorem ES.put {i : Nat} {p : Bool} {m : Mk} {v : Val} {w : V} (h : ES K S H e σ f) (hi : e[i]? = some .emp) (r : Rep K S H m v w g) : ∃ fl fr, f = fl ++ fr ∧ ES K S H (e.set i (.val p m v)) (σ.set i (some w)) (fl ++ (g ++ fr)) := by
  induction h generalizing i with
  | nil => simp at hi
  | @emp x0 e0 σ0 f0 h ih =>
    cases i with
    | zero => exact ⟨[], f0, rfl, show ES K S H (.val p m v :: e0) (some w :: σ0) (g ++ f0) from .val r h⟩
    | succ i =>
      obtain ⟨fl, fr, rfl, h1⟩ := ih (by simpa using hi)
      exact ⟨fl, fr, rfl, .emp h1⟩
  | @val p0 m0 v0 w0 g0 e0 σ0 f0 r' h ih =>
    cases i with
    | zero => simp at hi
    | succ i =>
      obtain ⟨fl, fr, rfl, h1⟩ := ih (by simpa using hi)
      refine ⟨g0 ++ fl, fr, by simp only [List.append_assoc], ?_⟩
      have := ES.val (p := p0) r' h1
      simpa [List.append_assoc] using this
/-- any slot is forgotten -/
theorem ES.drop {i : Nat} (h : ES K S H e σ f) : ∃ f', f'.Sublist f ∧ ES K S H (e.set i .emp) σ f' := by
  cases hi : e[i]? with
  | none =>
    have : e.set i .emp = e := by
      rw [List.set_eq_of_length_le]
      exact List.getElem?_eq_none_iff.mp hi
    exact ⟨f, List.Sublist.refl _, by rw [this]; exact h⟩
  | some s =>
    cases s with
    | emp =>
      have : e.set i .emp = e := by
        obtain ⟨hl, e1⟩ := List.getElem?_eq_some_iff.mp hi
        rw [← e1]; exact List.set_getElem_self hl
      exact ⟨f, List.Sublist.refl _, by rw [this]; exact h⟩
    | val p m v =>
      obtain ⟨w, fl, fp, fr, e1, rfl, h1, h2, h3⟩ := h.get hi
      exact ⟨fl ++ fr, List.Sublist.append (List.Sublist.refl _) (List.sublist_append_right _ _), h3⟩
theorem ES.forget {i : Nat} {x : Option V} (h : ES K S H e σ f) (hi : e[i]? = some .emp) : ES K S H e (σ.set i x) f := by
  induction h generalizing i with
  | nil => simp at hi
  | emp h ih =>
    cases i with
    | zero => exact .emp h
    | succ i => exact .emp (ih (by simpa using hi))
  | val r' h ih =>
    cases i with
    | zero => simp at hi
    | succ i => exact .val r' (ih (by simpa using hi))
end
end Sh
namespace Sh
open PySem PySem.Spec PyProof.Rows L2
section
variable {K : KK} {S : AS} {H : Hp} {fo : List Addr} {p : Addr} {o : HO}
/-- a new object of ours -/
theorem Step.newO (hp : H p = none) : Step S H fo S (upd H p o) (p :: fo) where
  frame := fun a h _ => .inl (upd_ne fun e => h (by rw [e]; exact hp))
  tups := fun a xs h => by rw [upd_ne fun e => by rw [e, hp] at h; cases h]; exact h
  frzs := fun a o u h => by rw [upd_ne fun e => by rw [e, hp] at h; cases h]; exact h
  grow := fun a h => by rw [upd_ne fun e => h (by rw [e]; exact hp)]; exact h
  stab := fun _ h => h
  stabN := fun _ h => .inl h
  own := fun a h => by
    rcases List.mem_cons.mp h with rfl | h
    · exact .inr hp
    · exact .inl h
  live := fun h => h.to (fun a s => by
    by_cases e : a = p
    · rw [e, upd_same]; simp
    · rw [upd_ne e]; exact h.1 a s) (fun _ s => s) fun a s n => .inl (upd_ne fun e => n (by rw [e]; exact hp))
/-- a new object that stays as it is (a tuple, what nobody keeps) -/
theorem Step.newS (hp : H p = none) : Step S H fo S (upd H p o) fo := Step.perm (Step.newO hp) fun _ h => List.mem_cons_of_mem _ h
/-- the same, a list that stays -/
theorem Step.newL (hp : H p = none) : Step S H fo (fun a => S a ∨ a = p) (upd H p o) fo where
  frame := (Step.newO (S := S) (fo := fo) hp).frame
  tups := (Step.newO (S := S) (fo := fo) hp).tups
  frzs := (Step.newO (S := S) (fo := fo) hp).frzs
  grow := (Step.newO (S := S) (fo := fo) hp).grow
  stab := fun _ h => .inl h
  stabN := fun a h => by
    rcases h with h | rfl
    · exact .inl h
    · exact .inr (.inr hp)
  own := fun _ h => .inl h
  live := fun h => h.to (fun a s => by
    by_cases e : a = p
    · rw [e, upd_same]; simp
    · rw [upd_ne e]
      rcases s with s | s
      · exact h.1 a s
      · exact absurd s e) (fun _ s => .inl s) fun a s n => .inl (upd_ne fun e => n (by rw [e]; exact hp))
/-- an object of ours is written -/
theorem Step.write (hp : p ∈ fo) (h : Own (H p)) : Step S H fo S (upd H p o) fo where
  frame := fun a _ n => .inl (upd_ne fun e => n (by rw [e]; exact hp))
  tups := fun a xs q => by rw [upd_ne fun e => by rw [← e, q] at h; exact h]; exact q
  frzs := fun a o u q => by rw [upd_ne fun e => by rw [← e, q] at h; exact h]; exact q
  grow := fun a q => by
    by_cases e : a = p
    · rw [e, upd_same]; simp
    · rw [upd_ne e]; exact q
  stab := fun _ h => h
  stabN := fun _ h => .inl h
  own := fun _ h => .inl h
  live := fun hl => ⟨fun a s => by
    by_cases e : a = p
    · rw [e, upd_same]; simp
    · rw [upd_ne e]; exact hl.1 a s, fun P hP => by
    obtain ⟨s, ps, e, t⟩ := hl.2 P hP
    exact ⟨s, ps, (upd_ne fun q => by rw [← q, e] at h; exact h).trans e, t⟩⟩
/-- what is ours stays from now on -/
theorem Step.freeze {g : List Addr} (hg : ∀ a ∈ g, a ∈ fo) (hn : ∀ a ∈ g, H a ≠ none) {f' : List Addr} (hf : ∀ a ∈ f', a ∈ fo) : Step S H fo (fun a => S a ∨ a ∈ g) H f' where
  frame := fun _ _ _ => .inl rfl
  tups := fun _ _ h => h
  frzs := fun _ _ _ h => h
  grow := fun _ h => h
  stab := fun _ h => .inl h
  stabN := fun a h => h.imp_right fun z => .inl (hg a z)
  own := fun a h => .inl (hf a h)
  live := fun h => h.to (fun a s => by
    rcases s with s | s
    · exact h.1 a s
    · exact hn a s) (fun _ s => .inl s) fun _ _ _ => .inl rfl

/-- what a rule by values hands on: a value of mark m that is v, at the heap behind a step that changes nothing of ours -/
def Gives (K : KK) (S : AS) (H : Hp) (m : Mk) (v : Val) (Q : VK) : Prop := ∀ (S' : AS) (H' : Hp) (w : V) (f : List Addr), Step S H [] S' H' f → (∀ a, H a ≠ none → H' a = H a) → Ow K S' H' f → Rep K S' H' m v w f → Q w H'
variable {m : Mk} {Q : VK} {xs : List Val} {ws : List V} {f : List Addr}
theorem Gives.non (g : Gives K S H m .non Q) (o : Ow K S H fo) : Q .non H := g S H _ [] Step.refl (fun _ _ => rfl) o.none Rep.non
theorem Gives.bl {b : Bool} (g : Gives K S H m (.bl b) Q) (o : Ow K S H fo) : Q (.bl b) H := g S H _ [] Step.refl (fun _ _ => rfl) o.none Rep.bl
theorem Gives.int {i : Int} (g : Gives K S H m (.int i) Q) (o : Ow K S H fo) : Q (.int i) H := g S H _ [] Step.refl (fun _ _ => rfl) o.none Rep.int
theorem Gives.str {x : Str} (g : Gives K S H m (.str x) Q) (o : Ow K S H fo) : Q (.str x) H := g S H _ [] Step.refl (fun _ _ => rfl) o.none Rep.str
/-- a value that stays as it is -/
theorem Gives.st {v : Val} {w : V} (g : Gives K S H .st v Q) (o : Ow K S H fo) (r : Rep K S H .st v w f) : Q w H := by
  have e := r.st_nil
  subst e
  exact g S H w [] Step.refl (fun _ _ => rfl) o.none r
theorem RS.toL (h : RS K S H .st xs ws f) : RS K S H (.l .st) xs ws f := by
  induction xs generalizing ws f with
  | nil => obtain ⟨rfl, rfl⟩ := h.nil_inv; exact .nil _
  | cons x xs ih =>
    obtain ⟨v, ws', fp, fr, rfl, rfl, h1, h2⟩ := h.uncons
    exact RS.cons (mk := .l .st) h1 (ih h2)
theorem RS.ofL (h : RS K S H (.l .st) xs ws f) : RS K S H .st xs ws f := by
  induction xs generalizing ws f with
  | nil => obtain ⟨rfl, rfl⟩ := h.nil_inv; exact .nil _
  | cons x xs ih =>
    obtain ⟨v, ws', fp, fr, rfl, rfl, h1, h2⟩ := h.uncons
    exact RS.cons (mk := .st) h1 (ih h2)
theorem RS.same {S' : AS} {H' : Hp} {mk : Mk} (h : RS K S H mk xs ws f) (hs : ∀ a, H a ≠ none → H' a = H a) (hS : ∀ a, S a → S' a) : RS K S' H' mk xs ws f :=
  h.keep (fun a ha => hs a (h.own a ha).some) (fun a s => ⟨hS a s, fun n => .inl (hs a n)⟩) (fun a xs q => (hs a (by rw [q]; simp)).trans q) (fun a o u q => (hs a (by rw [q]; simp)).trans q)
theorem RS.laid {mk : Mk} (h : RS K S H mk xs ws f) (hp : H p = none) : RS K S (upd H p o) mk xs ws f :=
  h.keep (fun a ha => upd_ne fun e => by have := (h.own a ha).some; rw [e] at this; exact this hp) (fun a s => ⟨s, fun n => .inl (upd_ne fun e => n (by rw [e]; exact hp))⟩)
    (fun a xs q => by rw [upd_ne fun e => by rw [e, hp] at q; cases q]; exact q) (fun a o u q => by rw [upd_ne fun e => by rw [e, hp] at q; cases q]; exact q)
/-- a new list of things that stay -/
theorem Gives.lst (g : Gives K S H (.l .st) (.lst xs) Q) (o : Ow K S H fo) (r : RS K S H .st xs ws []) (hp : H p = none) : Q (.ref p) (upd H p (.lst ws)) := by
  have ns : ¬ S p := fun s => o.live.1 p s hp
  refine g S _ _ [p] (Step.newO hp) (fun a h => upd_ne fun e => h (by rw [e]; exact hp)) ⟨by simp, fun a ha => ?_, Step.live (Step.newO (fo := []) hp) o.live⟩ ?_
  · have : a = p := by simpa using ha
    subst this; exact ns
  · exact Rep.lstO upd_same (RS.laid r hp).toL
/-- a new tuple of things that stay -/
theorem Gives.tup {its : Array Value} (g : Gives K S H .st (.tup xs) Q) (o : Ow K S H fo) (r : RS K S H .st xs ws []) (hp : H p = none) : Q (.ref p) (upd H p (.frz (tupO its) (.tup ws))) := by
  refine g S _ _ [] (Step.newS (fo := []) hp) (fun a h => upd_ne fun e => h (by rw [e]; exact hp)) ⟨by simp, by simp, Step.live (Step.newS (fo := []) hp) o.live⟩ ?_
  exact Rep.tup rfl (.new upd_same) (RS.laid r hp)
end
end Sh

/-! ShA2: new tuples, known as they are -/
namespace Sh
open PySem PySem.Spec PyProof.Rows L2
section
variable {X : Cx}
theorem tup_laid {pins : List (Addr × Obj)} {σ : L2.St} {H : Hp} {s : Shared} {xs : List V} {its : List Value} (I : Inv X pins σ H s) (z : xs.length ≤ sizeLine) (r : Vals xs its) :
    Inv X pins σ (upd H s.heap.objs.size (.frz (tupO its.toArray) (.tup xs))) { s with heap := s.heap.push (tupO its.toArray) } :=
  I.laid (t' := s.toks) (fun b u e => Heap.get?_push_of_some _ e) (Nat.le_refl _) (show ObjOk X.prog X.w _ _ _ (.frz (tupO its.toArray) (.tup xs)) from ⟨Heap.get?_push_size _ rfl, z, its, r, IsTup.new _ _⟩)
def tTupF (t : TA) : TE := fun σ H Q => t σ H fun xs H1 => xs.length ≤ sizeLine ∧ ∀ p its, H1 p = none → Q (.ref p) (upd H1 p (.frz (tupO its) (.tup xs)))
theorem pe_tupF {es : List Expr} {t : TA} {pos : Pos} {x1} (h : L2.PA X es t) : PE X (.Tuple es x1 pos) (tTupF t) := by
  refine ⟨fun pins s σ H Q I hq => ?_⟩
  refine wpAny_Tuple_spliced (thn (h.run pos pins s σ H _ I hq) fun us s1 ⟨xs, H1, I1, r, z, q⟩ => ⟨by rw [← r.length]; exact z, ?_⟩)
  exact ⟨.ref s1.heap.objs.size, _, tup_laid I1 z r, rfl, q _ _ (I1.hok.fresh (Nat.le_refl _))⟩
def rTupOf (K : PySem.W.Frag) : List V → Hp → VK → Prop := fun xs H Q => ∃ p ys, xs = [.ref p] ∧ ((SqL K H p ys ∧ ∀ l its, H l = none → Q (.ref l) (upd H l (.frz (tupO its) (.tup ys)))) ∨ (SqT K H p ys ∧ Q (.ref p) H))
theorem call_tupleF : CallR X (.type "tuple") (rTupOf X.K) := by
  intro pins s σ H xs us Q I r h
  obtain ⟨p, ys, rfl, h⟩ := h
  obtain ⟨u, rfl, rx⟩ := vals1 r
  cases rx
  rcases h with ⟨hq, q⟩ | ⟨hq, q⟩
  · obtain ⟨its, r', pl, hz⟩ := I.list hq
    have hlen := r'.length
    refine call_tuple_list pl.isList (fun h' kp => ?_) (by simp only [List.size_toArray] <;> omega)
    have I1 : Inv X pins σ H { s with heap := h' } := I.kept (t' := s.toks) kp
    exact ⟨.ref h'.objs.size, _, tup_laid I1 hz r', rfl, q _ _ (I1.hok.fresh (Nat.le_refl _))⟩
  · obtain ⟨its, r', pl, hz⟩ := I.tuple hq
    exact call_tuple_same pl ⟨.ref p, H, I, rfl, q⟩
def rCatF (K : PySem.W.Frag) : R2 := fun x y H Q => ∃ a b xs ys, x = .ref a ∧ y = .ref b ∧ SqT K H a xs ∧ SqT K H b ys ∧ xs.length + ys.length ≤ sizeLine ∧
  (xs = [] → Q (.ref b) H) ∧ (ys = [] → Q (.ref a) H) ∧ ∀ p its, H p = none → Q (.ref p) (upd H p (.frz (tupO its) (.tup (xs ++ ys))))
theorem op_catF : OpR X (binaryOp .Add) (rCatF X.K) := by
  intro pins s σ H x y v u Q I rx ry h
  obtain ⟨a, b, xs, ys, rfl, rfl, ha, hb, hz, q0, q1, q2⟩ := h
  cases rx
  cases ry
  obtain ⟨its, r1, p1, _⟩ := I.tuple ha
  obtain ⟨its2, r2, p2, _⟩ := I.tuple hb
  by_cases hx : xs = []
  · subst hx
    cases r1
    exact cat_tup0 p1 p2 ⟨.ref b, H, I, rfl, q0 rfl⟩
  · refine HT.cat_tup p1 p2 (fun z => hx (r1.nil_iff.mp z)) (fun z => ⟨.ref a, H, I, rfl, q1 (r2.nil_iff.mp z)⟩) (fun z => ?_) (by rw [← r1.length, ← r2.length]; exact hz)
    exact ⟨.ref s.heap.objs.size, _, tup_laid I (by rw [List.length_append]; exact hz) (r1.append r2), rfl, q2 _ _ (I.hok.fresh (Nat.le_refl _))⟩
def rSlF (K : PySem.W.Frag) : V → Option Int → Option Int → Hp → VK → Prop := fun x lo hi H Q => ∃ a xs, x = .ref a ∧ SqT K H a xs ∧
  (HT.sIx xs.length 0 lo = 0 ∧ HT.sIx xs.length xs.length hi = xs.length → Q (.ref a) H) ∧ (¬ (HT.sIx xs.length 0 lo = 0 ∧ HT.sIx xs.length xs.length hi = xs.length) → ∀ p its, H p = none → Q (.ref p) (upd H p (.frz (tupO its) (.tup (cutV xs lo hi)))))
theorem sl_tupF : SlR X (rSlF X.K) := by
  intro pins s σ H x v vl vu lo hi sl Q I rx hs pl pu h
  obtain ⟨a, xs, rfl, hx, q1, q2⟩ := h
  cases rx
  obtain ⟨its, r, ht, hz⟩ := I.tuple hx
  have hlen : its.toArray.size = xs.length := by rw [List.size_toArray]; exact r.length.symm
  by_cases hw : HT.sIx xs.length 0 lo = 0 ∧ HT.sIx xs.length xs.length hi = xs.length
  · refine ⟨"tuple", _, PyProof.Rows.slot_tuple_getitem.lookup, ht.typeIs, ?_⟩
    exact getItem_tuple_whole ht hs pl pu (by rw [hlen]; exact hw) ⟨.ref a, H, I, rfl, q1 hw⟩
  · refine ⟨"tuple", _, PyProof.Rows.slot_tuple_getitem.lookup, ht.typeIs, ?_⟩
    refine HT.getItem_tuple_cut ht hs pl pu (by rw [hlen]; exact hw) ?_ (by rw [hlen]; exact hz)
    rw [hlen]
    exact ⟨.ref s.heap.objs.size, _, tup_laid I (Nat.le_trans (cutV_length xs lo hi) hz) ((r.drop (HT.sIx xs.length 0 lo)).take (HT.sIx xs.length xs.length hi - HT.sIx xs.length 0 lo)), rfl, q2 hw _ _ (I.hok.fresh (Nat.le_refl _))⟩
theorem tuple_mul1 (l : Addr) (items : Array Value) (n : Nat) (dd : Option Addr) (sl : Array (Option Value)) (u : Tok) :
    Meets (Builtin.«tuple.__mul__» ⟨[.ref l, .int 1 u], []⟩) (fun _ R s => s.heap.get? l = some { cls := .type "tuple", dict := dd, data := .seq items n, slots := sl } ∧ R (.ok (.ret (Value.ref l))) s) :=
  .of_wp fun prog w A R s h => by
    obtain ⟨hp, g, d, tk, os⟩ := s
    obtain ⟨hl, h⟩ := h
    have f1 := AutoSeq1.idx_int
    wp_walk using wpAny_loadPart' hl
    repeat (first
      | (refine wpAny_ite_false (decide_eq_false (by decide)) ?_; wp_walk using wpAny_loadPart' hl)
      | (refine wpAny_ite_true (decide_eq_true (by simp)) ?_; wp_walk using wpAny_loadPart' hl))
    exact ⟨_, rfl, h⟩
def rRepF (K : PySem.W.Frag) : R2 := fun x y H Q => ∃ l k xs, x = .ref l ∧ y = .int k ∧ SqT K H l xs ∧ xs ≠ [] ∧ 1 ≤ k ∧ k ≤ 1000 ∧ xs.length ≤ 1000 ∧ (k = 1 → Q (.ref l) H) ∧ ∀ p its, H p = none → Q (.ref p) (upd H p (.frz (tupO its) (.tup (List.replicate k.toNat xs).flatten)))
theorem op_repF : OpR X (binaryOp .Mult) (rRepF X.K) := by
  intro pins s σ H x y v u Q I rx ry h
  obtain ⟨l, k, xs, rfl, rfl, hT, hne, h1, h2, hz, q1, q⟩ := h
  cases rx
  obtain ⟨t, rfl⟩ := ry
  obtain ⟨its, r, ⟨⟨cls, dd, data, sl⟩, ho, hc, n, hd⟩, hs⟩ := I.tuple hT
  simp only at hc hd
  subst hc hd
  have hle : its.length = xs.length := r.length.symm
  have hn : its ≠ [] := fun e => hne (by
    rw [e] at hle
    exact List.eq_nil_of_length_eq_zero hle.symm)
  have hi : its.toArray.isEmpty = false := by
    cases its with
    | nil => exact absurd rfl hn
    | cons a b => rfl
  have hsz0 : its.toArray.size = xs.length := by rw [List.size_toArray, hle]
  have hm : ((its.toArray.size : Nat) : Int) * k ≤ 1000000 := by
    rw [hsz0]
    have a1 : ((xs.length : Nat) : Int) * k ≤ 1000 * k := Int.mul_le_mul_of_nonneg_right (by omega) (by omega)
    omega
  have flen : (List.replicate k.toNat its).flatten.length ≤ sizeLine := by
    rw [PyProof.Rows.lm_len_rep_flat, hle, sizeLine_eq]
    have a1 : k.toNat * xs.length ≤ 1000 * 1000 := Nat.mul_le_mul (by omega) hz
    omega
  have c0 : (decide (k < -(2 ^ 63)) || decide (k ≥ 2 ^ 63)) = false := by
    rw [decide_eq_false (by omega), decide_eq_false (by omega)] <;> rfl
  by_cases hk1 : k = 1
  · subst hk1
    refine wpAny_binaryOp_repeat_ref (T := "tuple") (U := "int") (by decide) ⟨_, ho, rfl⟩ (fun s' => typeIs_int s' 1 t) noFill_tuple_mul F.fills_int_mul F.slot_int_rmul repeat_tuple F.slot_int_index.lookup
      (call_meets F.slot_int_rmul (typeIs_int s 1 t) F.entry_int_rmul (F.args_int_rmul_2 _ _) (int_rmul_tuple 1 t l its.toArray n dd sl)
        ⟨ho, rfl, ⟨_, ho, rfl⟩, call_meets F.slot_tuple_mul ⟨_, ho, rfl⟩ F.entry_tuple_mul (F.args_tuple_mul_2 _ _) (tuple_mul1 l its.toArray n dd sl t) ⟨ho, ?_⟩⟩)
    exact ⟨.ref l, H, I, rfl, q1 rfl⟩
  have c1 : (its.toArray.isEmpty || k == 1) = false := by
    rw [hi, Bool.false_or]
    exact beq_eq_false_iff_ne.mpr hk1
  have c2 : (decide (k ≤ 0) || its.toArray.isEmpty) = false := by
    rw [hi, Bool.or_false]
    exact decide_eq_false (by omega)
  have c4 : Builtin.Tuple.tupleTooMany (((its.toArray.size : Nat) : Int) * k) = false := by
    unfold Builtin.Tuple.tupleTooMany
    rw [sizeLine_eq]
    exact decide_eq_false (by omega)
  refine wpAny_binaryOp_repeat_ref (T := "tuple") (U := "int") (by decide) ⟨_, ho, rfl⟩ (fun s' => typeIs_int s' k t) noFill_tuple_mul F.fills_int_mul F.slot_int_rmul repeat_tuple F.slot_int_index.lookup
    (call_meets F.slot_int_rmul (typeIs_int s k t) F.entry_int_rmul (F.args_int_rmul_2 _ _) (int_rmul_tuple k t l its.toArray n dd sl)
      ⟨ho, rfl, ⟨_, ho, rfl⟩, call_meets F.slot_tuple_mul ⟨_, ho, rfl⟩ F.entry_tuple_mul (F.args_tuple_mul_2 _ _) (tuple_mulW l its.toArray n dd sl k t c0 c1 c2 (by omega) c4 (by rw [size_rep, List.size_toArray]; exact flen)) ⟨ho, ?_⟩⟩)
  rw [size_rep]
  exact ⟨.ref s.heap.objs.size, _, tup_laid I (by rw [PyProof.Rows.lm_len_rep_flat, sizeLine_eq]; have a1 : k.toNat * xs.length ≤ 1000 * 1000 := Nat.mul_le_mul (by omega) hz; omega) (r.rep k.toNat), rfl, q _ _ (I.hok.fresh (Nat.le_refl _))⟩
def tTupRgF (te : Sl → Hp → (Int → Int → Hp → Prop) → Prop) : TE := fun σ H Q => te σ H fun a b H1 => RgOk a b ∧ ∀ q its, H1 q = none → Q (.ref q) (upd H1 q (.frz (tupO its) (.tup (rgV a b))))
theorem pe_tupRgF {e : Expr} {te : Sl → Hp → (Int → Int → Hp → Prop) → Prop} {p pos : Pos} (hc : X.calm = true) (hg : Gl X "tuple") (hm : X.mg "tuple" = none) (he : PRg X e te) (na : starEach [e] X.env = (false, eval e X.env) :: starEach [] X.env := by rfl) : PE X (.Call (.Name "tuple" p) [e] [] pos) (tTupRgF te) := by
  refine ⟨fun pins s σ H Q I h => ?_⟩
  refine Call_ (ld_blt I hg hm boot_tuple (PyProof.Rows.callWith_type1 (args_cons (thn (he pins s σ H _ I h) fun x s1 ⟨r, a, b, t, u, v, H1, ex, hr, I1, ok, q⟩ => args_nil ?_) na) na))
  subst ex
  obtain ⟨b1, b2, b3, b4, b5⟩ := ok
  refine call_tuple_range (n := (b - a).toNat) (I1.ok.hd hc) hr (small_one b1 b2 b3 b4) (rangeSize_nat a b) b5 fun h' tk acc hk hi => ?_
  have I2 : Inv X pins σ H1 { s1 with heap := h', toks := tk } := I1.kept hk
  have hz : (rgV a b).length ≤ sizeLine := by rw [rgV_length, sizeLine_eq]; omega
  have := tup_laid (its := acc.toList) I2 hz (vals_rg hi)
  rw [Array.toArray_toList] at this
  exact ⟨.ref h'.objs.size, _, this, rfl, q _ _ (I2.hok.fresh (Nat.le_refl _))⟩
/-- a thing that is walked stays as it is from then on -/
theorem pe_frz {e : Expr} {td : TE} (h : PE X e td) : PE X e (fun σ H Q => td σ H fun x H1 => ∃ d, x = .ref d ∧ ((∃ u, H1 d = some u ∧ Mut (some u) ∧ ∀ od, Q (.ref d) (upd H1 d (.frz od u))) ∨ Q (.ref d) H1)) := by
  refine ⟨fun pins s σ H Q I hq => ?_⟩
  refine thn (h.run pins s σ H _ I hq) fun v s1 ⟨x, H1, I1, rx, d, ex, q⟩ => ?_
  subst ex
  rcases q with ⟨u, hd, mu, q⟩ | q
  · obtain ⟨od, I2⟩ := I1.lock hd mu
    exact ⟨.ref d, _, I2, rx, q od⟩
  · exact ⟨.ref d, H1, I1, rx, q⟩
theorem DGet.kr {H : Hp} {a : Addr} {kvs : List (Key × V)} {k : Key} (e : Rd H a (.dK kvs)) : DGet H a (kV k) (valV kvs k) := .inl ⟨kvs, k, e, rfl, rfl⟩
end
end Sh

/-! ShB: what operators and built-ins do by values, and that they do so -/
namespace Sh
open PySem PySem.Spec PyProof.Rows L2

mutual
def Val.D : Val → PyData
  | .non => .none | .bl b => .bool b | .int i => .int i | .str x => .str x
  | .tup xs => .tuple (Val.Ds xs) | .lst xs => .list (Val.Ds xs) | .dk _ => .dict [] | .dt _ => .dict []
def Val.Ds : List Val → List PyData
  | [] => [] | x :: xs => x.D :: Val.Ds xs
end
theorem Val.Ds_map : ∀ xs : List Val, Val.Ds xs = xs.map Val.D
  | [] => by simp [Val.Ds]
  | x :: xs => by rw [Val.Ds, Val.Ds_map xs]; rfl
/-- data that may be compared at any depth -/
def okV (v : Val) : Bool := SeqAt.shaped v.D
section
variable {K : KK} {S : AS} {H : Hp} {mk m : Mk} {xs : List Val} {ws : List V} {f : List Addr}
theorem RS.dp (h : RS K S H mk xs ws f) : PyData.canLayAll0 (Val.Ds xs) = true → DpAll K.K H ws (Val.Ds xs) := by
  induction h with
  | nil => intro _; simp only [Val.Ds]; exact .nil
  | non _ ih => intro e; simp only [Val.Ds, PyData.canLayAll0, Bool.and_eq_true] at e ⊢; simp only [Val.D]; exact .cons .non (ih e.2)
  | bl _ ih => intro e; simp only [Val.Ds, PyData.canLayAll0, Bool.and_eq_true] at e ⊢; simp only [Val.D]; exact .cons (.bl _) (ih e.2)
  | int _ ih => intro e; simp only [Val.Ds, PyData.canLayAll0, Bool.and_eq_true] at e ⊢; simp only [Val.D]; exact .cons (.int _) (ih e.2)
  | str _ ih => intro e; simp only [Val.Ds, PyData.canLayAll0, Bool.and_eq_true] at e ⊢; simp only [Val.D]; exact .cons (.str _) (ih e.2)
  | tup a b _ _ ih1 ih2 =>
    intro e
    simp only [Val.Ds, PyData.canLayAll0, Bool.and_eq_true, Val.D, PyData.canLay0] at e ⊢
    exact .cons (.tup b.sq (ih1 e.1)) (ih2 e.2)
  | lstO a b _ _ ih1 ih2 =>
    intro e
    simp only [Val.Ds, PyData.canLayAll0, Bool.and_eq_true, Val.D, PyData.canLay0] at e ⊢
    exact .cons (.lst (.of b) (ih1 e.1)) (ih2 e.2)
  | lstS a b _ _ ih1 ih2 =>
    intro e
    simp only [Val.Ds, PyData.canLayAll0, Bool.and_eq_true, Val.D, PyData.canLay0] at e ⊢
    exact .cons (.lst b.seq (ih1 e.1)) (ih2 e.2)
  | dkO => intro e; simp [Val.Ds, PyData.canLayAll0, Val.D, PyData.canLay0] at e
  | dkS => intro e; simp [Val.Ds, PyData.canLayAll0, Val.D, PyData.canLay0] at e
  | dtO => intro e; simp [Val.Ds, PyData.canLayAll0, Val.D, PyData.canLay0] at e
  | dtS => intro e; simp [Val.Ds, PyData.canLayAll0, Val.D, PyData.canLay0] at e
theorem Rep.dp {v : Val} {w : V} (h : Rep K S H m v w f) (e : okV v = true) : Dp K.K H w v.D := by
  have h2 : v.D.canLay0 = true := SeqAt.canLay_of_shaped e
  have := RS.dp h (by simp [Val.Ds, PyData.canLayAll0, h2])
  simp only [Val.Ds] at this
  cases this with
  | cons a _ => exact a
end

/-! ### operators -/
inductive BOp where
  | add | sub | mul | fdiv | mod | pow | shl | shr | band | bor | bxor
  deriving DecidableEq
def BOp.py : BOp → Operator
  | .add => .Add | .sub => .Sub | .mul => .Mult | .fdiv => .FloorDiv | .mod => .Mod | .pow => .Pow | .shl => .LShift | .shr => .RShift | .band => .BitAnd | .bor => .BitOr | .bxor => .BitXor
abbrev MV := Mk × Val
def smallI (i : Int) : Bool := decide (-(2 ^ 64) < i ∧ i < 2 ^ 64)
def mulOk (i j : Int) : Bool := smallI i || smallI j || decide (((i.natAbs.log2 + j.natAbs.log2 : Nat) : Int) < 100000000)
def catV (m : Mk) (xs : List Val) (m' : Mk) (ys : List Val) : Option MV := if m.hd = .st ∧ m'.hd = .st ∧ xs.length + ys.length ≤ sizeLine then some (.l .st, .lst (xs ++ ys)) else none
def cattV (m : Mk) (xs : List Val) (m' : Mk) (ys : List Val) : Option MV := if m = .st ∧ m' = .st ∧ xs.length + ys.length ≤ sizeLine then some (.st, .tup (xs ++ ys)) else none
def repV (xs : List Val) (k : Int) : Option MV := if -(2 ^ 63) ≤ k ∧ k < 2 ^ 63 ∧ xs.length * k.toNat ≤ sizeLine then some (.l .st, .lst (List.replicate k.toNat xs).flatten) else none
def binV : BOp → MV → MV → Option MV
  | .add, (_, .int i), (_, .int j) => some (.st, .int (i + j))
  | .sub, (_, .int i), (_, .int j) => some (.st, .int (i - j))
  | .mul, (_, .int i), (_, .int j) => if mulOk i j then some (.st, .int (i * j)) else none
  | .fdiv, (_, .int i), (_, .int j) => if j ≠ 0 ∧ j.natAbs < 1073741824 then some (.st, .int (i.fdiv j)) else none
  | .mod, (_, .int i), (_, .int j) => if j ≠ 0 then some (.st, .int (i.fmod j)) else none
  | .pow, (_, .int i), (_, .int j) => if 0 ≤ j ∧ j ≤ 1000000 ∧ i.natAbs < 2 ^ 64 then some (.st, .int (i ^ j.toNat)) else none
  | .shl, (_, .int i), (_, .int j) => if 0 ≤ j ∧ j ≤ 1000000 ∧ i.natAbs < 2 ^ 64 then some (.st, .int (i * 2 ^ j.toNat)) else none
  | .shr, (_, .int i), (_, .int j) => if 0 ≤ j then some (.st, .int (i / 2 ^ j.toNat)) else none
  | .band, (_, .int i), (_, .int j) => some (.st, .int (Builtin.bitAnd i j))
  | .bor, (_, .int i), (_, .int j) => some (.st, .int (Builtin.bitOr i j))
  | .bxor, (_, .int i), (_, .int j) => some (.st, .int (Builtin.bitXor i j))
  | .add, (_, .str x), (_, .str y) => if x.length + y.length ≤ sizeLine then some (.st, .str (x ++ y)) else none
  | .add, (m, .tup xs), (m', .tup ys) => cattV m xs m' ys
  | .add, (m, .lst xs), (m', .lst ys) => catV m xs m' ys
  | .mul, (.l .st, .lst xs), (_, .int k) => repV xs k
  | .mul, (.st, .tup xs), (_, .int k) => if xs ≠ [] ∧ 1 ≤ k ∧ k ≤ 1000 ∧ xs.length ≤ 1000 then some (.st, .tup (List.replicate k.toNat xs).flatten) else none
  | _, _, _ => none

section
variable {X : Cx}
theorem op_mulB : OpR X (binaryOp .Mult) (rI (fun i j => mulOk i j = true) fun i j => .int (i * j)) := opI fun i j _ _ _ _ _ hc q => by
  simp only [mulOk, Bool.or_eq_true] at hc
  rcases hc with (h | h) | h
  · exact mul_int q (CMul.ok (.inl (of_decide_eq_true h)))
  · exact mul_int q (CMul.ok (.inr (of_decide_eq_true h)))
  · refine mul_int q ?_
    have b : ∀ x : Int, Builtin.Int.intBits x ≤ x.natAbs.log2 + 1 := fun x => by
      unfold Builtin.Int.intBits
      split <;> omega
    have h1 := b i
    have h2 := b j
    have h3 := of_decide_eq_true h
    have e : bitsLine = 134217728 := by decide
    unfold IntMulOk
    intro z
    rw [Bool.and_eq_true] at z
    have z2 := z.2
    unfold Builtin.Int.intTooBig at z2
    have z3 := of_decide_eq_true z2
    rw [e] at z3
    omega
/-- list + list, whoever has them -/
def rCatL (K : PySem.W.Frag) : R2 := fun x y H Q => ∃ l b xs zs, x = .ref l ∧ y = .ref b ∧ SqL K H l xs ∧ SqL K H b zs ∧ xs.length + zs.length ≤ sizeLine ∧ ∀ p, H p = none → Q (.ref p) (upd H p (.lst (xs ++ zs)))
theorem op_catL : OpR X (binaryOp .Add) (rCatL X.K) := by
  intro pins s σ H x y v u Q I rx ry h
  obtain ⟨l, b, xs, zs, rfl, rfl, hH, hB, hz, q⟩ := h
  cases rx
  cases ry
  obtain ⟨its, r, ⟨⟨cls, dd, data, sl⟩, n, e, hc, hd, hs⟩, z⟩ := I.list hH
  obtain ⟨its2, r2, ⟨⟨cls2, dd2, data2, sl2⟩, n2, e2, hc2, hd2, hs2⟩, z2⟩ := I.list hB
  simp only at hc hd hs hc2 hd2 hs2
  subst hc hd hs hc2 hd2 hs2
  have l1 := r.length
  have l2 := r2.length
  refine PySem.concat_meets ⟨_, e, rfl⟩ ⟨_, e2, rfl⟩ noFill_list_add seq_list_add PySem.F.slot_list_add PySem.F.entry_list_add (PySem.F.args_list_add_2 _ _)
    (PyProof.Rows.list_addW l b its.toArray its2.toArray n n2 none none sl sl2 (by rw [List.size_toArray, List.size_toArray]; omega)) ⟨e, e2, ?_⟩
  have ea : its.toArray ++ its2.toArray = (its ++ its2).toArray := by simp
  rw [ea]
  exact ⟨.ref _, _, I.lnew (t' := s.toks) (r.append r2) (by rw [List.length_append]; omega), rfl, q _ I.fresh⟩
/-- all of + at once -/
def rAdd4 (K : PySem.W.Frag) : R2 := fun x y H Q => ((rI0 fun i j => .int (i + j)) x y H Q ∨ (∃ i j, x = .str i ∧ y = .str j ∧ i.length + j.length ≤ sizeLine ∧ Q (.str (i ++ j)) H)) ∨ rCatF K x y H Q ∨ rCatL K x y H Q
theorem op_add4 : OpR X (binaryOp .Add) (rAdd4 X.K) := (op_add.or op_add_str).or (op_catF.or op_catL)
def rMul2 (K : PySem.W.Frag) : R2 := fun x y H Q => ((rI (fun i j => mulOk i j = true) fun i j => .int (i * j)) x y H Q ∨ rRep x y H Q) ∨ rRepF K x y H Q
theorem op_mul2 : OpR X (binaryOp .Mult) (rMul2 X.K) := (op_mulB.or op_rep).or op_repF
end

/-- the rule of each operator -/
def rBin (K : PySem.W.Frag) : BOp → R2
  | .add => rAdd4 K
  | .sub => rI0 fun i j => .int (i - j)
  | .mul => rMul2 K
  | .fdiv => rI CDivN fun i j => .int (i.fdiv j)
  | .mod => rI (fun _ j => j ≠ 0) fun i j => .int (i.fmod j)
  | .pow => rI CPow fun i j => .int (i ^ j.toNat)
  | .shl => rI CPow fun i j => .int (i * 2 ^ j.toNat)
  | .shr => rI (fun _ j => 0 ≤ j) fun i j => .int (i / 2 ^ j.toNat)
  | .band => rI0 fun i j => .int (Builtin.bitAnd i j)
  | .bor => rI0 fun i j => .int (Builtin.bitOr i j)
  | .bxor => rI0 fun i j => .int (Builtin.bitXor i j)
theorem op_bin {X : Cx} : ∀ op : BOp, OpR X (binaryOp op.py) (rBin X.K op)
  | .add => op_add4
  | .sub => op_sub
  | .mul => op_mul2
  | .fdiv => op_fdivN
  | .mod => op_modN
  | .pow => op_pow
  | .shl => op_shl
  | .shr => op_shr
  | .band => op_and
  | .bor => op_or
  | .bxor => op_xor
section
variable {K : KK} {S : AS} {H : Hp} {fo : List Addr} {a b r : MV} {x y : V} {f1 f2 : List Addr} {Q : VK}
theorem catV_inv {m m' : Mk} {xs ys : List Val} (h : catV m xs m' ys = some r) : m.hd = .st ∧ m'.hd = .st ∧ xs.length + ys.length ≤ sizeLine ∧ r = (.l .st, .lst (xs ++ ys)) := by
  unfold catV at h; split at h
  · rename_i c; exact ⟨c.1, c.2.1, c.2.2, (Option.some.inj h).symm⟩
  · cases h
theorem cattV_inv {m m' : Mk} {xs ys : List Val} (h : cattV m xs m' ys = some r) : m = .st ∧ m' = .st ∧ xs.length + ys.length ≤ sizeLine ∧ r = (.st, .tup (xs ++ ys)) := by
  unfold cattV at h; split at h
  · rename_i c; exact ⟨c.1, c.2.1, c.2.2, (Option.some.inj h).symm⟩
  · cases h
/-- a list whose items stay -/
theorem Rep.flat {m : Mk} {xs : List Val} (h : Rep K S H m (.lst xs) x f1) (e : m.hd = .st) : ∃ a ws, x = .ref a ∧ SqL K.K H a ws ∧ RS K S H .st xs ws [] := by
  rcases h.inv_lst with ⟨m', a, ws, g, rfl, rfl, rfl, q, r⟩ | ⟨a, ws, rfl, rfl, rfl, q, r⟩
  · have e' : m' = .st := e
    subst e'
    have r' := r.ofL
    have := r'.st_nil rfl
    subst this
    exact ⟨a, ws, rfl, .of q, r'⟩
  · exact ⟨a, ws, rfl, q.seq, r⟩
theorem Rep.flatT {xs : List Val} (h : Rep K S H .st (.tup xs) x f1) : ∃ a ws, x = .ref a ∧ TupAt K .st H a ws ∧ RS K S H .st xs ws [] := by
  obtain ⟨a, ws, rfl, _, q, r⟩ := h.inv_tup
  have := r.st_nil rfl
  subst this
  exact ⟨a, ws, rfl, q, r⟩
theorem binV_snd {op : BOp} (h : binV op a b = some r) (ra : Rep K S H a.1 a.2 x f1) (rb : Rep K S H b.1 b.2 y f2) (o : Ow K S H fo) (g : Gives K S H r.1 r.2 Q) : rBin K.K op x y H Q := by
  obtain ⟨ma, va⟩ := a
  obtain ⟨mb, vb⟩ := b
  simp only at ra rb
  have hii : ∀ {i j : Int}, va = .int i → vb = .int j → x = .int i ∧ y = .int j := fun e1 e2 => by
    subst e1 e2; exact ⟨ra.inv_int.1, rb.inv_int.1⟩
  unfold binV at h
  split at h
  all_goals first
    | (rename_i e1 e2; simp only [Prod.mk.injEq] at e1 e2; obtain ⟨rfl, rfl⟩ := e1; obtain ⟨rfl, rfl⟩ := e2)
    | skip
  · cases h
    obtain ⟨rfl, rfl⟩ := hii rfl rfl
    exact .inl (.inl ⟨_, _, rfl, rfl, g.int o⟩)
  · cases h
    obtain ⟨rfl, rfl⟩ := hii rfl rfl
    exact ⟨_, _, rfl, rfl, g.int o⟩
  · split at h
    · rename_i c; cases h
      obtain ⟨rfl, rfl⟩ := hii rfl rfl
      exact .inl (.inl ⟨_, _, rfl, rfl, c, g.int o⟩)
    · cases h
  · split at h
    · rename_i c; cases h
      obtain ⟨rfl, rfl⟩ := hii rfl rfl
      exact ⟨_, _, rfl, rfl, c, g.int o⟩
    · cases h
  · split at h
    · rename_i c; cases h
      obtain ⟨rfl, rfl⟩ := hii rfl rfl
      exact ⟨_, _, rfl, rfl, c, g.int o⟩
    · cases h
  · split at h
    · rename_i c; cases h
      obtain ⟨rfl, rfl⟩ := hii rfl rfl
      exact ⟨_, _, rfl, rfl, c, g.int o⟩
    · cases h
  · split at h
    · rename_i c; cases h
      obtain ⟨rfl, rfl⟩ := hii rfl rfl
      exact ⟨_, _, rfl, rfl, c, g.int o⟩
    · cases h
  · split at h
    · rename_i c; cases h
      obtain ⟨rfl, rfl⟩ := hii rfl rfl
      exact ⟨_, _, rfl, rfl, c, g.int o⟩
    · cases h
  · cases h
    obtain ⟨rfl, rfl⟩ := hii rfl rfl
    exact ⟨_, _, rfl, rfl, g.int o⟩
  · cases h
    obtain ⟨rfl, rfl⟩ := hii rfl rfl
    exact ⟨_, _, rfl, rfl, g.int o⟩
  · cases h
    obtain ⟨rfl, rfl⟩ := hii rfl rfl
    exact ⟨_, _, rfl, rfl, g.int o⟩
  · split at h
    · rename_i c; cases h
      obtain ⟨rfl, _⟩ := ra.inv_str
      obtain ⟨rfl, _⟩ := rb.inv_str
      exact .inl (.inr ⟨_, _, rfl, rfl, c, g.str o⟩)
    · cases h
  · obtain ⟨rfl, rfl, c, rfl⟩ := cattV_inv h
    obtain ⟨a1, w1, rfl, q1, s1⟩ := ra.flatT
    obtain ⟨a2, w2, rfl, q2, s2⟩ := rb.flatT
    have l1 := s1.length
    have l2 := s2.length
    refine .inr (.inl ⟨a1, a2, w1, w2, rfl, rfl, q1.sq, q2.sq, by rw [l1, l2]; exact c, fun e => ?_, fun e' => ?_, fun p its hp => ?_⟩)
    · subst e
      have : _ = [] := List.eq_nil_of_length_eq_zero (l1.symm.trans rfl)
      subst this
      exact g.st o (Rep.tup rfl q2 s2)
    · subst e'
      have : _ = [] := List.eq_nil_of_length_eq_zero (l2.symm.trans rfl)
      subst this
      rw [List.append_nil] at g
      exact g.st o (Rep.tup rfl q1 s1)
    · exact g.tup o (s1.appendS s2) hp
  · obtain ⟨e1, e2, c, rfl⟩ := catV_inv h
    obtain ⟨a1, w1, rfl, q1, s1⟩ := ra.flat e1
    obtain ⟨a2, w2, rfl, q2, s2⟩ := rb.flat e2
    have l1 := s1.length
    have l2 := s2.length
    exact .inr (.inr ⟨a1, a2, w1, w2, rfl, rfl, q1, q2, by rw [l1, l2]; exact c, fun p hp => g.lst o (s1.appendS s2) hp⟩)
  · unfold repV at h
    split at h
    · rename_i c; cases h
      rcases ra.inv_lst with ⟨m', a, ws, g', e, rfl, rfl, q, r⟩ | ⟨a, ws, e, _⟩
      · cases e
        have r' := r.ofL
        have := r'.st_nil rfl
        subst this
        obtain ⟨rfl, _⟩ := rb.inv_int
        have l1 := r'.length
        refine .inl (.inr ⟨a, _, ws, rfl, rfl, q, c.1, c.2.1, by rw [l1]; exact c.2.2, fun p hp => g.lst o ?_ hp⟩)
        have rep : ∀ n : Nat, RS K S H .st (List.replicate n _).flatten (List.replicate n ws).flatten [] := fun n => by
          induction n with
          | zero => exact .nil _
          | succ n ih => rw [List.replicate_succ, List.replicate_succ, List.flatten_cons, List.flatten_cons]; exact r'.appendS ih
        exact rep _
      · cases e
    · cases h
  · split at h
    · rename_i c; cases h
      obtain ⟨hne, h1, h2, hz⟩ := c
      obtain ⟨a1, w1, rfl, q1, s1⟩ := ra.flatT
      obtain ⟨rfl, _⟩ := rb.inv_int
      have l1 := s1.length
      have rep : ∀ n : Nat, RS K S H .st (List.replicate n _).flatten (List.replicate n w1).flatten [] := fun n => by
        induction n with
        | zero => exact .nil _
        | succ n ih => rw [List.replicate_succ, List.replicate_succ, List.flatten_cons, List.flatten_cons]; exact s1.appendS ih
      refine .inr ⟨a1, _, w1, rfl, rfl, q1.sq, fun e => ?_, h1, h2, by rw [l1]; exact hz, fun e => ?_, fun p its hp => g.tup o (rep _) hp⟩
      · subst e; exact hne (List.eq_nil_of_length_eq_zero (l1.symm.trans rfl))
      · subst e
        have e2 : ∀ {α : Type} (l : List α), (List.replicate (Int.toNat 1) l).flatten = l := fun l => by simp
        rw [e2] at g
        exact g.st o (Rep.tup rfl q1 s1)
    · cases h
  · cases h
end
end Sh

/-! ShC: comparisons by values -/
namespace Sh
open PySem PySem.Spec PyProof.Rows L2

inductive COp where
  | eq | ne | lt | le | gt | ge | isin | notin | is_ | isnot
  deriving DecidableEq
def COp.py : COp → CmpOp
  | .eq => .Eq | .ne => .NotEq | .lt => .Lt | .le => .LtE | .gt => .Gt | .ge => .GtE | .isin => .In | .notin => .NotIn | .is_ => .Is | .isnot => .IsNot
def scalEq : Val → Val → Option Bool
  | .int i, .int j => some (decide (i = j))
  | .str x, .str y => some (decide (x = y))
  | .bl a, .bl b => some (decide (a = b))
  | .non, .non => some true
  | _, _ => none
def eqV (a b : Val) : Option Bool := match scalEq a b with
  | some r => some r
  | none => if okV a && okV b then some (PyData.eqv a.D b.D) else none
def isNon : Val → Bool
  | .non => true
  | _ => false
def scalLt : Val → Val → Option Bool
  | .int i, .int j => some (decide (i < j))
  | .str x, .str y => some (decide (x.cps.toList < y.cps.toList))
  | _, _ => none
def ltV (a b : Val) : Option Bool := match scalLt a b with
  | some r => some r
  | none => if okV a && okV b && PySem.W.alike a.D b.D && !isNon a then some (PySem.W.dataLt a.D b.D) else none
def keyOf : Val → Option Key
  | .int i => some (.inl i)
  | .str x => some (.inr x)
  | _ => none
def keysOf : List Val → Option (List Key)
  | [] => some []
  | x :: xs => match keyOf x, keysOf xs with
    | some k, some ks => some (k :: ks)
    | _, _ => none
/-- a dict's entry -/
def dget {κ : Type} [DecidableEq κ] (kvs : List (κ × Val)) (k : κ) : Option Val := (kvs.find? fun p => decide (p.1 = k)).map (·.2)
/-- in: of data in a list or tuple, a key in a dict, a text in a text -/
def inV (kt : Bool) (x : Val) : Val → Option Bool
  | .lst ys => if okV x && okV (.lst ys) then some (ys.any fun z => PyData.eqv z.D x.D) else none
  | .tup ys => if okV x && okV (.tup ys) then some (ys.any fun z => PyData.eqv z.D x.D) else none
  | .dk kvs => match keyOf x with
    | some k => some (dget kvs k).isSome
    | none => none
  | .str y => match x with
    | .str z => some (!(Builtin.Str.occurrences y z 0 y.length 1).isEmpty)
    | _ => none
  | _ => none
def cmpV (kt : Bool) : COp → Val → Val → Option Bool
  | .eq, a, b => eqV a b
  | .ne, a, b => (eqV a b).map (!·)
  | .lt, a, b => ltV a b
  | .le, .int i, .int j => some (decide (i ≤ j))
  | .gt, .int i, .int j => some (decide (j < i))
  | .ge, .int i, .int j => some (decide (j ≤ i))
  | .isin, a, b => inV kt a b
  | .notin, a, b => (inV kt a b).map (!·)
  | .is_, a, .non => some (isNon a)
  | .isnot, a, .non => some (!isNon a)
  | .is_, .bl a, .bl b => some (decide (a = b))
  | .isnot, .bl a, .bl b => some (!decide (a = b))
  | _, _, _ => none

section
variable {X : Cx}
def rLtD (K : PySem.W.Frag) : R2 := fun x y H Q => ∃ d e, Dp K H x d ∧ Dp K H y e ∧ SeqAt.shaped d = true ∧ SeqAt.shaped e = true ∧ PySem.W.alike d e = true ∧ d ≠ .none ∧ Q (.bl (PySem.W.dataLt d e)) H
theorem op_ltD (hu : X.A.units + 64 < cLine) : OpR X (compareOp .Lt) (rLtD X.K) := by
  intro pins s σ H x y v u Q I rx ry h
  obtain ⟨d, e, hd, he, sd, se, al, dn, q⟩ := h
  obtain ⟨as, r1⟩ := Dp.reads I d x v hd rx
  obtain ⟨bs, r2⟩ := Dp.reads I e y u he ry
  exact PySem.W.rcLt_alike d e X.A s v u as bs r1 r2 al dn (SeqAt.room_of_shaped sd hu) _ _ _ _ ⟨.bl _, H, I, rfl, q⟩
def rInT (K : PySem.W.Frag) (neg : Bool) : R2 := fun x y H Q => ∃ d ds, Dp K H x d ∧ Dp K H y (.tuple ds) ∧ SeqAt.shaped d = true ∧ SeqAt.shaped (.tuple ds) = true ∧ Q (.bl (if neg then !ds.any fun z => PyData.eqv z d else ds.any fun z => PyData.eqv z d)) H
theorem room_inT {ds : List PyData} {d : PyData} {u : Nat} (h : SeqAt.shaped d = true) (hu : u + 65 < cLine) : u + 1 + min (PyData.depthAll ds) d.depth < cLine := by
  have h1 := SeqAt.depth_of_shaped h
  have h2 : min (PyData.depthAll ds) d.depth ≤ d.depth := Nat.min_le_right _ _
  omega
theorem op_inT (hu : X.A.units + 65 < cLine) : OpR X (compareOp .In) (rInT X.K false) := by
  intro pins s σ H x y v u Q I rx ry h
  obtain ⟨d, ds, hd, he, sd, se, q⟩ := h
  obtain ⟨as, r1⟩ := Dp.reads I d x v hd rx
  obtain ⟨bs, r2⟩ := Dp.reads I (.tuple ds) y u he ry
  exact SeqAt.in_tuple_reads r2 r1 (SeqAt.canLay_of_shaped se) (SeqAt.canLay_of_shaped sd) (room_inT sd hu) ⟨.bl _, H, I, rfl, q⟩
theorem op_notInT (hu : X.A.units + 65 < cLine) : OpR X (compareOp .NotIn) (rInT X.K true) := by
  intro pins s σ H x y v u Q I rx ry h
  obtain ⟨d, ds, hd, he, sd, se, q⟩ := h
  obtain ⟨as, r1⟩ := Dp.reads I d x v hd rx
  obtain ⟨bs, r2⟩ := Dp.reads I (.tuple ds) y u he ry
  exact SeqAt.notIn_tuple_reads r2 r1 (SeqAt.canLay_of_shaped se) (SeqAt.canLay_of_shaped sd) (room_inT sd hu) ⟨.bl _, H, I, rfl, q⟩
/-- k in d -/
def rInDict : R2 := fun x y H Q => ∃ a o, y = .ref a ∧ DGet H a x o ∧ Q (.bl o.isSome) H
def rNotInDict : R2 := fun x y H Q => ∃ a o, y = .ref a ∧ DGet H a x o ∧ Q (.bl (!o.isSome)) H
theorem op_inDict (hu : X.A.units + 1 < cLine) : OpR X (compareOp .In) rInDict := by
  intro pins s σ H x y v u Q I rx ry h
  obtain ⟨a, o, rfl, g, q⟩ := h
  cases ry
  exact d_in hu I g rx fun s' I' => ⟨.bl _, H, I', rfl, q⟩
theorem op_notInDict (hu : X.A.units + 1 < cLine) : OpR X (compareOp .NotIn) rNotInDict := by
  intro pins s σ H x y v u Q I rx ry h
  obtain ⟨a, o, rfl, g, q⟩ := h
  cases ry
  exact d_notIn hu I g rx fun s' I' => ⟨.bl _, H, I', rfl, q⟩
def rCmp (K : PySem.W.Frag) : COp → R2
  | .eq => fun x y H Q => rEq x y H Q ∨ rEqD K x y H Q
  | .ne => fun x y H Q => rNe x y H Q ∨ rNeD K x y H Q
  | .lt => fun x y H Q => ((rI0 fun i j => .bl (decide (i < j))) x y H Q ∨ (∃ i j, x = .str i ∧ y = .str j ∧ Q (.bl (decide (i.cps.toList < j.cps.toList))) H)) ∨ rLtD K x y H Q
  | .le => rI0 fun i j => .bl (decide (i ≤ j))
  | .gt => rI0 fun i j => .bl (decide (j < i))
  | .ge => rI0 fun i j => .bl (decide (j ≤ i))
  | .isin => fun x y H Q => (rInD K x y H Q ∨ rInT K false x y H Q) ∨ rInDict x y H Q ∨ ∃ i j, x = .str i ∧ y = .str j ∧ Q (.bl (!(Builtin.Str.occurrences j i 0 j.length 1).isEmpty)) H
  | .notin => fun x y H Q => (rNotInD K x y H Q ∨ rInT K true x y H Q) ∨ rNotInDict x y H Q ∨ ∃ i j, x = .str i ∧ y = .str j ∧ Q (.bl (!(!(Builtin.Str.occurrences j i 0 j.length 1).isEmpty))) H
  | .is_ => fun x y H Q => (y = .non ∧ Q (.bl (decide (x = .non))) H) ∨ ∃ a b, x = .bl a ∧ y = .bl b ∧ Q (.bl (decide (a = b))) H
  | .isnot => fun x y H Q => (y = .non ∧ Q (.bl (!decide (x = .non))) H) ∨ ∃ a b, x = .bl a ∧ y = .bl b ∧ Q (.bl (!decide (a = b))) H
theorem op_cmp (hu : X.A.units + 65 < cLine) : ∀ op : COp, OpR X (compareOp op.py) (rCmp X.K op)
  | .eq => op_eq.or (op_eqD (by omega))
  | .ne => op_ne.or (op_neD (by omega))
  | .lt => (op_lt.or op_lt_str).or (op_ltD (by omega))
  | .le => op_le
  | .gt => op_gt
  | .ge => op_ge
  | .isin => ((op_inD hu).or (op_inT hu)).or ((op_inDict (by omega)).or op_in_str)
  | .notin => ((op_notInD hu).or (op_notInT hu)).or ((op_notInDict (by omega)).or op_notin_str)
  | .is_ => op_isN.or op_is_bl
  | .isnot => op_notN.or op_isnot_bl
end
section
variable {K : KK} {S : AS} {H : Hp} {fo : List Addr} {a b : Val} {ma mb m : Mk} {x y : V} {f f1 f2 : List Addr} {Q : VK} {xs : List Val} {ws : List V}
theorem keyOf_snd {k : Key} (h : keyOf a = some k) (r : Rep K S H ma a x f) : x = kV k := by
  cases a with
  | int i => cases h; exact r.inv_int.1
  | str z => cases h; exact r.inv_str.1
  | _ => cases h
theorem keysOf_snd {mk : Mk} : ∀ {xs : List Val} {ks : List Key} {mk : Mk} {ws : List V} {f : List Addr}, keysOf xs = some ks → RS K S H mk xs ws f → ws = ks.map kV
  | [], ks, mk, ws, f, h, r => by cases h; exact r.nil_inv.1
  | x :: xs, ks, mk, ws, f, h, r => by
    simp only [keysOf] at h
    split at h
    · rename_i k ks' e1 e2
      cases h
      obtain ⟨v, ws', fp, fr, rfl, rfl, h1, h2⟩ := r.uncons
      rw [keyOf_snd e1 h1, keysOf_snd (mk := mk) e2 h2]; rfl
    · cases h
theorem dget_zip {κ : Type} [DecidableEq κ] {mk : Mk} : ∀ {kvs : List (κ × Val)} {mk : Mk} {ws : List V} {f : List Addr} {k : κ}, RS K S H mk (kvs.map (·.2)) ws f → (valV ((kvs.map (·.1)).zip ws) k).isSome = (dget kvs k).isSome
  | [], mk, ws, f, k, r => by obtain ⟨rfl, _⟩ := r.nil_inv; rfl
  | (k', v) :: kvs, mk, ws, f, k, r => by
    obtain ⟨w, ws', fp, fr, rfl, rfl, h1, h2⟩ := r.uncons
    have ih := dget_zip (mk := mk) (k := k) h2
    simp only [List.map_cons, List.zip_cons_cons]
    by_cases e : k' = k
    · rw [valV_pos (by exact e)]; simp [dget, e]
    · rw [valV_neg (by exact e), ih]; simp [dget, e]
theorem Rep.dk {kvs : List (Key × Val)} (r : Rep K S H m (.dk kvs) x f) : ∃ a ws mk g, x = .ref a ∧ Rd H a (.dK ((kvs.map (·.1)).zip ws)) ∧ RS K S H mk (kvs.map (·.2)) ws g := by
  cases r with
  | dkO a b e c h => subst e; exact ⟨_, _, _, _, rfl, .inl b, c⟩
  | dkS a b e d h => subst e; exact ⟨_, _, _, _, rfl, b.rd, d⟩
theorem Rep.dt {kvs : List (List Key × Val)} (r : Rep K S H m (.dt kvs) x f) : ∃ a ws mk g, x = .ref a ∧ H a = some (.dT ((kvs.map (·.1)).zip ws)) ∧ RS K S H mk (kvs.map (·.2)) ws g := by
  cases r with
  | dtO a b e c h => subst e; exact ⟨_, _, _, _, rfl, b, c⟩
  | dtS a b e d h => subst e; exact ⟨_, _, _, _, rfl, b.2, d⟩
theorem any_D (d : PyData) : ∀ xs : List Val, (Val.Ds xs).any (fun z => PyData.eqv z d) = xs.any fun z => PyData.eqv z.D d
  | [] => by simp [Val.Ds]
  | x :: xs => by simp only [Val.Ds, List.any_cons, any_D d xs]
theorem inV_snd {r : Bool} {neg : Bool} (h : inV K.kt a b = some r) (ra : Rep K S H ma a x f1) (rb : Rep K S H mb b y f2) (q : Q (.bl (if neg then !r else r)) H) : rCmp K.K (if neg then .notin else .isin) x y H Q := by
  unfold inV at h
  split at h
  · split at h
    · rename_i c; cases h
      rw [Bool.and_eq_true] at c
      refine neg.casesOn (motive := fun n => Q (.bl (if n then !_ else _)) H → rCmp K.K (if n then .notin else .isin) x y H Q) (fun q => ?_) (fun q => ?_) q
      · exact .inl (.inl ⟨_, _, ra.dp c.1, by have := rb.dp c.2; simpa [Val.D] using this, c.1, by have := c.2; simpa [okV, Val.D] using this, by rw [any_D]; exact q⟩)
      · exact .inl (.inl ⟨_, _, ra.dp c.1, by have := rb.dp c.2; simpa [Val.D] using this, c.1, by have := c.2; simpa [okV, Val.D] using this, by rw [any_D]; exact q⟩)
    · cases h
  · split at h
    · rename_i c; cases h
      rw [Bool.and_eq_true] at c
      refine neg.casesOn (motive := fun n => Q (.bl (if n then !_ else _)) H → rCmp K.K (if n then .notin else .isin) x y H Q) (fun q => ?_) (fun q => ?_) q
      · exact .inl (.inr ⟨_, _, ra.dp c.1, by have := rb.dp c.2; simpa [Val.D] using this, c.1, by have := c.2; simpa [okV, Val.D] using this, by rw [any_D]; exact q⟩)
      · exact .inl (.inr ⟨_, _, ra.dp c.1, by have := rb.dp c.2; simpa [Val.D] using this, c.1, by have := c.2; simpa [okV, Val.D] using this, by rw [any_D]; exact q⟩)
    · cases h
  · split at h
    · rename_i kvs k e; cases h
      obtain ⟨d, ws, mk, g, rfl, hd, rs⟩ := rb.dk
      have hx := keyOf_snd e ra
      subst hx
      refine neg.casesOn (motive := fun n => Q (.bl (if n then !_ else _)) H → rCmp K.K (if n then .notin else .isin) _ _ H Q) (fun q => ?_) (fun q => ?_) q
      · exact .inr (.inl ⟨d, _, rfl, DGet.kr hd, by rw [dget_zip (mk := mk) rs]; exact q⟩)
      · exact .inr (.inl ⟨d, _, rfl, DGet.kr hd, by rw [dget_zip (mk := mk) rs]; exact q⟩)
    · cases h
  · split at h
    · rename_i y' z; cases h
      obtain ⟨rfl, _⟩ := ra.inv_str
      obtain ⟨rfl, _⟩ := rb.inv_str
      refine neg.casesOn (motive := fun n => Q (.bl (if n then !_ else _)) H → rCmp K.K (if n then .notin else .isin) _ _ H Q) (fun q => ?_) (fun q => ?_) q
      · exact .inr (.inr ⟨_, _, rfl, rfl, q⟩)
      · exact .inr (.inr ⟨_, _, rfl, rfl, q⟩)
    · cases h
  · cases h
theorem eqV_snd {r : Bool} {neg : Bool} (h : eqV a b = some r) (ra : Rep K S H ma a x f1) (rb : Rep K S H mb b y f2) (q : Q (.bl (if neg then !r else r)) H) : rCmp K.K (if neg then .ne else .eq) x y H Q := by
  unfold eqV at h
  split at h
  · rename_i r' e; cases h
    have : ∃ v w : V, x = v ∧ y = w ∧ scal v w = true ∧ decide (v = w) = r := by
      unfold scalEq at e
      split at e
      · cases e; exact ⟨_, _, ra.inv_int.1, rb.inv_int.1, rfl, by simp⟩
      · cases e; exact ⟨_, _, ra.inv_str.1, rb.inv_str.1, rfl, by simp⟩
      · cases e; exact ⟨_, _, ra.inv_bl.1, rb.inv_bl.1, rfl, by simp⟩
      · cases e; exact ⟨_, _, ra.inv_non.1, rb.inv_non.1, rfl, by simp⟩
      · cases e
    obtain ⟨v, w, rfl, rfl, sc, e2⟩ := this
    cases neg with
    | true => exact .inl ⟨sc, by rw [e2]; exact q⟩
    | false => exact .inl ⟨sc, by rw [e2]; exact q⟩
  · split at h
    · rename_i c; cases h
      rw [Bool.and_eq_true] at c
      cases neg with
      | true => exact .inr ⟨_, _, ra.dp c.1, rb.dp c.2, c.1, c.2, q⟩
      | false => exact .inr ⟨_, _, ra.dp c.1, rb.dp c.2, c.1, c.2, q⟩
    · cases h
theorem isNon_snd (ra : Rep K S H ma a x f) : decide (x = V.non) = isNon a := by
  cases a with
  | non => rw [ra.inv_non.1]; rfl
  | bl b => rw [ra.inv_bl.1]; rfl
  | int i => rw [ra.inv_int.1]; rfl
  | str z => rw [ra.inv_str.1]; rfl
  | tup xs => obtain ⟨_, _, rfl, _⟩ := ra.inv_tup; rfl
  | lst xs => obtain ⟨_, _, _, rfl, _⟩ := ra.seqL; rfl
  | dk xs => obtain ⟨_, _, _, _, rfl, _⟩ := ra.dk; rfl
  | dt xs => obtain ⟨_, _, _, _, rfl, _⟩ := ra.dt; rfl
theorem ltV_snd {r : Bool} (h : ltV a b = some r) (ra : Rep K S H ma a x f1) (rb : Rep K S H mb b y f2) (q : Q (.bl r) H) : rCmp K.K .lt x y H Q := by
  unfold ltV at h
  split at h
  · rename_i r' e; cases h
    unfold scalLt at e
    split at e
    · cases e; obtain ⟨rfl, _⟩ := ra.inv_int; obtain ⟨rfl, _⟩ := rb.inv_int; exact .inl (.inl ⟨_, _, rfl, rfl, q⟩)
    · cases e; obtain ⟨rfl, _⟩ := ra.inv_str; obtain ⟨rfl, _⟩ := rb.inv_str; exact .inl (.inr ⟨_, _, rfl, rfl, q⟩)
    · cases e
  · split at h
    · rename_i c; cases h
      simp only [Bool.and_eq_true] at c
      obtain ⟨⟨⟨c1, c2⟩, c3⟩, c4⟩ := c
      refine .inr ⟨_, _, ra.dp c1, rb.dp c2, c1, c2, c3, fun e => ?_, q⟩
      cases a <;> simp [Val.D, isNon] at e c4
    · cases h
theorem cmpV_snd {op : COp} {r : Bool} (h : cmpV K.kt op a b = some r) (ra : Rep K S H ma a x f1) (rb : Rep K S H mb b y f2) (q : Q (.bl r) H) : rCmp K.K op x y H Q := by
  unfold cmpV at h
  split at h
  · exact eqV_snd (neg := false) h ra rb q
  · obtain ⟨r', e, rfl⟩ := Option.map_eq_some_iff.mp h
    exact eqV_snd (neg := true) e ra rb q
  · exact ltV_snd h ra rb q
  · cases h; obtain ⟨rfl, _⟩ := ra.inv_int; obtain ⟨rfl, _⟩ := rb.inv_int; exact ⟨_, _, rfl, rfl, q⟩
  · cases h; obtain ⟨rfl, _⟩ := ra.inv_int; obtain ⟨rfl, _⟩ := rb.inv_int; exact ⟨_, _, rfl, rfl, q⟩
  · cases h; obtain ⟨rfl, _⟩ := ra.inv_int; obtain ⟨rfl, _⟩ := rb.inv_int; exact ⟨_, _, rfl, rfl, q⟩
  · exact inV_snd (neg := false) h ra rb q
  · obtain ⟨r', e, rfl⟩ := Option.map_eq_some_iff.mp h
    exact inV_snd (neg := true) e ra rb q
  · cases h; exact .inl ⟨rb.inv_non.1, by rw [isNon_snd ra]; exact q⟩
  · cases h; exact .inl ⟨rb.inv_non.1, by rw [isNon_snd ra]; exact q⟩
  · cases h; exact .inr ⟨_, _, ra.inv_bl.1, rb.inv_bl.1, q⟩
  · cases h; exact .inr ⟨_, _, ra.inv_bl.1, rb.inv_bl.1, q⟩
  · cases h
end
end Sh

/-! ShD: indices, slices, built-in functions by values -/
namespace Sh
open PySem PySem.Spec PyProof.Rows L2

/-! ### a[i], a[lo:hi] -/
def idxV (kt : Bool) (a : MV) (v : Val) : Option MV := match a with
  | (m, .lst xs) => match v with
    | .int i => (atI xs i).map fun v => (m.hd, v)
    | _ => none
  | (m, .tup xs) => match v with
    | .int i => match ixN xs.length i with
      | some j => (xs[j]?).map fun v => (m.at j, v)
      | none => none
    | _ => none
  | (_, .str x) => match v with
    | .int i => if x.length ≤ sizeLine then (atI x.cps.toList i).map fun c => (.st, .str ⟨#[c]⟩) else none
    | _ => none
  | (m, .dk kvs) => match keyOf v with
    | some k => (dget kvs k).map fun v => (m.hd, v)
    | none => none
  | _ => none
def cutL {α : Type} (xs : List α) (lo hi : Option Int) : List α := (xs.drop (HT.sIx xs.length 0 lo)).take (HT.sIx xs.length xs.length hi - HT.sIx xs.length 0 lo)
/-- a part of a slice -/
def optI : Val → Option (Option Int)
  | .non => some none
  | .int i => some (some i)
  | _ => none
def slcV (a : MV) (lo hi : Option Int) : Option MV := match a with
  | (m, .lst xs) => if m.hd = .st then some (.l .st, .lst (cutL xs lo hi)) else none
  | (.st, .tup xs) => some (.st, .tup (cutL xs lo hi))
  | (_, .str x) => if x.length ≤ sizeLine then some (.st, .str (cutS x lo hi)) else none
  | _ => none

section
variable {X : Cx}
def rDGet : R2 := fun x y H Q => ∃ a v, x = .ref a ∧ DGet H a y (some v) ∧ Q v H
theorem ix_dict (hu : X.A.units + 1 < cLine) : IxR X rDGet := by
  intro value slice pins s σ H x y o i Q I rx ry h hs
  obtain ⟨a, v, rfl, g, q⟩ := h
  obtain rfl : o = Value.ref a := rx
  have hT := dict_typeIs I g
  unfold subscriptTail
  refine wpAny_bind ?_
  rw [getitemInPython_of_ne hT.not_modules]
  refine wpAny_bind (wpAny_specialOf hT PySem.F.slot_dict_getitem.lookup ?_)
  have fin : wpAny (model X.prog X.w) X.A (subscripted slice false (.ref a) i) (fun r s₃ => wpAny (model X.prog X.w) X.A (letTemporaryGo value (.ref a) r >>= fun _ => pure r) (EP X pins σ Q) X.xe s₃) X.xe s := by
    rw [hs]
    refine wpAny_operating (d_getItem hu I g ry fun w' s3 I3 rw' => ?_)
    exact wpAny_bind (wpAny_letTemporaryGo (wpAny_pure ⟨v, H, I3, rw', q⟩))
  first
    | exact wpAny_pure (wpAny_bind fin)
    | exact wpAny_bind (wpAny_pure (wpAny_bind fin))
    | exact wpAny_bind fin
def rIxA (K : PySem.W.Frag) : R2 := fun x y H Q => rIx K x y H Q ∨ rDGet x y H Q
theorem ix_all (hu : X.A.units + 1 < cLine) : IxR X (rIxA X.K) := ix_seq.or (ix_dict hu)
def rSlAll (K : PySem.W.Frag) : V → Option Int → Option Int → Hp → VK → Prop := fun x lo hi H Q => (rSlL K x lo hi H Q ∨ rSlF K x lo hi H Q) ∨ ∃ z, x = .str z ∧ z.length ≤ sizeLine ∧ Q (.str (cutS z lo hi)) H
theorem sl_all : SlR X (rSlAll X.K) := (sl_list.or sl_tupF).or sl_str
end
section
variable {K : KK} {S : AS} {H : Hp} {fo : List Addr} {a r : MV} {v : Val} {ma m : Mk} {x y : V} {f f1 f2 : List Addr} {Q : VK} {xs : List Val} {ws : List V}
theorem RS.ixN (h : RS K S H m xs ws f) {i : Int} : ixN ws.length i = ixN xs.length i := by rw [h.length]
/-- what an index finds: a part of what it is in -/
def Part (K : KK) (S : AS) (H : Hp) (f : List Addr) (r : MV) (w : V) : Prop := ∃ fl fp fr, f = fl ++ (fp ++ fr) ∧ Rep K S H r.1 r.2 w fp
theorem atI_bind {α : Type} (xs : List α) (i : Int) : atI xs i = (L2.ixN xs.length i).bind fun j => xs[j]? := rfl
theorem dget_get {κ : Type} [DecidableEq κ] : ∀ {kvs : List (κ × Val)} {k : κ} {v : Val}, dget kvs k = some v → ∃ i : Nat, kvs[i]? = some (k, v) ∧ ∀ ws : List V, ws.length = kvs.length → valV ((kvs.map (·.1)).zip ws) k = ws[i]?
  | [], k, v, h => by simp [dget] at h
  | (k', u) :: kvs, k, v, h => by
    by_cases e : k' = k
    · subst e
      simp [dget] at h
      subst h
      refine ⟨0, rfl, fun ws hl => ?_⟩
      cases ws with
      | nil => simp at hl
      | cons w ws => simp only [List.map_cons, List.zip_cons_cons]; rw [valV_pos rfl]; rfl
    · have h' : dget kvs k = some v := by simpa [dget, e] using h
      obtain ⟨i, e1, e2⟩ := dget_get h'
      refine ⟨i + 1, by simpa using e1, fun ws hl => ?_⟩
      cases ws with
      | nil => simp at hl
      | cons w ws => simp only [List.map_cons, List.zip_cons_cons]; rw [valV_neg e, e2 ws (by simpa using hl)]; rfl
theorem RS.part {mk : Mk} {j : Nat} (h : RS K S H mk xs ws f) (e : xs[j]? = some v) : ∃ w, ws[j]? = some w ∧ Part K S H f (mk.at j, v) w := by
  obtain ⟨w, fl, fp, fr, e1, e2, h1, _⟩ := h.get e
  exact ⟨w, e1, fl, fp, fr, e2, h1⟩
theorem Part.cons {a : Addr} {w : V} (h : Part K S H f r w) : Part K S H (a :: f) r w := by
  obtain ⟨fl, fp, fr, rfl, h⟩ := h
  exact ⟨a :: fl, fp, fr, rfl, h⟩
theorem Rep.dkGet {kvs : List (Key × Val)} {k : Key} (ra : Rep K S H ma (.dk kvs) x f) (e : dget kvs k = some v) : ∃ b w, x = .ref b ∧ DGet H b (kV k) (some w) ∧ Part K S H f (ma.hd, v) w ∧ (ma.isL = true → Part K S H f.tail (ma.hd, v) w) := by
  obtain ⟨i, e1, e2⟩ := dget_get e
  have e1' : (kvs.map (·.2))[i]? = some v := by rw [List.getElem?_map, e1]; rfl
  cases ra with
  | dkO a b c d h =>
    cases h
    subst c
    obtain ⟨w, e3, p⟩ := d.part e1'
    rw [Mk.at_l] at p
    have a' : ma = _ := a
    subst a'
    refine ⟨_, w, rfl, ?_, by rw [List.append_nil]; exact p.cons, fun _ => by rw [List.append_nil]; exact p⟩
    have := DGet.k (k := k) b
    rw [e2 _ (by have := d.length; simpa using this), e3] at this
    exact this
  | dkS a b c d h =>
    cases h
    subst c
    obtain ⟨w, e3, p⟩ := d.part e1'
    rw [Mk.at_st] at p
    have a' : ma = _ := a
    subst a'
    refine ⟨_, w, rfl, ?_, p, fun z => nomatch z⟩
    have := DGet.kr (k := k) b.rd
    rw [e2 _ (by have := d.length; simpa using this), e3] at this
    exact this
theorem idxV_snd (h : idxV K.kt a v = some r) (ra : Rep K S H a.1 a.2 x f1) (rv : Rep K S H m v y f2) (q : ∀ w, Part K S H f1 r w → (a.1.isL = true → Part K S H f1.tail r w) → Q w H) (qs : ∀ c, r = (.st, .str c) → Q (.str c) H) : rIxA K.K x y H Q := by
  obtain ⟨ma, va⟩ := a
  simp only at ra
  unfold idxV at h
  split at h
  · rename_i m' xs e1
    cases e1
    split at h
    · obtain ⟨v', e, rfl⟩ := Option.map_eq_some_iff.mp h
      obtain ⟨rfl, _⟩ := rv.inv_int
      rw [atI_bind] at e
      obtain ⟨j, ej, e⟩ := Option.bind_eq_some_iff.mp e
      rcases ra.inv_lst with ⟨m', b, ws, g, rfl, rfl, rfl, hq, hr⟩ | ⟨b, ws, rfl, rfl, rfl, hq, hr⟩
      · obtain ⟨w, e1, p⟩ := hr.part e
        rw [Mk.at_l] at p
        exact .inl (.inl ⟨b, ws, _, w, rfl, rfl, .of hq, by rw [atI_bind, hr.ixN, ej]; exact e1, q w p.cons fun _ => p⟩)
      · obtain ⟨w, e1, p⟩ := hr.part e
        rw [Mk.at_st] at p
        exact .inl (.inl ⟨b, ws, _, w, rfl, rfl, hq.seq, by rw [atI_bind, hr.ixN, ej]; exact e1, q w p fun z => nomatch z⟩)
    · cases h
  · rename_i m' xs e1
    cases e1
    split at h
    · split at h
      · rename_i j ej
        obtain ⟨v', e, rfl⟩ := Option.map_eq_some_iff.mp h
        obtain ⟨rfl, _⟩ := rv.inv_int
        obtain ⟨b, ws, rfl, hnl, hq, hr⟩ := ra.inv_tup
        obtain ⟨w, e1, p⟩ := hr.part e
        exact .inl (.inr (.inl ⟨b, ws, _, w, rfl, rfl, hq.sq, by rw [atI_bind, hr.ixN, ej]; exact e1, q w p fun z => by rw [hnl] at z; cases z⟩))
      · cases h
    · cases h
  · rename_i m' z e1
    cases e1
    split at h
    · split at h
      · rename_i hz
        obtain ⟨c, e, rfl⟩ := Option.map_eq_some_iff.mp h
        obtain ⟨rfl, _⟩ := rv.inv_int
        obtain ⟨rfl, _⟩ := ra.inv_str
        exact .inl (.inr (.inr ⟨z, _, c, rfl, rfl, hz, e, qs _ rfl⟩))
      · cases h
    · cases h
  · rename_i m' kvs e1
    cases e1
    split at h
    · rename_i k' ek
      obtain ⟨v', e, rfl⟩ := Option.map_eq_some_iff.mp h
      have hy := keyOf_snd ek rv
      subst hy
      obtain ⟨b, w, rfl, g, p, p'⟩ := ra.dkGet e
      exact .inr ⟨b, w, rfl, g, q w p p'⟩
    · cases h
  · cases h
theorem RS.drop (h : RS K S H .st xs ws []) : ∀ n, RS K S H .st (xs.drop n) (ws.drop n) [] := fun n => by
  induction n generalizing xs ws with
  | zero => exact h
  | succ n ih =>
    cases xs with
    | nil => obtain ⟨rfl, _⟩ := h.nil_inv; exact .nil _
    | cons x xs =>
      obtain ⟨v, ws', fp, fr, rfl, e, h1, h2⟩ := h.uncons
      obtain ⟨rfl, rfl⟩ := List.append_eq_nil_iff.mp e.symm
      exact ih h2
theorem RS.take (h : RS K S H .st xs ws []) : ∀ n, RS K S H .st (xs.take n) (ws.take n) [] := fun n => by
  induction n generalizing xs ws with
  | zero => exact .nil _
  | succ n ih =>
    cases xs with
    | nil => obtain ⟨rfl, _⟩ := h.nil_inv; exact .nil _
    | cons x xs =>
      obtain ⟨v, ws', fp, fr, rfl, e, h1, h2⟩ := h.uncons
      obtain ⟨rfl, rfl⟩ := List.append_eq_nil_iff.mp e.symm
      exact RS.cons (mk := .st) (fp := []) h1 (ih h2)
theorem RS.cut (h : RS K S H .st xs ws []) (lo hi : Option Int) : RS K S H .st (cutL xs lo hi) (L2.cutV ws lo hi) [] := by
  unfold cutL L2.cutV
  rw [← h.length]
  exact (h.drop _).take _
theorem slcV_snd {lo hi : Option Int} (h : slcV a lo hi = some r) (ra : Rep K S H a.1 a.2 x f1) (o : Ow K S H fo) (g : Gives K S H r.1 r.2 Q) : rSlAll K.K x lo hi H Q := by
  obtain ⟨ma, va⟩ := a
  simp only at ra
  unfold slcV at h
  split at h
  · rename_i m' xs e
    cases e
    split at h
    · rename_i c; cases h
      obtain ⟨a1, w1, rfl, q1, s1⟩ := ra.flat c
      exact .inl (.inl ⟨a1, w1, rfl, q1, fun p hp => g.lst o (s1.cut _ _) hp⟩)
    · cases h
  · rename_i xs e
    cases e; cases h
    obtain ⟨a1, w1, rfl, q1, s1⟩ := ra.flatT
    have l1 := s1.length
    refine .inl (.inr ⟨a1, w1, rfl, q1.sq, fun c => ?_, fun _ p its hp => g.tup o (s1.cut _ _) hp⟩)
    rw [l1] at c
    have e : cutL xs lo hi = xs := by
      unfold cutL
      rw [c.1, c.2, Nat.sub_zero]
      simp
    rw [e] at g
    exact g.st o (Rep.tup rfl q1 s1)
  · rename_i m' z e
    cases e
    split at h
    · rename_i c; cases h
      obtain ⟨rfl, _⟩ := ra.inv_str
      exact .inr ⟨z, rfl, c, g.str o⟩
    · cases h
  · cases h
end
end Sh

/-! ShE: built-in functions by values -/
namespace Sh
open PySem PySem.Spec PyProof.Rows L2

inductive Blt where
  | len | abs | int | list | tuple | sum | sorted | max | min | str | any | all
  deriving DecidableEq
def intsOf : List Val → Option (List Int)
  | [] => some []
  | .int i :: xs => (intsOf xs).map (i :: ·)
  | _ => none
def boolsOf : List Val → Option (List Bool)
  | [] => some []
  | .bl i :: xs => (boolsOf xs).map (i :: ·)
  | _ => none
def listMax (ns : List Int) : Int := ns.foldl max (ns.headD 0)
def listMin (ns : List Int) : Int := ns.foldl min (ns.headD 0)
def isTupC : Val → Bool
  | .tup (_ :: _) => true
  | _ => false
def isTup : Val → Bool
  | .tup _ => true
  | _ => false
/-- things that sort -/
def srtOk (xs : List Val) : Bool := xs.all okV && (xs.all fun a => xs.all fun b => PySem.W.alike a.D b.D) && (xs.all isTupC || xs.all fun a => !isNon a && !isTup a)
def leV (a b : Val) : Bool := !PySem.W.dataLt b.D a.D
def sortV (xs : List Val) : List Val := xs.mergeSort leV
def bltV : Blt → List MV → Option MV
  | .len, [(_, .lst xs)] => some (.st, .int xs.length)
  | .len, [(_, .tup xs)] => some (.st, .int xs.length)
  | .len, [(_, .str x)] => if x.length ≤ sizeLine then some (.st, .int x.length) else none
  | .len, [(_, .dk kvs)] => some (.st, .int kvs.length)
  | .abs, [(_, .int i)] => some (.st, .int (if i < 0 then -i else i))
  | .int, [(_, .int i)] => some (.st, .int i)
  | .int, [(_, .bl k)] => some (.st, .int (if k then 1 else 0))
  | .list, [(m, .lst xs)] => if m.hd = .st then some (.l .st, .lst xs) else none
  | .list, [(.st, .tup xs)] => some (.l .st, .lst xs)
  | .tuple, [(m, .lst xs)] => if m.hd = .st then some (.st, .tup xs) else none
  | .tuple, [(.st, .tup xs)] => some (.st, .tup xs)
  | .sum, [(_, .lst xs)] => (intsOf xs).map fun ns => (.st, .int ns.sum)
  | .sum, [(_, .tup xs)] => (intsOf xs).map fun ns => (.st, .int ns.sum)
  | .max, [(_, .lst xs)] => match intsOf xs with
    | some (n :: ns) => some (.st, .int (listMax (n :: ns)))
    | _ => none
  | .min, [(_, .lst xs)] => match intsOf xs with
    | some (n :: ns) => some (.st, .int (listMin (n :: ns)))
    | _ => none
  | .max, [(_, .tup xs)] => match intsOf xs with
    | some (n :: ns) => some (.st, .int (listMax (n :: ns)))
    | _ => none
  | .min, [(_, .tup xs)] => match intsOf xs with
    | some (n :: ns) => some (.st, .int (listMin (n :: ns)))
    | _ => none
  | .max, [(_, .int i), (_, .int j)] => some (.st, .int (if j > i then j else i))
  | .min, [(_, .int i), (_, .int j)] => some (.st, .int (if j < i then j else i))
  | .sorted, [(m, .lst xs)] => if m.hd = .st ∧ srtOk xs = true then some (.l .st, .lst (sortV xs)) else none
  | .str, [(_, .int i)] => if i.natAbs.log2 < 1920 then some (.st, .str (toString i)) else none
  | .any, [(_, .lst xs)] => (boolsOf xs).map fun bs => (.st, .bl (bs.any id))
  | .all, [(_, .lst xs)] => (boolsOf xs).map fun bs => (.st, .bl (bs.all id))
  | _, _ => none
def Blt.name : Blt → Str
  | .len => "len" | .abs => "abs" | .int => "int" | .list => "list" | .tuple => "tuple" | .sum => "sum" | .sorted => "sorted" | .max => "max" | .min => "min" | .str => "str" | .any => "any" | .all => "all"
def Blt.val : Blt → Value
  | .len => .builtin "len" | .abs => .builtin "abs" | .int => .type "int" | .list => .type "list" | .tuple => .type "tuple" | .sum => .builtin "sum" | .sorted => .builtin "sorted" | .max => .builtin "max" | .min => .builtin "min" | .str => .type "str" | .any => .builtin "any" | .all => .builtin "all"

section
variable {X : Cx}
abbrev RB := List V → Hp → VK → Prop
def rLenD : RB := fun xs H Q => ∃ a kvs, xs = [.ref a] ∧ Rd H a (.dK kvs) ∧ Q (.int kvs.length) H
theorem call_lenDk : CallR X (.builtin "len") rLenD := by
  intro pins s σ H xs us Q I r h
  obtain ⟨a, kvs, rfl, e, q⟩ := h
  obtain ⟨u, rfl, rx⟩ := vals1 r
  cases rx
  exact d_len I e fun t s' I' => ⟨.int _, H, I', ⟨_, rfl⟩, q⟩
def pyOf (p : V × PyData) : PyData := p.2
def rSortG (K : PySem.W.Frag) : RB := fun xs H Q => ∃ (a : Addr) (ps : List (V × PyData)), xs = [.ref a] ∧ SqL K H a (ps.map (·.1)) ∧ (∀ p ∈ ps, Dp K H p.1 p.2) ∧ PySem.W.AllAlike (ps.map pyOf) ∧ PySem.W.Sortable (ps.map pyOf) ∧ (∀ p ∈ ps, p.2.depth ≤ 64) ∧
  ∀ l, H l = none → Q (.ref l) (upd H l (.lst ((ps.mergeSort (PySem.W.dataLe false pyOf)).map (·.1))))
theorem each_of_vals : ∀ {ps : List (V × PyData)} {us : List Value}, Vals (ps.map (·.1)) us → PySem.W.EachIs (fun u (p : V × PyData) => RelV p.1 u) us ps
  | [], _, .nil => .nil
  | _ :: _, _, .cons r t => .cons r (each_of_vals t)
theorem vals_of_each : ∀ {ps : List (V × PyData)} {us : List Value}, PySem.W.EachIs (fun u (p : V × PyData) => RelV p.1 u) us ps → Vals (ps.map (·.1)) us
  | [], _, .nil => .nil
  | _ :: _, _, .cons r t => .cons r (vals_of_each t)
theorem each_reads {pins : List (Addr × Obj)} {σ : L2.St} {H : Hp} {s : Shared} (I : Inv X pins σ H s) : ∀ {ps : List (V × PyData)} {us : List Value}, (∀ p ∈ ps, Dp X.K H p.1 p.2) → Vals (ps.map (·.1)) us → PySem.W.EachIs (fun u (p : V × PyData) => ∃ as, Reads s.heap u (pyOf p) as) us ps
  | [], _, _, .nil => .nil
  | p :: ps, _, h, .cons r t => .cons (Dp.reads I p.2 p.1 _ (h p List.mem_cons_self) r) (each_reads I (fun q hq => h q (List.mem_cons_of_mem _ hq)) t)
theorem call_sortG (hu : X.A.units + 66 < cLine) : CallR X (.builtin "sorted") (rSortG X.K) := by
  intro pins s σ H xs us Q I r h
  obtain ⟨a, ps, rfl, hs, hd, hal, hso, hdep, q⟩ := h
  obtain ⟨u, rfl, rx⟩ := vals1 r
  cases rx
  obtain ⟨its, rv, hl, hz⟩ := I.list hs
  refine PySem.W.sorted_data (enc := pyOf) hl.isList (each_of_vals rv) (each_reads I hd rv) hal hso (by simpa using hz) (fun b hb => ?_) fun out ho eo => ?_
  · have := hdep b hb
    show X.A.units + 2 + b.2.depth < cLine
    omega
  · obtain ⟨c, hc⟩ := PyProof.Rows.sortedAll_at s.heap its out.toArray
    have hlen : ((ps.mergeSort (PySem.W.dataLe false pyOf)).map (·.1)).length ≤ sizeLine := by
      rw [List.length_map, List.length_mergeSort]; simpa using hz
    have I' := I.laid (t' := s.toks) (a := s.heap.objs.size + 1) (o := .lst ((ps.mergeSort (PySem.W.dataLe false pyOf)).map (·.1))) (h' := PyProof.Rows.sortedAll s.heap its out.toArray) (fun _ _ => PyProof.Rows.sortedAll_old) (Nat.le_succ _) ⟨hlen, out, c, vals_of_each eo, hc⟩
    exact ⟨.ref _, _, I', rfl, q _ (I.hok.fresh (Nat.le_succ _))⟩
def rMaxT (K : PySem.W.Frag) : RB := fun xs H Q => ∃ (a : Addr) (n : Int) (ns : List Int), xs = [.ref a] ∧ SqT K H a ((n :: ns).map V.int) ∧ Q (.int (listMax (n :: ns))) H
def rMinT (K : PySem.W.Frag) : RB := fun xs H Q => ∃ (a : Addr) (n : Int) (ns : List Int), xs = [.ref a] ∧ SqT K H a ((n :: ns).map V.int) ∧ Q (.int (listMin (n :: ns))) H
theorem dp_ints {K : PySem.W.Frag} {H : Hp} : ∀ ns : List Int, DpAll K H (ns.map V.int) (ns.map PyData.int)
  | [] => .nil
  | n :: ns => .cons (.int n) (dp_ints ns)
theorem alike_ints (ns : List Int) : PySem.W.AlikeAll (ns.map PyData.int) := by
  constructor
  · intro x hx y hy
    obtain ⟨i, _, rfl⟩ := List.mem_map.mp hx
    obtain ⟨j, _, rfl⟩ := List.mem_map.mp hy
    rfl
  · intro x hx
    obtain ⟨i, _, rfl⟩ := List.mem_map.mp hx
    simp
theorem depth_ints : ∀ ns : List Int, PyData.depthAll (ns.map PyData.int) ≤ 1
  | [] => by simp [PyData.depthAll]
  | n :: ns => by
    have := depth_ints ns
    simp only [List.map_cons, PyData.depthAll, PyData.depth]
    omega
theorem call_minT (hc : X.calm = true) (hu : X.A.units + 66 < cLine) : CallR X (.builtin "min") (rMinT X.K) := by
  intro pins s σ H vs us Q I r h
  obtain ⟨a, n, ns, rfl, hs, q⟩ := h
  obtain ⟨its, rv, ht, _⟩ := I.tuple hs
  rw [Vals.ref1 r]
  obtain ⟨as, hr⟩ := Dp.readsAll I _ _ its (dp_ints (n :: ns)) rv
  have hd := depth_ints (n :: ns)
  refine PySem.W.min_tuple_data (I.ok.hd hc) ht hr (alike_ints (n :: ns)) (by show _ + PyData.depthAll ((n :: ns).map PyData.int) < _; omega) fun i v h' tk bs hv hr hk => ?_
  rw [PySem.W.minD_ints] at hr
  have e : listMin (n :: ns) = ns.foldl min n := by
    show (n :: ns).foldl min n = _
    rw [List.foldl_cons, Int.min_self]
  rw [← e] at hr
  obtain ⟨t, rfl⟩ : ∃ t, v = .int (listMin (n :: ns)) t := by cases hr; exact ⟨_, rfl⟩
  exact ⟨.int _, H, I.kept hk, ⟨_, rfl⟩, q⟩
theorem call_maxT (hc : X.calm = true) (hu : X.A.units + 66 < cLine) : CallR X (.builtin "max") (rMaxT X.K) := by
  intro pins s σ H vs us Q I r h
  obtain ⟨a, n, ns, rfl, hs, q⟩ := h
  obtain ⟨its, rv, ht, _⟩ := I.tuple hs
  rw [Vals.ref1 r]
  obtain ⟨as, hr⟩ := Dp.readsAll I _ _ its (dp_ints (n :: ns)) rv
  have hd := depth_ints (n :: ns)
  refine PySem.W.max_tuple_data (I.ok.hd hc) ht hr (alike_ints (n :: ns)) (by show _ + PyData.depthAll ((n :: ns).map PyData.int) < _; omega) fun i v h' tk bs hv hr hk => ?_
  rw [PySem.W.maxD_ints] at hr
  have e : listMax (n :: ns) = ns.foldl max n := by
    show (n :: ns).foldl max n = _
    rw [List.foldl_cons, Int.max_self]
  rw [← e] at hr
  obtain ⟨t, rfl⟩ : ∃ t, v = .int (listMax (n :: ns)) t := by cases hr; exact ⟨_, rfl⟩
  exact ⟨.int _, H, I.kept hk, ⟨_, rfl⟩, q⟩
def rSumT (K : PySem.W.Frag) : RB := fun xs H Q => ∃ (a : Addr) (ns : List Int), xs = [.ref a] ∧ SqT K H a (ns.map V.int) ∧ Q (.int ns.sum) H
theorem call_sumT (hc : X.calm = true) : CallR X (.builtin "sum") (rSumT X.K) := by
  intro pins s σ H vs us Q I r h
  obtain ⟨a, ns, rfl, hs, q⟩ := h
  obtain ⟨its, rv, ht, _⟩ := I.tuple hs
  rw [Vals.ref1 r]
  obtain ⟨xs, e⟩ := rv.ints.allInts.items
  have hn : numsOf (intItems xs).toList = ns := by rw [← e]; exact rv.ints.numsOf
  rw [nums_intItems] at hn
  rw [e] at ht
  refine PySem.W.ktm_sumG (I.ok.hd hc) ht fun h' tk t' hk => ?_
  rw [preSum_eq, List.take_of_length_le (by simp), hn]
  exact ⟨.int _, H, I.kept hk, ⟨_, rfl⟩, q⟩
def rBlt (K : PySem.W.Frag) : Blt → RB
  | .len => fun xs H Q => (∃ x n, xs = [x] ∧ LenV K x H n ∧ Q (.int n) H) ∨ rLenD xs H Q
  | .abs => fun xs H Q => ∃ i, xs = [.int i] ∧ Q (.int (if i < 0 then -i else i)) H
  | .int => fun xs H Q => (∃ i, xs = [.int i] ∧ Q (.int i) H) ∨ ∃ k, xs = [.bl k] ∧ Q (.int (if k then 1 else 0)) H
  | .list => fun xs H Q => ∃ p ys, xs = [.ref p] ∧ (SqL K H p ys ∨ SqT K H p ys) ∧ ∀ l, H l = none → Q (.ref l) (upd H l (.lst ys))
  | .tuple => rTupOf K
  | .sum => fun xs H Q => rSum K xs H Q ∨ rSumT K xs H Q
  | .sorted => rSortG K
  | .max => fun xs H Q => (rMax K xs H Q ∨ ∃ i j, xs = [.int i, .int j] ∧ Q (.int (if j > i then j else i)) H) ∨ rMaxT K xs H Q
  | .min => fun xs H Q => (rMin K xs H Q ∨ ∃ i j, xs = [.int i, .int j] ∧ Q (.int (if j < i then j else i)) H) ∨ rMinT K xs H Q
  | .str => fun xs H Q => ∃ i, xs = [.int i] ∧ i.natAbs.log2 < 1920 ∧ Q (.str (toString i)) H
  | .any => rAny K
  | .all => rAll K
theorem call_blt (hc : X.calm = true) (hu : X.A.units + 66 < cLine) : ∀ b : Blt, CallR X b.val (rBlt X.K b)
  | .len => call_len.or call_lenDk
  | .abs => call_abs
  | .int => call_int1
  | .list => call_list_of
  | .tuple => call_tupleF
  | .sum => (cr_sum hc).or (call_sumT hc)
  | .sorted => call_sortG hu
  | .max => ((cr_max hc).or (call_max2 hc)).or (call_maxT hc hu)
  | .min => ((cr_min hc).or (call_min2 hc)).or (call_minT hc hu)
  | .str => call_str_int
  | .any => cr_any hc
  | .all => cr_all hc
end
section
variable {K : KK} {S : AS} {H : Hp} {fo : List Addr} {r : MV} {v : Val} {m : Mk} {x y : V} {f f1 f2 : List Addr} {Q : VK} {xs : List Val} {ws us : List V} {av : List MV}
def mkc (av : List MV) : Mk := av.foldr (fun a m => .tc a.1 m) .tn
/-- arguments -/
def RA (K : KK) (S : AS) (H : Hp) (av : List MV) (ws : List V) (f : List Addr) : Prop := RS K S H (mkc av) (av.map (·.2)) ws f
theorem RA.one {a : MV} (h : RA K S H [a] ws f) : ∃ w, ws = [w] ∧ Rep K S H a.1 a.2 w f := by
  obtain ⟨v, ws', fp, fr, rfl, rfl, h1, h2⟩ := RS.uncons h
  obtain ⟨rfl, rfl⟩ := h2.nil_inv
  rw [List.append_nil]
  exact ⟨v, rfl, h1⟩
theorem RA.two {a b : MV} (h : RA K S H [a, b] ws f) : ∃ w w' f1 f2, ws = [w, w'] ∧ f = f1 ++ f2 ∧ Rep K S H a.1 a.2 w f1 ∧ Rep K S H b.1 b.2 w' f2 := by
  obtain ⟨v, ws', fp, fr, rfl, rfl, h1, h2⟩ := RS.uncons h
  have h2 : RA K S H [b] ws' fr := h2
  obtain ⟨w', rfl, h2⟩ := h2.one
  exact ⟨v, w', fp, fr, rfl, rfl, h1, h2⟩
theorem intsOf_snd : ∀ {xs : List Val} {ns : List Int} {mk : Mk} {ws : List V} {f : List Addr}, intsOf xs = some ns → RS K S H mk xs ws f → ws = ns.map V.int
  | [], ns, mk, ws, f, h, r => by cases h; exact r.nil_inv.1
  | .int i :: xs, ns, mk, ws, f, h, r => by
    simp only [intsOf] at h
    obtain ⟨ms, e, rfl⟩ := Option.map_eq_some_iff.mp h
    obtain ⟨v, ws', fp, fr, rfl, rfl, h1, h2⟩ := r.uncons
    rw [h1.inv_int.1, intsOf_snd e h2]; rfl
  | .non :: xs, ns, mk, ws, f, h, r => by cases h
  | .bl _ :: xs, ns, mk, ws, f, h, r => by cases h
  | .str _ :: xs, ns, mk, ws, f, h, r => by cases h
  | .tup _ :: xs, ns, mk, ws, f, h, r => by cases h
  | .lst _ :: xs, ns, mk, ws, f, h, r => by cases h
  | .dk _ :: xs, ns, mk, ws, f, h, r => by cases h
  | .dt _ :: xs, ns, mk, ws, f, h, r => by cases h
theorem boolsOf_snd : ∀ {xs : List Val} {ns : List Bool} {mk : Mk} {ws : List V} {f : List Addr}, boolsOf xs = some ns → RS K S H mk xs ws f → ws = ns.map V.bl
  | [], ns, mk, ws, f, h, r => by cases h; exact r.nil_inv.1
  | .bl i :: xs, ns, mk, ws, f, h, r => by
    simp only [boolsOf] at h
    obtain ⟨ms, e, rfl⟩ := Option.map_eq_some_iff.mp h
    obtain ⟨v, ws', fp, fr, rfl, rfl, h1, h2⟩ := r.uncons
    rw [h1.inv_bl.1, boolsOf_snd e h2]; rfl
  | .non :: xs, ns, mk, ws, f, h, r => by cases h
  | .int _ :: xs, ns, mk, ws, f, h, r => by cases h
  | .str _ :: xs, ns, mk, ws, f, h, r => by cases h
  | .tup _ :: xs, ns, mk, ws, f, h, r => by cases h
  | .lst _ :: xs, ns, mk, ws, f, h, r => by cases h
  | .dk _ :: xs, ns, mk, ws, f, h, r => by cases h
  | .dt _ :: xs, ns, mk, ws, f, h, r => by cases h
theorem foldl_max_ge : ∀ (ns : List Int) (a : Int), a ≤ ns.foldl max a ∧ ∀ y ∈ ns, y ≤ ns.foldl max a
  | [], a => ⟨Int.le_refl _, by simp⟩
  | n :: ns, a => by
    obtain ⟨h1, h2⟩ := foldl_max_ge ns (max a n)
    refine ⟨Int.le_trans (Int.le_max_left _ _) h1, fun y hy => ?_⟩
    rcases List.mem_cons.mp hy with rfl | hy
    · exact Int.le_trans (Int.le_max_right _ _) h1
    · exact h2 y hy
theorem foldl_max_mem : ∀ (ns : List Int) (a : Int), ns.foldl max a = a ∨ ns.foldl max a ∈ ns
  | [], a => .inl rfl
  | n :: ns, a => by
    rcases foldl_max_mem ns (max a n) with h | h
    · rw [List.foldl_cons, h]
      rcases Int.le_total a n with z | z
      · rw [Int.max_eq_right z]; exact .inr List.mem_cons_self
      · rw [Int.max_eq_left z]; exact .inl rfl
    · exact .inr (List.mem_cons_of_mem _ h)
theorem foldl_min_le : ∀ (ns : List Int) (a : Int), ns.foldl min a ≤ a ∧ ∀ y ∈ ns, ns.foldl min a ≤ y
  | [], a => ⟨Int.le_refl _, by simp⟩
  | n :: ns, a => by
    obtain ⟨h1, h2⟩ := foldl_min_le ns (min a n)
    refine ⟨Int.le_trans h1 (Int.min_le_left _ _), fun y hy => ?_⟩
    rcases List.mem_cons.mp hy with rfl | hy
    · exact Int.le_trans h1 (Int.min_le_right _ _)
    · exact h2 y hy
theorem foldl_min_mem : ∀ (ns : List Int) (a : Int), ns.foldl min a = a ∨ ns.foldl min a ∈ ns
  | [], a => .inl rfl
  | n :: ns, a => by
    rcases foldl_min_mem ns (min a n) with h | h
    · rw [List.foldl_cons, h]
      rcases Int.le_total a n with z | z
      · rw [Int.min_eq_left z]; exact .inl rfl
      · rw [Int.min_eq_right z]; exact .inr List.mem_cons_self
    · exact .inr (List.mem_cons_of_mem _ h)
theorem listMax_spec (n : Int) (ns : List Int) : listMax (n :: ns) ∈ n :: ns ∧ ∀ y ∈ n :: ns, y ≤ listMax (n :: ns) := by
  have h : listMax (n :: ns) = (n :: ns).foldl max n := rfl
  rw [h]
  refine ⟨?_, (foldl_max_ge _ _).2⟩
  rcases foldl_max_mem (n :: ns) n with e | e
  · rw [e]; exact List.mem_cons_self
  · exact e
theorem listMin_spec (n : Int) (ns : List Int) : listMin (n :: ns) ∈ n :: ns ∧ ∀ y ∈ n :: ns, listMin (n :: ns) ≤ y := by
  have h : listMin (n :: ns) = (n :: ns).foldl min n := rfl
  rw [h]
  refine ⟨?_, (foldl_min_le _ _).2⟩
  rcases foldl_min_mem (n :: ns) n with e | e
  · rw [e]; exact List.mem_cons_self
  · exact e
/-- a list whose items stay, item by item -/
theorem RS.pairs : ∀ {xs : List Val} {ws : List V}, RS K S H .st xs ws [] → ∃ qs : List (V × Val), xs = qs.map (·.2) ∧ ws = qs.map (·.1) ∧ ∀ q ∈ qs, Rep K S H .st q.2 q.1 []
  | [], ws, r => by obtain ⟨rfl, _⟩ := r.nil_inv; exact ⟨[], rfl, rfl, by simp⟩
  | x :: xs, ws, r => by
    obtain ⟨v, ws', fp, fr, rfl, e, h1, h2⟩ := r.uncons
    obtain ⟨rfl, rfl⟩ := List.append_eq_nil_iff.mp e.symm
    obtain ⟨qs, rfl, rfl, h⟩ := RS.pairs h2
    refine ⟨(v, x) :: qs, rfl, rfl, fun q hq => ?_⟩
    rcases List.mem_cons.mp hq with rfl | hq
    · exact h1
    · exact h q hq
theorem RS.ofPairs : ∀ {qs : List (V × Val)}, (∀ q ∈ qs, Rep K S H .st q.2 q.1 []) → RS K S H .st (qs.map (·.2)) (qs.map (·.1)) []
  | [], _ => .nil _
  | q :: qs, h => RS.cons (mk := .st) (fp := []) (h q List.mem_cons_self) (RS.ofPairs fun q hq => h q (List.mem_cons_of_mem _ hq))
theorem srtOk_inv {xs : List Val} (h : srtOk xs = true) : (∀ x ∈ xs, okV x = true) ∧ (∀ a ∈ xs, ∀ b ∈ xs, PySem.W.alike a.D b.D = true) ∧ ((∀ x ∈ xs, isTupC x = true) ∨ ∀ x ∈ xs, isNon x = false ∧ isTup x = false) := by
  simp only [srtOk, Bool.and_eq_true, Bool.or_eq_true, List.all_eq_true, Bool.not_eq_true'] at h
  exact ⟨h.1.1, h.1.2, h.2⟩
theorem bltV_snd {b : Blt} (h : bltV b av = some r) (ra : RA K S H av us f) (o : Ow K S H fo) (g : Gives K S H r.1 r.2 Q) : rBlt K.K b us H Q := by
  unfold bltV at h
  split at h
  · cases h; obtain ⟨w, rfl, r1⟩ := ra.one
    obtain ⟨a, ws, g', rfl, q, rs, _⟩ := r1.seqL
    exact .inl ⟨_, _, rfl, .inl ⟨ws, q, rfl⟩, by rw [rs.length]; exact g.int o⟩
  · cases h; obtain ⟨w, rfl, r1⟩ := ra.one
    obtain ⟨a, ws, rfl, _, q, rs⟩ := r1.inv_tup
    exact .inl ⟨_, _, rfl, .inr ⟨ws, q.sq, rfl⟩, by rw [rs.length]; exact g.int o⟩
  · split at h
    · rename_i c; cases h; obtain ⟨w, rfl, r1⟩ := ra.one
      obtain ⟨rfl, _⟩ := r1.inv_str
      exact .inl ⟨_, _, rfl, ⟨c, rfl⟩, g.int o⟩
    · cases h
  · cases h; obtain ⟨w, rfl, r1⟩ := ra.one
    obtain ⟨a, ws, mk, g', rfl, hd, rs⟩ := r1.dk
    refine .inr ⟨a, _, rfl, hd, ?_⟩
    have := rs.length
    rw [List.length_zip, this]
    simpa using g.int o
  · cases h; obtain ⟨w, rfl, r1⟩ := ra.one
    obtain ⟨rfl, _⟩ := r1.inv_int
    exact ⟨_, rfl, g.int o⟩
  · cases h; obtain ⟨w, rfl, r1⟩ := ra.one
    obtain ⟨rfl, _⟩ := r1.inv_int
    exact .inl ⟨_, rfl, g.int o⟩
  · cases h; obtain ⟨w, rfl, r1⟩ := ra.one
    obtain ⟨rfl, _⟩ := r1.inv_bl
    exact .inr ⟨_, rfl, g.int o⟩
  · split at h
    · rename_i c; cases h; obtain ⟨w, rfl, r1⟩ := ra.one
      obtain ⟨a1, w1, rfl, q1, s1⟩ := r1.flat c
      exact ⟨a1, w1, rfl, .inl q1, fun p hp => g.lst o s1 hp⟩
    · cases h
  · cases h; obtain ⟨w, rfl, r1⟩ := ra.one
    obtain ⟨a1, w1, rfl, q1, s1⟩ := r1.flatT
    exact ⟨a1, w1, rfl, .inr q1.sq, fun p hp => g.lst o s1 hp⟩
  · split at h
    · rename_i c; cases h; obtain ⟨w, rfl, r1⟩ := ra.one
      obtain ⟨a1, w1, rfl, q1, s1⟩ := r1.flat c
      exact ⟨a1, w1, rfl, .inl ⟨q1, fun p its hp => g.tup o s1 hp⟩⟩
    · cases h
  · cases h; obtain ⟨w, rfl, r1⟩ := ra.one
    obtain ⟨a1, w1, rfl, q1, s1⟩ := r1.flatT
    exact ⟨a1, w1, rfl, .inr ⟨q1.sq, g.st o (Rep.tup rfl q1 s1)⟩⟩
  · obtain ⟨ns, e, rfl⟩ := Option.map_eq_some_iff.mp h
    obtain ⟨w, rfl, r1⟩ := ra.one
    obtain ⟨a, ws, g', rfl, q, rs, _⟩ := r1.seqL
    have := intsOf_snd e rs
    subst this
    exact .inl ⟨a, ns, rfl, q, g.int o⟩
  · obtain ⟨ns, e, rfl⟩ := Option.map_eq_some_iff.mp h
    obtain ⟨w, rfl, r1⟩ := ra.one
    obtain ⟨a, ws, rfl, _, q, rs⟩ := r1.inv_tup
    have := intsOf_snd e rs
    subst this
    exact .inr ⟨a, ns, rfl, q.sq, g.int o⟩
  · split at h
    · rename_i n ns e; cases h
      obtain ⟨w, rfl, r1⟩ := ra.one
      obtain ⟨a, ws, g', rfl, q, rs, _⟩ := r1.seqL
      have := intsOf_snd e rs
      subst this
      refine .inl (.inl ⟨a, _, rfl, q, by simp, fun m hm hx => ?_⟩)
      obtain ⟨h1, h2⟩ := listMax_spec n ns
      have : m = listMax (n :: ns) := Int.le_antisymm (h2 m hm) (hx _ h1)
      subst this
      exact g.int o
    · cases h
  · split at h
    · rename_i n ns e; cases h
      obtain ⟨w, rfl, r1⟩ := ra.one
      obtain ⟨a, ws, g', rfl, q, rs, _⟩ := r1.seqL
      have := intsOf_snd e rs
      subst this
      refine .inl (.inl ⟨a, _, rfl, q, by simp, fun m hm hx => ?_⟩)
      obtain ⟨h1, h2⟩ := listMin_spec n ns
      have : m = listMin (n :: ns) := Int.le_antisymm (hx _ h1) (h2 m hm)
      subst this
      exact g.int o
    · cases h
  · split at h
    · rename_i n ns e; cases h
      obtain ⟨w, rfl, r1⟩ := ra.one
      obtain ⟨a, ws, rfl, _, q, rs⟩ := r1.inv_tup
      have := intsOf_snd e rs
      subst this
      exact .inr ⟨a, n, ns, rfl, q.sq, g.int o⟩
    · cases h
  · split at h
    · rename_i n ns e; cases h
      obtain ⟨w, rfl, r1⟩ := ra.one
      obtain ⟨a, ws, rfl, _, q, rs⟩ := r1.inv_tup
      have := intsOf_snd e rs
      subst this
      exact .inr ⟨a, n, ns, rfl, q.sq, g.int o⟩
    · cases h
  · cases h
    obtain ⟨w, w', f1, f2, rfl, rfl, r1, r2⟩ := ra.two
    obtain ⟨rfl, _⟩ := r1.inv_int
    obtain ⟨rfl, _⟩ := r2.inv_int
    exact .inl (.inr ⟨_, _, rfl, g.int o⟩)
  · cases h
    obtain ⟨w, w', f1, f2, rfl, rfl, r1, r2⟩ := ra.two
    obtain ⟨rfl, _⟩ := r1.inv_int
    obtain ⟨rfl, _⟩ := r2.inv_int
    exact .inl (.inr ⟨_, _, rfl, g.int o⟩)
  · split at h
    · rename_i c; cases h
      obtain ⟨w, rfl, r1⟩ := ra.one
      obtain ⟨a1, w1, rfl, q1, s1⟩ := r1.flat c.1
      obtain ⟨h1, h2, h3⟩ := srtOk_inv c.2
      obtain ⟨qs, rfl, rfl, hq⟩ := s1.pairs
      have hD : (qs.map fun q => (q.1, q.2.D)).map (·.1) = qs.map (·.1) := by simp
      refine ⟨a1, qs.map fun q => (q.1, q.2.D), rfl, by rw [hD]; exact q1, fun p hp => ?_, fun d hd d' hd' => ?_, ?_, fun p hp => ?_, fun l hl => ?_⟩
      · obtain ⟨q, hq', rfl⟩ := List.mem_map.mp hp
        exact (hq q hq').dp (h1 _ (List.mem_map_of_mem hq'))
      · obtain ⟨p, hp, rfl⟩ := List.mem_map.mp hd
        obtain ⟨p', hp', rfl⟩ := List.mem_map.mp hd'
        obtain ⟨q, hq', rfl⟩ := List.mem_map.mp hp
        obtain ⟨q', hq'', rfl⟩ := List.mem_map.mp hp'
        exact h2 _ (List.mem_map_of_mem hq') _ (List.mem_map_of_mem hq'')
      · rcases h3 with h3 | h3
        · refine .inl fun d hd => ?_
          obtain ⟨p, hp, rfl⟩ := List.mem_map.mp hd
          obtain ⟨q, hq', rfl⟩ := List.mem_map.mp hp
          have := h3 _ (List.mem_map_of_mem hq')
          show ∃ x r, q.2.D = _
          cases e : q.2 with
          | tup xs =>
            cases xs with
            | nil => rw [e] at this; cases this
            | cons x xs => simp only [Val.D, Val.Ds]; exact ⟨_, _, rfl⟩
          | _ => rw [e] at this; cases this
        · refine .inr fun d hd => ?_
          obtain ⟨p, hp, rfl⟩ := List.mem_map.mp hd
          obtain ⟨q, hq', rfl⟩ := List.mem_map.mp hp
          have := h3 _ (List.mem_map_of_mem hq')
          show q.2.D ≠ _ ∧ ∀ xs, q.2.D ≠ _
          cases e : q.2 <;> rw [e] at this <;> simp [isNon, isTup, Val.D] at this ⊢
      · obtain ⟨q, hq', rfl⟩ := List.mem_map.mp hp
        exact SeqAt.depth_of_shaped (h1 _ (List.mem_map_of_mem hq'))
      · have e1 : ((qs.map fun q => (q.1, q.2.D)).mergeSort (PySem.W.dataLe false pyOf)).map (·.1) = (qs.mergeSort fun p q => leV p.2 q.2).map (·.1) := by
          have : (qs.mergeSort fun p q => leV p.2 q.2).map (fun q => (q.1, q.2.D)) = (qs.map fun q => (q.1, q.2.D)).mergeSort (PySem.W.dataLe false pyOf) := List.map_mergeSort fun a _ b _ => by rw [PySem.W.dataLe_eq]; rfl
          rw [← this, List.map_map]; rfl
        have e2 : (qs.mergeSort fun p q => leV p.2 q.2).map (·.2) = sortV (qs.map (·.2)) := List.map_mergeSort fun a _ b _ => rfl
        rw [e1]
        rw [← e2] at g
        exact g.lst o (RS.ofPairs fun q hq' => hq q ((List.mergeSort_perm qs _).mem_iff.mp hq')) hl
    · cases h
  · split at h
    · rename_i c; cases h
      obtain ⟨w, rfl, r1⟩ := ra.one
      obtain ⟨rfl, _⟩ := r1.inv_int
      exact ⟨_, rfl, c, g.str o⟩
    · cases h
  · obtain ⟨ns, e, rfl⟩ := Option.map_eq_some_iff.mp h
    obtain ⟨w, rfl, r1⟩ := ra.one
    obtain ⟨a, ws, g', rfl, q, rs, _⟩ := r1.seqL
    have := boolsOf_snd e rs
    subst this
    exact ⟨a, ns, rfl, q, g.st o Rep.bl⟩
  · obtain ⟨ns, e, rfl⟩ := Option.map_eq_some_iff.mp h
    obtain ⟨w, rfl, r1⟩ := ra.one
    obtain ⟨a, ws, g', rfl, q, rs, _⟩ := r1.seqL
    have := boolsOf_snd e rs
    subst this
    exact ⟨a, ns, rfl, q, g.st o Rep.bl⟩
  · cases h
end
end Sh

/-! ShE2: sorted of a tuple, of a dict's keys; reverse; what walks a dict -/
namespace Sh
open PySem PySem.Spec PyProof.Rows L2
section
variable {X : Cx}
/-- the list is sorted, rev: from the greatest on -/
def sortP (rev : Bool) (ps : List (V × PyData)) : List V := (ps.mergeSort (PySem.W.dataLe rev pyOf)).map (·.1)
structure SrtD (K : PySem.W.Frag) (H : Hp) (ps : List (V × PyData)) : Prop where
  dp : ∀ p ∈ ps, Dp K H p.1 p.2
  al : PySem.W.AllAlike (ps.map pyOf)
  so : PySem.W.Sortable (ps.map pyOf)
  de : ∀ p ∈ ps, p.2.depth ≤ 64
/-- a new list of the items, sorted -/
theorem sort_tail {A : Around} {pins : List (Addr × Obj)} {σ : L2.St} {H : Hp} {s : Shared} {ps : List (V × PyData)} {us : List Value} {E : Value → Shared → Prop} {kw : List (Str × Value)} {rev : Bool} {P : Value → Shared → Prop} (I : Inv X pins σ H s) (hA : A.units = X.A.units + 1) (rv : Vals (ps.map (·.1)) us) (hd : SrtD X.K H ps) (hz : us.length ≤ sizeLine)
    (hu : X.A.units + 66 < cLine) (hkw : (rev = false ∧ kw = []) ∨ kw = [(Str.ofString "reverse", .bool rev)])
    (q : ∀ s' l, H l = none → Inv X pins σ (upd H l (.lst (sortP rev ps))) s' → P (.ref l) s') :
    wpAny (model X.prog X.w) A (do let l ← newList us; let _ ← holding [l] (call (.builtin "list.sort") [l] kw); ret l) (fun fin s' => ∃ v, fin = .done (.ret v) ∧ P v s') E s := by
  refine wpAny_bind (wpAny_newList ?_ hz)
  have e := each_of_vals rv
  have er := each_reads I hd.dp rv
  have ho : (s.heap.push (seqObj "list" us.toArray 0)).get? s.heap.objs.size = some (seqObj "list" us.toArray 0) := Heap.get?_push_size _ rfl
  have old : ∀ b o, s.heap.get? b = some o → (PySem.W.sortingHeap (s.heap.push (seqObj "list" us.toArray 0)) s.heap.objs.size us).get? b = some o := fun b o q => PySem.W.sortingHeap_old (Nat.ne_of_lt (Heap.lt_size q)) (Heap.get?_push_of_some _ q)
  have er' : PySem.W.EachIs (fun v (p : V × PyData) => ∃ as, Reads (PySem.W.sortingHeap (s.heap.push (seqObj "list" us.toArray 0)) s.heap.objs.size us) v (pyOf p) as) us ps := er.mono fun _ _ ⟨as, r⟩ => ⟨as, PyProof.Rows.Reads.keeps old r⟩
  have hL : us.length ≤ sizeLine := hz
  have SA := PySem.W.SortsAt.data (prog := X.prog) (w := X.w) (A := A.in1) (s := { s with heap := PySem.W.sortingHeap (s.heap.push (seqObj "list" us.toArray 0)) s.heap.objs.size us }) (PySem.W.each_map (R := fun v d => ∃ as, Reads (PySem.W.sortingHeap (s.heap.push (seqObj "list" us.toArray 0)) s.heap.objs.size us) v d as) pyOf er') hd.al hd.so (PySem.W.bound_map fun b hb => by
    have := hd.de b hb
    show A.units + 1 + b.2.depth < cLine
    omega)
  show wpAny _ _ _ _ _ { s with heap := s.heap.push (seqObj "list" us.toArray 0) }
  have fin : ∀ out : List Value, out.length = ps.length → PySem.W.EachIs (fun u (p : V × PyData) => RelV p.1 u) out (ps.mergeSort (PySem.W.dataLe rev pyOf)) →
      P (.ref s.heap.objs.size) { s with heap := sortedHeap (s.heap.push (seqObj "list" us.toArray 0)) s.heap.objs.size us out.toArray } := fun out hl eo => by
    obtain ⟨c, hc⟩ := PyProof.Rows.sortedHeap_at (vs := us) (out := out.toArray) ho
    have hlen : (sortP rev ps).length ≤ sizeLine := by
      unfold sortP
      rw [List.length_map, List.length_mergeSort]
      have := rv.length
      rw [List.length_map] at this
      omega
    refine q _ _ (I.hok.fresh (Nat.le_refl _)) (I.laid (t' := s.toks) (fun b u e => ?_) (Nat.le_refl _) (show ObjOk X.prog X.w _ _ _ (.lst (sortP rev ps)) from ⟨hlen, out, c, vals_of_each eo, hc⟩))
    have hb : b < s.heap.objs.size := Heap.lt_size e
    rw [PyProof.Rows.sortedHeap_old (Nat.ne_of_lt hb) (by rw [size_push']; exact Nat.lt_succ_of_lt hb)]
    exact Heap.get?_push_of_some _ e
  rcases hkw with ⟨rfl, rfl⟩ | rfl
  · refine wpAny_bind (wpAny_holding (wpAny_call_entry PyProof.Rows.slot_list_sort ⟨_, ho, rfl⟩ PyProof.Rows.entry_list_sort
      (PySem.W.list_sort_vals (s := { s with heap := s.heap.push (seqObj "list" us.toArray 0) }) ho SA hL ⟨.none, rfl, ?_⟩) (PyProof.Rows.args_list_sort _)))
    exact wpAny_pure ⟨_, rfl, fin _ (by rw [PySem.W.sortVals_length false rfl]; exact e.length) (PySem.W.sortVals_data false e er' hd.al)⟩
  · refine wpAny_bind (wpAny_holding (PyProof.Rows.wpAny_call_entry_kw PyProof.Rows.slot_list_sort ⟨_, ho, rfl⟩ PyProof.Rows.entry_list_sort
      (PySem.W.list_sort_rev_vals (s := { s with heap := s.heap.push (seqObj "list" us.toArray 0) }) ho SA hL ⟨.none, rfl, ?_⟩) (PyProof.Rows.args_list_sort_rev _ _)))
    exact wpAny_pure ⟨_, rfl, fin _ (by rw [PySem.W.sortVals_length rev rfl]; exact e.length) (PySem.W.sortVals_data rev e er' hd.al)⟩
/-- sorted(a tuple) -/
def rSortT (K : PySem.W.Frag) : RB := fun xs H Q => ∃ (a : Addr) (ps : List (V × PyData)), xs = [.ref a] ∧ SqT K H a (ps.map (·.1)) ∧ SrtD K H ps ∧ ∀ l, H l = none → Q (.ref l) (upd H l (.lst (sortP false ps)))
theorem call_sortT (hu : X.A.units + 66 < cLine) : CallR X (.builtin "sorted") (rSortT X.K) := by
  intro pins s σ H xs us Q I r h
  obtain ⟨a, ps, rfl, hs, hd, q⟩ := h
  obtain ⟨u, rfl, rx⟩ := vals1 r
  cases rx
  obtain ⟨its, rv, ⟨o, ho, hc, n, hdt⟩, hz⟩ := I.tuple hs
  refine Calls.call_function_entry PyProof.Rows.kind_sorted PyProof.Rows.plain_sorted PyProof.Rows.entry_sorted (PyProof.Rows.args_sorted1 _) ?_
  unfold Builtin.«sorted»
  have hzi : its.length ≤ sizeLine := by have := rv.length; omega
  refine wpAny_bind (m := checkCount "sorted" 1 1 _) (wpAny_pure ?_)
  refine wpAny_bind (wpAny_collect_seq a (.inr rfl) ho hc hdt (fun h' hk => ?_) (by rw [List.size_toArray]; exact hzi))
  have I1 : Inv X pins σ H { s with heap := h' } := I.kept (t' := s.toks) hk
  exact sort_tail (A := X.A.in1) (kw := []) (rev := false) (P := EP X pins σ Q) I1 rfl rv hd (by simpa using hzi) hu (.inl ⟨rfl, rfl⟩) fun s' l hl I2 => ⟨.ref l, _, I2, rfl, q l hl⟩
/-- sorted(a list, reverse=True) -/
def rSortR (K : PySem.W.Frag) : List V → List V → Hp → VK → Prop := fun xs zs H Q => ∃ (a : Addr) (ps : List (V × PyData)) (b : Bool), xs = [.ref a] ∧ zs = [.bl b] ∧ SqL K H a (ps.map (·.1)) ∧ SrtD K H ps ∧ ∀ l, H l = none → Q (.ref l) (upd H l (.lst (sortP b ps)))
theorem call_sortR (hu : X.A.units + 66 < cLine) : CallRK X (.builtin "sorted") [Str.ofString "reverse"] (rSortR X.K) := by
  intro pins s σ H xs zs us ws Q I r rz h
  obtain ⟨a, ps, b, rfl, rfl, hs, hd, q⟩ := h
  obtain ⟨u, rfl, rx⟩ := vals1 r
  cases rx
  obtain ⟨z, rfl, rb⟩ := vals1 rz
  cases rb
  obtain ⟨its, rv, ⟨o, n, ho, hc, hdn, hdt⟩, hz⟩ := I.list hs
  refine PyProof.Rows.call_function_entry_kw PyProof.Rows.kind_sorted PyProof.Rows.plain_sorted PyProof.Rows.entry_sorted (PyProof.Rows.args_sorted_rev _ _) ?_
  unfold Builtin.«sorted»
  have hzi : its.length ≤ sizeLine := by have := rv.length; omega
  refine wpAny_bind (m := checkCount "sorted" 1 1 _) (wpAny_pure ?_)
  refine wpAny_bind (wpAny_collect_seq a (.inl rfl) ho hc hdt (fun h' hk => ?_) (by rw [List.size_toArray]; exact hzi))
  have I1 : Inv X pins σ H { s with heap := h' } := I.kept (t' := s.toks) hk
  exact sort_tail (A := X.A.in1) (rev := b) (P := EP X pins σ Q) I1 rfl rv hd (by simpa using hzi) hu (.inr rfl) fun s' l hl I2 => ⟨.ref l, _, I2, rfl, q l hl⟩
/-- sorted(d.keys()) -/
def rSortK (K : PySem.W.Frag) : V → Hp → VK → Prop := fun x H Q => ∃ (d : Addr) (kvs : List (Key × V)) (ps : List (V × PyData)), x = .ref d ∧ Rd H d (.dK kvs) ∧ ps.map (·.1) = (kvs.map fun p => kV p.1) ∧ SrtD K H ps ∧ ∀ l, H l = none → Q (.ref l) (upd H l (.lst (sortP false ps)))
def tR1 (r : V → Hp → VK → Prop) (t : TE) : TE := fun σ H Q => t σ H fun x H1 => r x H1 Q
variable {o e : Expr} {p pos apos mpos : Pos} {td : TE}
theorem pe_sortK (hcalm : X.calm = true) (hu : X.A.units + 66 < cLine) (hg : Gl X "sorted") (hm : X.mg "sorted" = none) (hd : PE X o td) (hbase : attributeBase o "keys" X.env (eval o X.env) = eval o X.env) (hline : (apos.endLine == mpos.line) = true) :
    PE X (.Call (.Name "sorted" p) [.Call (.Attribute o "keys" apos) [] [] mpos] [] pos) (tR1 (rSortK X.K) td) := by
  refine ⟨fun pins s σ H Q I h => ?_⟩
  refine wpAny_Call_Name_kw (ld_blt I hg hm (u := .builtin "sorted") (by first | rfl | decide +kernel) ?_ (by first | decide +kernel | decide) (by first | decide +kernel | decide))
  show wpAny _ _ (callWith _ _ _ [(false, eval (Expr.Call (.Attribute o "keys" apos) [] [] mpos) X.env)] _) _ _ _
  refine PySem.callWith_builtin1 (wpAny_Call_method0_late hbase hline (thn (hd.run pins s σ H _ I h) fun v s1 ⟨x, H1, I1, r1, a, kvs, ps, ex, ha, hps, hsd, q⟩ => ?_))
  subst ex
  obtain rfl : v = Value.ref a := r1
  obtain ⟨z, lo, vs, rel, dd⟩ := dk_rd I1.hok ha
  obtain ⟨ep, hat⟩ := dd.dictAt
  have dat' := hat
  obtain ⟨ob, es, ho, ex, hdat, hko, hpr, hnd⟩ := dat'
  refine ⟨"dict", "dict.keys", F.plainAttrs_dict, F.slot_dict_keys, F.type_dict_keys, ⟨ob, ho, ex.1⟩, fun b e => ?_, Calls.callWith_builtin rfl (PySem.evalArgs_none ?_)⟩
  · cases e
    exact ⟨ob, ho, ex.2.1⟩
  refine call_meetsIn F.slot_dict_keys ⟨ob, ho, ex.1⟩ F.entry_dict_keys (F.args_dict_keys_1 _) (PySem.W.kdl_meets_keys (mixKind X.prog X.w) a lo) ⟨⟨vs, dd⟩, ?_⟩
  have k1 : ∀ b u, s1.heap.get? b = some u → (s1.heap.push { cls := .type "dict_keys", data := .fields #[.ref a] }).get? b = some u := fun b u e => Heap.get?_push_of_some _ e
  have dat1 : (s1.heap.push { cls := .type "dict_keys", data := .fields #[.ref a] }).DictAt (mixKind X.prog X.w) a vs ep := hat.keep k1
  have I2 : Inv X pins σ H1 { s1 with heap := s1.heap.push { cls := .type "dict_keys", data := .fields #[.ref a] } } := I1.kept (t' := s1.toks) k1
  have lk : kvs.length = vs.length := rel.length
  refine Calls.call_function_entry PyProof.Rows.kind_sorted PyProof.Rows.plain_sorted PyProof.Rows.entry_sorted (PyProof.Rows.args_sorted1 _) ?_
  unfold Builtin.«sorted»
  refine wpAny_bind (m := checkCount "sorted" 1 1 _) (wpAny_pure ?_)
  refine wpAny_bind (PySem.W.kdu_collect (A := X.A.in1) (PySem.W.kdl_keys (r := s1.heap.objs.size) (d := a) (knd := mixKind X.prog X.w) (kvs := vs) (ep := ep)) (I.ok.hd hcalm) ⟨⟨_, Heap.get?_push_size _ rfl, rfl, rfl⟩, dat1⟩ (by omega) fun h' tk acc hk hacc => ?_)
  have I3 : Inv X pins σ H1 { s1 with heap := h', toks := tk } := I2.kept hk
  have hv : Vals (vs.map fun p => kV p.1) acc.toList := keys_at (by rw [Array.length_toList]; exact hacc.1) fun j v e => hacc.2 j v (by rw [← Array.getElem?_toList]; exact e)
  have ek : (kvs.map fun kv => kV kv.1) = vs.map fun p => kV p.1 := by
    have e := congrArg (List.map kV) rel.keys
    rw [List.map_map, List.map_map] at e
    exact e
  have hv' : Vals (ps.map (·.1)) acc.toList := by rw [hps, ek]; exact hv
  exact sort_tail (A := X.A.in1) (kw := []) (rev := false) (P := EP X pins σ Q) I3 rfl hv' hsd (by rw [Array.length_toList, hacc.1]; omega) hu (.inl ⟨rfl, rfl⟩) fun s' l hl I4 => ⟨.ref l, _, I4, rfl, q l hl⟩
end
/-! ### for k in d.keys(): the dict stays as it is from then on -/
def iKF (J : Addr → Obj → List (Key × V) → It) (td : TE) : TI := fun σ H R => td σ H fun x H1 => ∃ d kvs, x = .ref d ∧ ((∃ o, H1 d = some (.frz o (.dK kvs)) ∧ R (J d o kvs) H1) ∨ (H1 d = some (.dK kvs) ∧ ∀ o, R (J d o kvs) (upd H1 d (.frz o (.dK kvs)))))
section
variable {X : Cx} {tg e : Expr} {td : TE} {apos cpos : Pos}
theorem frz_in {J : Addr → Obj → List (Key × V) → It} {R : It → Hp → Prop} {pins : List (Addr × Obj)} {σ : L2.St} {H : Hp} {s : Shared} {d : Addr} {kvs : List (Key × V)} (I : Inv X pins σ H s)
    (q : (∃ o, H d = some (.frz o (.dK kvs)) ∧ R (J d o kvs) H) ∨ (H d = some (.dK kvs) ∧ ∀ o, R (J d o kvs) (upd H d (.frz o (.dK kvs))))) : ∃ o H', Inv X pins σ H' s ∧ H' d = some (.frz o (.dK kvs)) ∧ R (J d o kvs) H' := by
  rcases q with ⟨o, h, q⟩ | ⟨h, q⟩
  · exact ⟨o, H, I, h, q⟩
  · obtain ⟨od, I1⟩ := I.lock h trivial
    exact ⟨od, _, I1, upd_same, q od⟩
theorem pi_keysF (he : PE X e td) (hbase : attributeBase e "keys" X.env (eval e X.env) = eval e X.env) (hline : (apos.endLine == cpos.line) = true) : PI X tg (.Call (.Attribute e "keys" apos) [] [] cpos) (iKF Itk td) := by
  refine ⟨fun pins s σ H R I h => ?_⟩
  refine wpAny_Call_method (T := "dict") (id := "dict.keys") hbase rfl hline F.plainAttrs_dict F.slot_dict_keys F.type_dict_keys (thn (he.run pins s σ H _ I h) fun u s1 ⟨x, H1, I1, rx, d, kvs, ex, q⟩ => ?_)
  subst ex
  obtain rfl : u = Value.ref d := rx
  obtain ⟨o, H1, I1, hd, q⟩ := frz_in I1 q
  obtain ⟨hs, hgd, hx, es, ep, vs, hdt, hsz, kv, hm⟩ := I1.frzK hd
  have hl : kvs.length = vs.length := Paired.length kv
  refine ⟨hm.dictOf.typeIs, hm.dictOf.mapOf.noDict, ?_⟩
  have I2 : Inv X pins σ H1 { s1 with heap := s1.heap.push { cls := .type "dict_keys", data := .fields #[.ref d] } } := I1.kept (t' := s1.toks) fun b ob q => Heap.get?_push_of_some _ q
  have fin : wpAny (model X.prog X.w) X.A (pyIter (.ref s1.heap.objs.size)) (PIE X pins σ tg R) X.xe { s1 with heap := s1.heap.push { cls := .type "dict_keys", data := .fields #[.ref d] } } := by
    refine PySem.W.kdl_pyIter_keys (d := d) (knd := mixKind X.prog X.w) ⟨_, Heap.get?_push_size _ rfl, rfl, rfl⟩ (hm.push _) (pi_one (tk := s1.toks) I2 _ (turn_keys _ hdt) ⟨_, Heap.get?_push_size _ rfl, rfl, ?_⟩ q)
    rw [hl] <;> rfl
  show wpAny _ _ (callWith cpos (.builtin "dict.keys") [.ref d] [] []) _ X.xe s1
  exact method_meetsIn F.slot_dict_keys F.entry_dict_keys rfl (PySem.evalArgs_none ⟨rfl, hm.dictOf.typeIs, F.args_dict_keys_1 _, _, PySem.W.kdl_meets_keys (mixKind X.prog X.w) d hs, ⟨vs, hm.dictOf⟩, fin⟩)
theorem pi_valuesF (he : PE X e td) (hbase : attributeBase e "values" X.env (eval e X.env) = eval e X.env) (hline : (apos.endLine == cpos.line) = true) : PI X tg (.Call (.Attribute e "values" apos) [] [] cpos) (iKF Itd td) := by
  refine ⟨fun pins s σ H R I h => ?_⟩
  refine wpAny_Call_method (T := "dict") (id := "dict.values") hbase rfl hline F.plainAttrs_dict F.slot_dict_values F.type_dict_values (thn (he.run pins s σ H _ I h) fun u s1 ⟨x, H1, I1, rx, d, kvs, ex, q⟩ => ?_)
  subst ex
  obtain rfl : u = Value.ref d := rx
  obtain ⟨o, H1, I1, hd, q⟩ := frz_in I1 q
  obtain ⟨hs, hgd, hx, es, ep, vs, hdt, hsz, kv, hm⟩ := I1.frzK hd
  have hl : kvs.length = vs.length := Paired.length kv
  refine ⟨hm.dictOf.typeIs, hm.dictOf.mapOf.noDict, ?_⟩
  have I2 : Inv X pins σ H1 { s1 with heap := s1.heap.push { cls := .type "dict_values", data := .fields #[.ref d] } } := I1.kept (t' := s1.toks) fun b ob q => Heap.get?_push_of_some _ q
  have fin : wpAny (model X.prog X.w) X.A (pyIter (.ref s1.heap.objs.size)) (PIE X pins σ tg R) X.xe { s1 with heap := s1.heap.push { cls := .type "dict_values", data := .fields #[.ref d] } } := by
    refine wpAny_pyIter_values (d := d) (knd := mixKind X.prog X.w) ⟨_, Heap.get?_push_size _ rfl, rfl, rfl⟩ (hm.push _) (pi_one (tk := s1.toks) I2 _ (turn_vals _ hdt) ⟨_, Heap.get?_push_size _ rfl, rfl, ?_⟩ q)
    rw [hl] <;> rfl
  show wpAny _ _ (callWith cpos (.builtin "dict.values") [.ref d] [] []) _ X.xe s1
  exact method_meetsIn F.slot_dict_values F.entry_dict_values rfl (PySem.evalArgs_none ⟨rfl, hm.dictOf.typeIs, F.args_dict_values_1 _, _, meets_dict_values (mixKind X.prog X.w) d hs, ⟨vs, hm.dictOf⟩, fin⟩)
theorem pi_itemsF {elts : List Expr} {kk : Nat} {tpos : Pos} (he : PE X e td) (hbase : attributeBase e "items" X.env (eval e X.env) = eval e X.env) (hline : (apos.endLine == cpos.line) = true) :
    PI X (.Tuple elts kk tpos) (.Call (.Attribute e "items" apos) [] [] cpos) (iKF Iti td) := by
  refine ⟨fun pins s σ H R I h => ?_⟩
  refine wpAny_Call_method (T := "dict") (id := "dict.items") hbase rfl hline F.plainAttrs_dict F.slot_dict_items F.type_dict_items (thn (he.run pins s σ H _ I h) fun u s1 ⟨x, H1, I1, rx, d, kvs, ex, q⟩ => ?_)
  subst ex
  obtain rfl : u = Value.ref d := rx
  obtain ⟨o, H1, I1, hd, q⟩ := frz_in I1 q
  obtain ⟨hs, hgd, hx, es, ep, vs, hdt, hsz, kv, hm⟩ := I1.frzK hd
  have hl : kvs.length = vs.length := Paired.length kv
  refine ⟨hm.dictOf.typeIs, hm.dictOf.mapOf.noDict, ?_⟩
  have I2 : Inv X pins σ H1 { s1 with heap := s1.heap.push { cls := .type "dict_items", data := .fields #[.ref d] } } := I1.kept (t' := s1.toks) fun b ob q => Heap.get?_push_of_some _ q
  have fin : wpAny (model X.prog X.w) X.A (pyIter (.ref s1.heap.objs.size)) (PIE X pins σ (.Tuple elts kk tpos) R) X.xe { s1 with heap := s1.heap.push { cls := .type "dict_items", data := .fields #[.ref d] } } := by
    refine wpAny_pyIter_items (d := d) (knd := mixKind X.prog X.w) ⟨_, Heap.get?_push_size _ rfl, rfl, rfl⟩ (hm.push _) (pi_one (tk := s1.toks) I2 _ (turn_items _ hdt) ⟨.none, .none, ?_⟩ q)
    rw [hl]
    exact Heap.get?_push_size _ rfl
  show wpAny _ _ (callWith cpos (.builtin "dict.items") [.ref d] [] []) _ X.xe s1
  exact method_meetsIn F.slot_dict_items F.entry_dict_items rfl (PySem.evalArgs_none ⟨rfl, hm.dictOf.typeIs, F.args_dict_items_1 _, _, meets_dict_items (mixKind X.prog X.w) d hs, ⟨vs, hm.dictOf⟩, fin⟩)
/-- for k in d -/
theorem pi_dictF (he : PE X e td) : PI X tg e (iKF Itk td) := by
  refine ⟨fun pins s σ H R I h => ?_⟩
  refine thn (he.run pins s σ H _ I h) fun u s1 ⟨x, H1, I1, rx, d, kvs, ex, q⟩ => ?_
  subst ex
  obtain rfl : u = Value.ref d := rx
  obtain ⟨o, H1, I1, hd, q⟩ := frz_in I1 q
  obtain ⟨hs, hgd, hx, es, ep, vs, hdt, hsz, kv, hm⟩ := I1.frzK hd
  refine iter_keys hs hgd hx hdt (pi_one (tk := s1.toks) I1 _ (turn_keys _ hdt) ⟨_, Heap.get?_push_size _ rfl, rfl, ?_⟩ q)
  rw [hsz] <;> rfl
end
end Sh

/-! ShE3: special unary constructs by values -/
namespace Sh
open PySem PySem.Spec PyProof.Rows L2
/-- sorted(d.keys()); tuple(reversed(list)); sorted(list, reverse=True); min(list, default=None) -/
inductive Sk where
  | skeys | trev | srev | stup | mind
  deriving DecidableEq
/-- how a dict is walked -/
inductive Wk where
  | keys | vals | items | dict
  deriving DecidableEq
def keyV : Key → Val
  | .inl i => .int i
  | .inr x => .str x
def leR (rev : Bool) (a b : Val) : Bool := if rev then leV b a else leV a b
def spV : Sk → MV → Option MV
  | .skeys, (_, .dk kvs) => if srtOk (kvs.map fun p => keyV p.1) = true then some (.l .st, .lst (sortV (kvs.map fun p => keyV p.1))) else none
  | .trev, (m, .lst xs) => if m.hd = .st then some (.st, .tup xs.reverse) else none
  | .stup, (.st, .tup xs) => if srtOk xs = true then some (.l .st, .lst (sortV xs)) else none
  | .srev, (m, .lst xs) => if m.hd = .st ∧ srtOk xs = true then some (.l .st, .lst (xs.mergeSort (leR true))) else none
  | .mind, (_, .lst xs) => match intsOf xs with
    | some [] => some (.st, .non)
    | some (n :: ns) => some (.st, .int (listMin (n :: ns)))
    | none => none
  | _, _ => none
/-- what the walk of a dict gives -/
def wkV : Wk → Val → Option (Mk × List Val)
  | .keys, .dk kvs => some (.st, kvs.map fun p => keyV p.1)
  | .dict, .dk kvs => some (.st, kvs.map fun p => keyV p.1)
  | .vals, .dk kvs => some (.st, kvs.map (·.2))
  | .items, .dk kvs => some (.pr, kvs.map fun p => .tup [keyV p.1, p.2])
  | _, _ => none
section
variable {X : Cx}
def rMinD (K : PySem.W.Frag) : List V → List V → Hp → VK → Prop := fun xs zs H Q => ∃ (a : Addr) (ns : List Int), xs = [.ref a] ∧ zs = [.non] ∧ SqL K H a (ns.map V.int) ∧ (ns = [] → Q .non H) ∧ ∀ n r, ns = n :: r → Q (.int (listMin (n :: r))) H
theorem call_minD (hc : X.calm = true) (hu : X.A.units + 66 < cLine) : CallRK X (.builtin "min") [Str.ofString "default"] (rMinD X.K) := by
  intro pins s σ H xs zs us ws Q I r rz h
  obtain ⟨a, ns, rfl, rfl, hs, q0, q1⟩ := h
  obtain ⟨z, rfl, rb⟩ := vals1 rz
  cases rb
  obtain ⟨its, rv, ht, _⟩ := I.list hs
  rw [Vals.ref1 r]
  obtain ⟨as, hr⟩ := Dp.readsAll I _ _ its (dp_ints ns) rv
  have hd := depth_ints ns
  refine PySem.W.min_list_default (I.ok.hd hc) ht.isList hr (alike_ints ns) (by show _ + PyData.depthAll (ns.map PyData.int) < _; omega) (fun e h' tk hk => ?_) fun y ys i v h' tk bs e hv hr hk => ?_
  · have e : ns = [] := List.map_eq_nil_iff.mp e
    exact ⟨.non, H, I.kept hk, rfl, q0 e⟩
  · cases ns with
    | nil => cases e
    | cons n r =>
      rw [List.map_cons] at e
      cases e
      rw [PySem.W.minD_ints] at hr
      have e : listMin (n :: r) = r.foldl min n := by
        show (n :: r).foldl min n = _
        rw [List.foldl_cons, Int.min_self]
      rw [← e] at hr
      obtain ⟨t, rfl⟩ : ∃ t, v = .int (listMin (n :: r)) t := by cases hr; exact ⟨_, rfl⟩
      exact ⟨.int _, H, I.kept hk, ⟨_, rfl⟩, q1 n r rfl⟩
end
section
variable {K : KK} {S : AS} {H : Hp} {fo : List Addr} {r : MV} {m : Mk} {x : V} {f : List Addr} {Q : VK}
theorem srt_dat {qs : List (V × Val)} (h : srtOk (qs.map (·.2)) = true) (hq : ∀ q ∈ qs, Rep K S H .st q.2 q.1 []) : SrtD K.K H (qs.map fun q => (q.1, q.2.D)) := by
  obtain ⟨h1, h2, h3⟩ := srtOk_inv h
  refine ⟨fun p hp => ?_, fun d hd d' hd' => ?_, ?_, fun p hp => ?_⟩
  · obtain ⟨q, hq', rfl⟩ := List.mem_map.mp hp
    exact (hq q hq').dp (h1 _ (List.mem_map_of_mem hq'))
  · obtain ⟨p, hp, rfl⟩ := List.mem_map.mp hd
    obtain ⟨p', hp', rfl⟩ := List.mem_map.mp hd'
    obtain ⟨q, hq', rfl⟩ := List.mem_map.mp hp
    obtain ⟨q', hq'', rfl⟩ := List.mem_map.mp hp'
    exact h2 _ (List.mem_map_of_mem hq') _ (List.mem_map_of_mem hq'')
  · rcases h3 with h3 | h3
    · refine .inl fun d hd => ?_
      obtain ⟨p, hp, rfl⟩ := List.mem_map.mp hd
      obtain ⟨q, hq', rfl⟩ := List.mem_map.mp hp
      have := h3 _ (List.mem_map_of_mem hq')
      show ∃ x r, q.2.D = _
      cases e : q.2 with
      | tup xs =>
        cases xs with
        | nil => rw [e] at this; cases this
        | cons x xs => simp only [Val.D, Val.Ds]; exact ⟨_, _, rfl⟩
      | _ => rw [e] at this; cases this
    · refine .inr fun d hd => ?_
      obtain ⟨p, hp, rfl⟩ := List.mem_map.mp hd
      obtain ⟨q, hq', rfl⟩ := List.mem_map.mp hp
      have := h3 _ (List.mem_map_of_mem hq')
      show q.2.D ≠ _ ∧ ∀ xs, q.2.D ≠ _
      cases e : q.2 <;> rw [e] at this <;> simp [isNon, isTup, Val.D] at this ⊢
  · obtain ⟨q, hq', rfl⟩ := List.mem_map.mp hp
    exact SeqAt.depth_of_shaped (h1 _ (List.mem_map_of_mem hq'))
theorem sortP_eq {qs : List (V × Val)} {rev : Bool} : sortP rev (qs.map fun q => (q.1, q.2.D)) = (qs.mergeSort fun p q => leR rev p.2 q.2).map (·.1) := by
  unfold sortP
  have : (qs.mergeSort fun p q => leR rev p.2 q.2).map (fun q => (q.1, q.2.D)) = (qs.map fun q => (q.1, q.2.D)).mergeSort (PySem.W.dataLe rev pyOf) := List.map_mergeSort fun a _ b _ => by
    cases rev <;> rfl
  rw [← this, List.map_map]; rfl
theorem sortV_eq {qs : List (V × Val)} {rev : Bool} : (qs.mergeSort fun p q => leR rev p.2 q.2).map (·.2) = (qs.map (·.2)).mergeSort (leR rev) := List.map_mergeSort fun a _ b _ => rfl
theorem leR_false : leR false = leV := by funext a b; rfl
/-- a new list of the sorted things -/
theorem Gives.sorted {qs : List (V × Val)} {rev : Bool} {l : Addr} (g : Gives K S H (.l .st) (.lst ((qs.map (·.2)).mergeSort (leR rev))) Q) (o : Ow K S H fo) (hq : ∀ q ∈ qs, Rep K S H .st q.2 q.1 []) (hl : H l = none) : Q (.ref l) (upd H l (.lst (sortP rev (qs.map fun q => (q.1, q.2.D))))) := by
  rw [sortP_eq]
  rw [← sortV_eq] at g
  exact g.lst o (RS.ofPairs fun q hq' => hq q ((List.mergeSort_perm qs _).mem_iff.mp hq')) hl
theorem qs_fst {qs : List (V × Val)} : (qs.map fun q => (q.1, q.2.D)).map (·.1) = qs.map (·.1) := by simp
/-- keys are there as they are -/
theorem key_rep {k : Key} : Rep K S H .st (keyV k) (kV k) [] := by
  cases k with
  | inl i => exact Rep.int
  | inr x => exact Rep.str
theorem keys_pairs (ks : List Key) : ∃ qs : List (V × Val), qs.map (·.2) = ks.map keyV ∧ qs.map (·.1) = ks.map kV ∧ ∀ q ∈ qs, Rep K S H .st q.2 q.1 [] :=
  ⟨ks.map fun k => (kV k, keyV k), by rw [List.map_map]; rfl, by rw [List.map_map]; rfl, fun q hq => by obtain ⟨k, _, rfl⟩ := List.mem_map.mp hq; exact key_rep⟩
def rSp (K : PySem.W.Frag) : Sk → V → Hp → VK → Prop
  | .skeys => rSortK K
  | .trev => fun v H Q => ∃ (a : Addr) (xs : List V), v = .ref a ∧ SqL K H a xs ∧ ∀ q its, H q = none → Q (.ref q) (upd H q (.frz (tupO its) (.tup xs.reverse)))
  | .srev => fun x H Q => rSortR K [x] [.bl true] H Q
  | .stup => fun x H Q => rSortT K [x] H Q
  | .mind => fun x H Q => rMinD K [x] [.non] H Q
theorem RS.reverse {xs : List Val} {ws : List V} (h : RS K S H .st xs ws []) : RS K S H .st xs.reverse ws.reverse [] := by
  obtain ⟨qs, rfl, rfl, hq⟩ := h.pairs
  rw [← List.map_reverse, ← List.map_reverse]
  exact RS.ofPairs fun q hm => hq q (List.mem_reverse.mp hm)
theorem spV_snd {k : Sk} {u : MV} (h : spV k u = some r) (ra : Rep K S H u.1 u.2 x f) (o : Ow K S H fo) (g : Gives K S H r.1 r.2 Q) : rSp K.K k x H Q := by
  unfold spV at h
  split at h
  · rename_i m0 kvs
    split at h
    · rename_i c; cases h
      obtain ⟨a, ws, mk, g', rfl, hd, rs⟩ := Rep.dk ra
      have hl := rs.length
      obtain ⟨qs, h1, h2, hq⟩ := keys_pairs (K := K) (S := S) (H := H) (kvs.map (·.1))
      rw [List.map_map] at h1
      have h1 : qs.map (·.2) = kvs.map fun p => keyV p.1 := h1
      rw [← h1] at c g
      refine ⟨a, _, qs.map fun q => (q.1, q.2.D), rfl, hd, ?_, srt_dat c hq, fun l hl => ?_⟩
      · rw [qs_fst, h2]
        apply List.ext_getElem?
        intro i
        simp only [List.getElem?_map]
        by_cases hi : i < kvs.length
        · have : i < ws.length := by rw [hl]; simpa using hi
          rw [List.getElem?_eq_getElem hi, List.getElem?_eq_getElem (by rw [List.length_zip]; simp; omega)]
          simp
        · rw [List.getElem?_eq_none (by omega), List.getElem?_eq_none (by rw [List.length_zip]; simp; omega)]; rfl
      · have g' : Gives K S H (.l .st) (.lst ((qs.map (·.2)).mergeSort (leR false))) Q := by rw [leR_false]; exact g
        exact g'.sorted o hq hl
    · cases h
  · split at h
    · rename_i m0 xs c; cases h
      obtain ⟨a1, w1, rfl, q1, s1⟩ := ra.flat c
      exact ⟨a1, w1, rfl, q1, fun q its hp => g.tup o s1.reverse hp⟩
    · cases h
  · split at h
    · rename_i xs c; cases h
      obtain ⟨a1, w1, rfl, q1, s1⟩ := ra.flatT
      obtain ⟨qs, rfl, rfl, hq⟩ := s1.pairs
      refine ⟨a1, qs.map fun q => (q.1, q.2.D), rfl, by rw [qs_fst]; exact q1.sq, srt_dat c hq, fun l hl => ?_⟩
      have g' : Gives K S H (.l .st) (.lst ((qs.map (·.2)).mergeSort (leR false))) Q := by rw [leR_false]; exact g
      exact g'.sorted o hq hl
    · cases h
  · split at h
    · rename_i m0 xs c; cases h
      obtain ⟨a1, w1, rfl, q1, s1⟩ := ra.flat c.1
      obtain ⟨qs, rfl, rfl, hq⟩ := s1.pairs
      exact ⟨a1, qs.map fun q => (q.1, q.2.D), true, rfl, rfl, by rw [qs_fst]; exact q1, srt_dat c.2 hq, fun l hl => g.sorted o hq hl⟩
    · cases h
  · split at h
    · rename_i m0 xs c; cases h
      obtain ⟨a1, w1, g1, rfl, q1, rs, _⟩ := ra.seqL
      have := intsOf_snd c rs
      subst this
      exact ⟨a1, [], rfl, rfl, q1, fun _ => g.st o Rep.non, fun n r e => (by cases e)⟩
    · rename_i m0 xs n ns c; cases h
      obtain ⟨a1, w1, g1, rfl, q1, rs, _⟩ := ra.seqL
      have := intsOf_snd c rs
      subst this
      exact ⟨a1, n :: ns, rfl, rfl, q1, fun e => (by cases e), fun n r e => (by cases e; exact g.int o)⟩
    · cases h
  · cases h
end
end Sh

/-! ShE4: enumerate(tuple), tuple(reversed(list)) known as it is -/
namespace Sh
open PySem PySem.Spec PyProof.Rows L2
open AutoSeq1 (wpAny_loadPart')
theorem meets_enum_newT (l : Addr) (items : Array Value) (n : Nat) (dct : Option Addr) (sl : Array (Option Value)) :
    Meets (Builtin.«enumerate.__new__» ⟨[.type "enumerate", .ref l], []⟩) (fun _ R s => s.heap.get? l = some { cls := .type "tuple", dict := dct, data := .seq items n, slots := sl } ∧
      R (.ok (.ret (.ref (s.heap.push { cls := .type "tuple_iterator", data := .fields #[.ref l, .int 0 0] }).objs.size)))
        { s with heap := (s.heap.push { cls := .type "tuple_iterator", data := .fields #[.ref l, .int 0 0] }).push { cls := .type "enumerate", data := .fields #[.none, .bool false, .ref s.heap.objs.size, rawInt 0, .none, .none] } }) :=
  .of_wp fun prog w A R s h => by
    obtain ⟨hp, g, d, tk, os⟩ := s; obtain ⟨hl, h⟩ := h
    have hsub := sub_enumerate
    have hL : Heap.IsTuple (Shared.heap ⟨hp, g, d, tk, os⟩) l items := ⟨_, hl, rfl, n, rfl⟩
    wp_walk using wpAny_loadPart' hl
    refine wpAny_stack_any fun st => wpAny_pure ?_
    split
    · rename_i c _ _ _ _ _
      cases (c == Value.type "enumerate")
      · wp_walk using wpAny_loadPart' hl, wpAny_pyIter_tuple hL
        exact ⟨_, rfl, h⟩
      · wp_walk using wpAny_loadPart' hl, wpAny_pyIter_tuple hL
        exact ⟨_, rfl, h⟩
    · wp_walk using wpAny_loadPart' hl, wpAny_pyIter_tuple hL
      exact ⟨_, rfl, h⟩
section
variable {prog : Program} {w : World} {A : Around} {E : Value → Shared → Prop} {s : Shared}
theorem call_enum_tuple {l : Addr} {items : Array Value} {Q : Value → Shared → Prop} (hL : s.heap.IsTuple l items)
    (h : ∀ h', IsEnum h' (s.heap.objs.size + 1) s.heap.objs.size 0 .none → h'.IsTupleIter s.heap.objs.size l 0 → h'.objs.size = s.heap.objs.size + 2 →
      (∀ b o, s.heap.get? b = some o → h'.get? b = some o) → Q (.ref (s.heap.objs.size + 1)) { s with heap := h' }) :
    wpAny (model prog w) A (call (.type "enumerate") [.ref l]) Q E s := by
  obtain ⟨⟨c, dct, dt, sl⟩, hl, hc, n, hd⟩ := hL
  replace hc : c = .type "tuple" := hc
  replace hd : dt = .seq items n := hd
  subst hc hd
  refine callType_new F.called_enumerate (by decide) (F.typeCall_enumerate_1 _) (F.newCall_enumerate_1 _) (fun obj => F.args_object_init_2 obj _) F.entry_enumerate_new
    (meets_enum_newT l items n dct sl) ⟨hl, ?_⟩
  have hz : (s.heap.push { cls := .type "tuple_iterator", data := .fields #[.ref l, .int 0 0] }).objs.size = s.heap.objs.size + 1 := Heap.size_push ..
  show _ ∧ _
  rw [hz]
  have he : IsEnum ((s.heap.push { cls := .type "tuple_iterator", data := .fields #[.ref l, .int 0 0] }).push
      { cls := .type "enumerate", data := .fields #[.none, .bool false, .ref s.heap.objs.size, rawInt 0, .none, .none] }) (s.heap.objs.size + 1) s.heap.objs.size 0 .none := by
    have := Heap.get?_push_size (s.heap.push { cls := .type "tuple_iterator", data := .fields #[.ref l, .int 0 0] })
      (o := { cls := .type "enumerate", data := .fields #[.none, .bool false, .ref s.heap.objs.size, rawInt 0, .none, .none] }) rfl
    rw [hz] at this; exact this
  refine ⟨⟨_, he, rfl⟩, h _ he ⟨_, Heap.get?_push_of_some _ (Heap.get?_push_size _ rfl), rfl, rfl⟩ (by rw [Heap.size_push, hz]) fun b o x => Heap.get?_push_of_some _ (Heap.get?_push_of_some _ x)⟩
end
/-- the tuple at a, each item in a new pair -/
def IteT (K : PySem.W.Frag) (a : Addr) : It :=
  ⟨fun i H => ∃ (xs : List V) (x : V), SqT K H a xs ∧ xs[i]? = some x, fun i H v H' => ∃ T x, v = .ref T ∧ H T = none ∧ H' = upd H T (.tup [.int (i : Nat), x]) ∧ ∀ xs, SqT K H a xs → xs[i]? = some x, fun i H => ∃ xs : List V, SqT K H a xs ∧ xs.length ≤ i⟩
theorem turn_enumT {P : Program} {w : World} {K : PySem.W.Frag} {elts : List Expr} {kk : Nat} {tpos : Pos} (a e it : Addr) :
    Turn P w K (.Tuple elts kk tpos) (IteT K a) [e, it] e (fun i h => (∃ old, IsEnum h e it ((i : Nat) : Int) old) ∧ h.IsTupleIter it a i ∧ e ≠ it ∧ a ≠ it ∧ a ≠ e) where
  mem := by simp
  obj := fun i h st b hb => by
    obtain ⟨⟨old, he⟩, ⟨o, ho, hc, hd⟩, _⟩ := st
    have e' : b = e ∨ b = it := by simpa using hb
    rcases e' with z | z
    · rw [z]; exact ⟨_, he, fun v q => nomatch q⟩
    · rw [z]; exact ⟨o, ho, fun v q => by rw [hd] at q; cases q⟩
  keep := fun i h h' st k => let ⟨⟨old, he⟩, hi, hne⟩ := st; ⟨⟨old, k e (by simp) _ he⟩, hi.at fun o q => k it (by simp) o q, hne⟩
  item := by
    intro X hP hw hK hc i pins s σ H E I hf st hg
    subst hP hw hK
    obtain ⟨⟨old, he⟩, hit, hne, hai, hae⟩ := st
    obtain ⟨xs, x, hq, hx⟩ := hg
    obtain ⟨its, rv, p, hz⟩ := I.tuple hq
    obtain ⟨u, hu, ru⟩ := rv.get hx
    have hel : e < s.heap.objs.size := Heap.lt_size he
    have hil : it < s.heap.objs.size := by obtain ⟨_, q, _⟩ := hit; exact Heap.lt_size q
    have hlt : i < its.toArray.size := by
      have := (List.getElem?_eq_some_iff.mp hu).1
      simpa using this
    refine PySem.wpAny_pyNext_enum_itemD (Draws.tuple (prog := X.prog) (w := X.w) (A := X.A.in1) (I.ok.hd hc) it a hai its.toArray) he ⟨hit, p⟩ hlt hne (by simp [hne, Ne.symm hae]) fun x' h' tk hP ho hit' hT hsz hk => ?_
    obtain rfl : u = x' := by
      have hP : its.toArray[i]? = some x' := hP
      have : its[i]? = some x' := by simpa using hP
      rw [hu] at this; exact Option.some.inj this
    refine ⟨_, rfl, wpAny_letOwnedTupleGo_enum (s := { s with heap := h', toks := tk + 1 }) ho fun h'' he' sb => ?_⟩
    have hT2 : h''.get? s.heap.objs.size = some { cls := .type "tuple", data := .seq #[.int i tk, u] } := (sb.2 _ (Nat.ne_of_gt hel)).trans hT
    have new : ObjOk X.prog X.w (upd H s.heap.objs.size (.tup [.int (i : Nat), x])) h'' s.heap.objs.size (.tup [.int (i : Nat), x]) :=
      ⟨by show 2 ≤ sizeLine; decide, [.int i tk, u], .cons ⟨_, rfl⟩ (.cons ru .nil), ⟨_, hT2, rfl, _, rfl⟩⟩
    have I1 : Inv X pins σ (upd H s.heap.objs.size (.tup [.int (i : Nat), x])) { s with heap := h'', toks := tk + 1 } :=
      I.turnedNew (ch := [e, it]) (fun b ob hb q => (sb.2 b (fun z => hb (by simp [z]))).trans (hk b ob (fun z => hb (by simp [z])) (fun z => hb (by simp [z])) q)) hf (Nat.le_refl _) new
    refine ⟨.ref s.heap.objs.size, _, I1, rfl, ⟨_, x, rfl, I.hok.fresh (Nat.le_refl _), rfl, fun ys hy => by rw [I.tuple_inj hy hq]; exact hx⟩, ⟨⟨u, ?_⟩, hit'.1.at fun o q => (sb.2 it (Ne.symm hne)).trans q, hne, hai, hae⟩, fun b hb => ?_⟩
    · have e1 : ((i + 1 : Nat) : Int) = (i : Int) + 1 := by omega
      rw [e1]; exact he'
    · have hb' : b < s.heap.objs.size := by
        have e' : b = e ∨ b = it := by simpa using hb
        rcases e' with z | z
        · rw [z]; exact hel
        · rw [z]; exact hil
      rw [upd_ne (Nat.ne_of_lt hb')]
      exact (hf b hb).1
  done := by
    intro X hP hw hK hc i pins s σ H E I hf st hg
    subst hP hw hK
    obtain ⟨⟨old, he⟩, hit, hne, hai, hae⟩ := st
    obtain ⟨xs, hq, hx⟩ := hg
    obtain ⟨its, rv, p, hz⟩ := I.tuple hq
    obtain ⟨f0, f1, f2, f3, f4, f5⟩ := hf it (by simp)
    have hl := rv.length
    have hT : s.TypeIs (.ref e) "enumerate" := ⟨_, he, rfl⟩
    unfold pyNext
    refine wpAny_bind (wpAny_attempt (wpAny_callSpecial?_slot (name := Str.ofString "__next__") hT F.slot_enumerate_next
      (wpAny_call_entry F.slot_enumerate_next hT F.entry_enumerate_next ?_ (F.args_enumerate_next_1 _))))
    show wpAny _ _ (field (.ref e) 2 >>= _) _ _ _
    refine wpAny_bind (wpAny_field he rfl (x := .ref it) rfl ?_)
    have hh : X.A.in1.handled = none := I.ok.hd hc
    refine wpAny_bind (wpAny_nextOf_tuple_end hh hit p (by simp; omega) fun h' x he' hx' => ?_)
    obtain ⟨o, ho, hcl⟩ := hx'
    refine wpAny_bind (wpAny_isInstance (T := "StopIteration") (b := true) ⟨o, ho, hcl⟩ isSubtype_stop ?_)
    exact wpAny_pure ⟨rfl, I.turned (t' := s.toks) (fun b o hb q => he' b o hb q) f0 f1 f3 f4 f5⟩
  self := fun A i s Q E st h => let ⟨⟨_, he⟩, _⟩ := st; wpAny_pyIter_enum he h
def iEnumA (K : PySem.W.Frag) (ta : TA) : TI := fun σ H R => ta σ H fun vs H1 => ∃ a xs, vs = [.ref a] ∧ ((SqL K H1 a xs ∧ R (Ite K a) H1) ∨ (SqT K H1 a xs ∧ R (IteT K a) H1))
theorem pi_enumA {X : Cx} {e : Expr} {ta : TA} {p pos tpos : Pos} {elts : List Expr} {kk : Nat} (hg : Gl X "enumerate") (hm : X.mg "enumerate" = none) (ha : L2.PA X [e] ta) (hs : starEach [e] X.env = [(false, eval e X.env)] := by rfl) :
    PI X (.Tuple elts kk tpos) (.Call (.Name "enumerate" p) [e] [] pos) (iEnumA X.K ta) := by
  refine ⟨fun pins s σ H R I h => ?_⟩
  refine Call_ (ld_blt I hg hm boot_enumerate (PyProof.Rows.callWith_type1 (thn (ha.run pos pins s σ H _ I h) fun us s1 ⟨vs, H1, I1, r1, q1⟩ => ?_) hs rfl))
  obtain ⟨a, xs, ex, q⟩ := q1
  subst ex
  cases r1 with
  | cons r rr =>
    cases rr
    cases r
    rcases q with ⟨hq, q⟩ | ⟨hq, q⟩
    · obtain ⟨its, rv, p', hz⟩ := I1.list hq
      refine call_enumerate_list p'.isList fun h' he hit hsz hk => wpAny_pyIter_enum he ?_
      have I2 : Inv X pins σ H1 { s1 with heap := h' } := I1.kept (t' := s1.toks) hk
      refine ⟨s1.heap.objs.size + 1, [s1.heap.objs.size + 1, s1.heap.objs.size], _, _, H1, rfl, I2, turn_enum a (s1.heap.objs.size + 1) s1.heap.objs.size, ⟨⟨.none, he⟩, hit, Nat.succ_ne_self _⟩, fun b hb => ?_, q⟩
      have e' : b = s1.heap.objs.size + 1 ∨ b = s1.heap.objs.size := by simpa using hb
      have hle : s1.heap.objs.size ≤ b := by
        rcases e' with z | z
        · rw [z]; exact Nat.le_add_right _ _
        · rw [z]; exact Nat.le_refl _
      exact I1.fpOk hle (I1.hok.fresh hle)
    · obtain ⟨its, rv, p', hz⟩ := I1.tuple hq
      have hal : a < s1.heap.objs.size := by obtain ⟨o, e, _⟩ := p'; exact Heap.lt_size e
      refine call_enum_tuple p' fun h' he hit hsz hk => wpAny_pyIter_enum he ?_
      have I2 : Inv X pins σ H1 { s1 with heap := h' } := I1.kept (t' := s1.toks) hk
      refine ⟨s1.heap.objs.size + 1, [s1.heap.objs.size + 1, s1.heap.objs.size], _, _, H1, rfl, I2, turn_enumT a (s1.heap.objs.size + 1) s1.heap.objs.size, ⟨⟨.none, he⟩, hit, Nat.succ_ne_self _, Nat.ne_of_lt hal, Nat.ne_of_lt (Nat.lt_succ_of_lt hal)⟩, fun b hb => ?_, q⟩
      have e' : b = s1.heap.objs.size + 1 ∨ b = s1.heap.objs.size := by simpa using hb
      have hle : s1.heap.objs.size ≤ b := by
        rcases e' with z | z
        · rw [z]; exact Nat.le_add_right _ _
        · rw [z]; exact Nat.le_refl _
      exact I1.fpOk hle (I1.hok.fresh hle)
/-- tuple(reversed(a list)) -/
theorem pe_tupRevF {X : Cx} {e : Expr} {te : TE} {p p2 pos pos2 : Pos} (hc : X.calm = true) (hg : Gl X "tuple") (hm : X.mg "tuple" = none) (hg2 : Gl X "reversed") (hm2 : X.mg "reversed" = none) (he : PE X e te)
    (hs : starEach [e] X.env = (false, eval e X.env) :: starEach [] X.env)
    (hs2 : starEach [.Call (.Name "reversed" p2) [e] [] pos2] X.env = (false, eval (.Call (.Name "reversed" p2) [e] [] pos2) X.env) :: starEach [] X.env := by rfl) :
    PE X (.Call (.Name "tuple" p) [.Call (.Name "reversed" p2) [e] [] pos2] [] pos) (tR1 (rSp X.K .trev) te) := by
  refine ⟨fun pins s σ H Q I h => ?_⟩
  refine Call_ (ld_blt I hg hm boot_tuple (PyProof.Rows.callWith_type1 (args_cons (Call_ (ld_blt I hg2 hm2 PyProof.Rows.boot_reversed (PyProof.Rows.callWith_type1 (args_cons (thn (he.run pins s σ H _ I h) fun u s1 ⟨v, H1, I1, r1, q1⟩ => args_nil ?_) hs) hs rfl))) hs2) hs2 rfl))
  obtain ⟨a, xs, ev, hq, q⟩ := q1
  subst ev
  obtain rfl : u = Value.ref a := r1
  obtain ⟨its, rv, p', hz⟩ := I1.list hq
  refine call_reversed_list p'.isList (args_nil ?_)
  have k0 : ∀ b o, s1.heap.get? b = some o → (s1.heap.push (revObj a ((its.toArray.size : Int) - 1))).get? b = some o := fun b o e => Heap.get?_push_of_some _ e
  have I2 : Inv X pins σ H1 { s1 with heap := s1.heap.push (revObj a ((its.toArray.size : Int) - 1)) } := I1.kept (t' := s1.toks) k0
  obtain ⟨f0, f1, f2, f3, f4, f5⟩ := I1.fpOk (H' := H1) (b := s1.heap.objs.size) (Nat.le_refl _) (I1.hok.fresh (Nat.le_refl _))
  have hl := p'.isList
  obtain ⟨ol, hol, _⟩ := id hl
  have hne : a ≠ s1.heap.objs.size := Nat.ne_of_lt (Heap.lt_size hol)
  have hn : its.toArray.size ≤ sizeLine := by rw [List.size_toArray, ← rv.length]; exact hz
  refine RT.call_tuple_rev (s := { s1 with heap := s1.heap.push (revObj a ((its.toArray.size : Int) - 1)) }) (I1.ok.hd hc) ⟨_, Heap.get?_push_size _ rfl, rfl, rfl⟩ (hl.push _) hne hn fun h' tk acc hk hi => ?_
  have I3 : Inv X pins σ H1 { s1 with heap := h', toks := tk } := I2.turned (t' := tk) (fun b o hb e => hk b o hb e) f0 f1 f3 f4 f5
  have := tup_laid (xs := xs.reverse) (its := acc.toList) I3 (by rw [List.length_reverse]; exact hz) (RT.vals_rev rv hi)
  rw [Array.toArray_toList] at this
  exact ⟨.ref h'.objs.size, _, this, rfl, q _ _ (I3.hok.fresh (Nat.le_refl _))⟩
end Sh

/-! ShF: the small language and what it does -/
namespace Sh
open PySem PySem.Spec PyProof.Rows L2

/-- how an argument is handed over: it stays as it is from then on; it is lent; it is changed and comes back; it goes -/
inductive Md where
  | frz | bor | ino | mov
  deriving DecidableEq
/-- targets -/
inductive T where
  | nm (i : Nat) | tp (ts : T) | nil | cons (t ts : T)
inductive Ty where
  | bool | int | str | tuple | list
  deriving DecidableEq
/-- methods -/
inductive Mt where
  | append | pop | reverse | clear | insert | extend | index
  deriving DecidableEq
/-- methods that change nothing -/
inductive PM where
  | tindex | lindex | dget | sjoin
  deriving DecidableEq
inductive E where
  | var (i : Nat)
  | int (i : Int) | bl (b : Bool) | non | str (x : Str)
  | bin (op : BOp) (a b : E) | neg (a : E)
  | cmp (op : COp) (a b : E) | chn (op op' : COp) (a b c : E)
  | and (a b : E) | or (a b : E) | one (a : E) | not (a : E) | ite (c a b : E)
  | tup (es : E) | lst (m : Mk) (es : E) | nil | cons (e es : E)
  | dnk (m : Mk) | dnt (m : Mk)
  | idx (a i : E) | slc (a lo hi : E) | nop
  | blt (b : Blt) (es : E)
  | isi (a : E) (t : Ty)
  | call (f : Nat) (md : List Md) (es : E)
  | meth (m : Mt) (r : E) (es : E)
  | pm (p : PM) (r : E) (es : E)
  | lrg1 (l : Bool) (a : E) | lrg2 (l : Bool) (a b : E)
  | comp (m : Mk) (own : List Nat) (t : T) (it c elt : E)
  | kcomp (m : Mk) (own : List Nat) (t : T) (a c elt : E)
  /-- any, all (al) of a generator expression -/
  | anyg (al : Bool) (own : List Nat) (t : T) (it elt : E)
  | sp (k : Sk) (a : E)
  | con (x : Str) (v : Val)
  | fz (i : Nat)
  -- what a loop walks
  | rng (es : E) | enum (a : E) | zip (a b : E) | rev (a : E) | wk (k : Wk) (a : E)
inductive C where
  | nil | seq (a b : C)
  | asg (t : T) (e : E) | sto (a i e : E) | aug (i : Nat) (op : BOp) (e : E) | augS (a i : E) (op : BOp) (e : E)
  | expr (e : E) | ret (e : E) | retN | rse (x : Str) | tryc (i f n : Nat) (es : E) (j : Nat) (ys xs : List Str) | iff (c : E) (a b : C) | forr (t : T) (it : E) (b : C) | whil (c : E) (b : C) | brk | cnt | pass

/-! ### answers -/
abbrev Exc := Str
inductive Res (α : Type) where
  | ok (a : α) (e : En) | exc (x : Exc) (e : En) | bad
abbrev M (α : Type) := En → Res α
def Res.bind {α β : Type} (r : Res α) (f : α → En → Res β) : Res β := match r with
  | .ok a e => f a e | .exc x e => .exc x e | .bad => .bad
/-- what an expression hands on: a value; what a slot holds (ours); a part of it (low: the slot's mark where the part stays from then on) -/
inductive Arg where
  | tmp (m : Mk) (v : Val) | slot (i : Nat) | part (i : Nat) (low : Mk) (m : Mk) (v : Val)
inductive Out where
  | ret (m : Mk) (v : Val) (fe : En) | exc (x : Exc) (fe : En) | bad
/-- a def's arguments: changed and handed back; its value -/
structure DA where
  pin : Bool
  m : Mk
  v : Val
abbrev Calls := Nat → List DA → Out
inductive Fl where
  | nx | bk | ct | rt (m : Mk) (v : Val) | xc (x : Exc)

/-! ### arguments read and taken -/
/-- a slot of ours, or a value -/
def argOf (i : Nat) : Slot → Option Arg
  | .val _ .st v => some (.tmp .st v)
  | .val _ _ _ => some (.slot i)
  | .emp => none
/-- to be read now -/
def readA (e : En) : Arg → Option MV
  | .tmp m v => some (m, v)
  | .slot i => match e[i]? with
    | some (.val _ m v) => some (m, v)
    | _ => none
  | .part _ _ m v => some (m, v)
def readAs (e : En) : List Arg → Option (List MV)
  | [] => some []
  | a :: as => match readA e a, readAs e as with
    | some v, some vs => some (v :: vs)
    | _, _ => none
/-- it stays as it is from now on -/
def frzA : Arg → M Val
  | .tmp _ v, e => .ok v e
  | .slot i, e => match e[i]? with
    | some (.val p _ v) => .ok v (e.set i (.val p .st v))
    | _ => .bad
  | .part i low _ v, e => match e[i]? with
    | some (.val p m w) => if low = .st ∨ (low = .l .st ∧ m.isL = true) then .ok v (e.set i (.val p low w)) else .bad
    | _ => .bad
/-- to be kept elsewhere -/
def takeA : Arg → M MV
  | .tmp m v, e => .ok (m, v) e
  | .slot i, e => match e[i]? with
    | some (.val false m v) => .ok (m, v) (e.set i .emp)
    | _ => .bad
  | .part i low m v, e => (frzA (.part i low m v) e).bind fun v e => .ok (.st, v) e
def isPart : Arg → Bool
  | .part _ _ _ _ => true
  | _ => false
def isTmp : Arg → Bool
  | .tmp _ _ => true
  | _ => false
/-- fl: no slot was touched so far -/
def takeAs (fl : Bool) : List Arg → M (List MV)
  | [], e => .ok [] e
  | a :: as, e => if isPart a && !fl then .bad else (takeA a e).bind fun v e => (takeAs (fl && isTmp a) as e).bind fun vs e => .ok (v :: vs) e
/-- the marks of a tuple's items together -/
def tupMk (vs : List MV) : Mk := if vs.all (fun v => v.1 = .st) then .st else mkc vs
/-- a value goes into a list of mark l m: as it is, or it stays from now on -/
def fit (m : Mk) (v : MV) : Option Val := if v.1 = m ∨ m = .st then some v.2 else none
def fits (m : Mk) : List MV → Option (List Val)
  | [] => some []
  | v :: vs => match fit m v, fits m vs with
    | some x, some xs => some (x :: xs)
    | _, _ => none
/-- nothing there hangs on a list that is not ours -/
def noL : Val → Bool
  | .tup xs => noLs xs
  | .lst _ => false | .dk _ => false | .dt _ => false
  | _ => true
where noLs : List Val → Bool
  | [] => true
  | x :: xs => noL x && noLs xs

/-! ### calls of defs -/
/-- an argument as it is handed over; what is put back behind the call: for a lent one its slot as it was, for a changed one its slot's pin -/
inductive Bk where
  | no | lent (i : Nat) (s : Slot) | chg (i : Nat) (p : Bool)
/-- nothing there that a walk may freeze -/
def lendOk : Mk → Val → Bool
  | .l m, .lst xs => decide (m = .st) || xs.all (lendOk m)
  | .st, _ => true
  | _, _ => false
def pass1 : Md → Arg → M (DA × Bk)
  | .frz, a, e => (frzA a e).bind fun v e => .ok (⟨false, .st, v⟩, .no) e
  | .bor, .slot i, e => match e[i]? with
    | some (.val p m v) => if lendOk m v then .ok (⟨false, .st, v⟩, .lent i (.val p m v)) (e.set i .emp) else .bad
    | _ => .bad
  | .bor, .part i _ _ v, e => match e[i]? with
    | some (.val p m w) => if lendOk m w then .ok (⟨false, .st, v⟩, .lent i (.val p m w)) (e.set i .emp) else .bad
    | _ => .bad
  | .bor, a, e => (frzA a e).bind fun v e => .ok (⟨false, .st, v⟩, .no) e
  | .ino, .slot i, e => match e[i]? with
    | some (.val p m v) => .ok (⟨true, m, v⟩, .chg i p) (e.set i .emp)
    | _ => .bad
  | .ino, _, _ => .bad
  | .mov, a, e => (takeA a e).bind fun v e => .ok (⟨false, v.1, v.2⟩, .no) e
def passN (fl : Bool) : List Md → List Arg → M (List (DA × Bk))
  | [], [], e => .ok [] e
  | m :: ms, a :: as, e => if isPart a && !fl then .bad else (pass1 m a e).bind fun p e => (passN (fl && isTmp a) ms as e).bind fun ps e => .ok (p :: ps) e
  | _, _, _ => .bad
/-- behind the call; fe: the def's own slots at its end, its arguments first -/
def putBack : List Bk → En → En → Option En
  | [], _, e => some e
  | .no :: bs, fe, e => putBack bs fe.tail e
  | .lent i s :: bs, fe, e => (putBack bs fe.tail e).map fun e => e.set i s
  | .chg i p :: bs, fe, e => match fe.head? with
    | some (.val _ m v) => (putBack bs fe.tail e).map fun e => e.set i (.val p m v)
    | _ => none
/-- with what was lent: nothing that came back hangs on it -/
def pureAt : Mk → Val → Bool
  | .st, v => noL v
  | .l m, .lst xs => xs.all (pureAt m)
  | .l m, .dk kvs => kvs.all fun p => pureAt m p.2
  | .l m, .dt kvs => kvs.all fun p => pureAt m p.2
  | _, v => noL v
def anyLent (bs : List Bk) : Bool := bs.any fun b => match b with | .lent _ _ => true | _ => false
def chgPure : List Bk → En → Bool
  | [], _ => true
  | .chg _ _ :: bs, fe => (match fe.head? with
    | some (.val _ m v) => pureAt m v
    | _ => false) && chgPure bs fe.tail
  | _ :: bs, fe => chgPure bs fe.tail
def callF (c : Calls) (f : Nat) (md : List Md) (as : List Arg) : M Arg := fun e =>
  (passN true md as e).bind fun ps e => match c f (ps.map (·.1)) with
    | .ret m v fe => if !anyLent (ps.map (·.2)) || (pureAt m v && chgPure (ps.map (·.2)) fe) then
        match putBack (ps.map (·.2)) fe e with
        | some e => .ok (.tmp m v) e
        | none => .bad
      else .bad
    | _ => .bad

/-! ### targets, loops -/
def itemMV (m : Mk) (j : Nat) (v : Val) : MV := (m.at j, v)
mutual
def asgT : T → MV → En → Option En
  | .nm i, v, e => if v.1 = .pr then none else match e[i]? with
    | some (.val true _ _) => none
    | some _ => some (e.set i (.val false v.1 v.2))
    | none => none
  | .tp ts, v, e => match v.2 with
    | .tup xs => if v.1.isL then none else asgTs ts v.1 xs e
    | _ => none
  | .nil, _, _ => none
  | .cons _ _, _, _ => none
def asgTs : T → Mk → List Val → En → Option En
  | .nil, _, [], e => some e
  | .cons t ts, m, x :: xs, e => match asgT t (m.hd, x) e with
    | some e => asgTs ts m.tl xs e
    | none => none
  | _, _, _, _ => none
end
def setEmp (e : En) : List Nat → En
  | [] => e
  | i :: is => setEmp (e.set i .emp) is
/-- a loop over items -/
def forL (t : T) (m : Mk) (b : En → Res Fl) : List Val → En → Res Fl
  | [], e => .ok .nx e
  | x :: xs, e => match asgT t (m, x) e with
    | none => .bad
    | some e => (b e).bind fun f e => match f with
      | .nx => forL t m b xs e
      | .ct => forL t m b xs e
      | .bk => .ok .nx e
      | .rt m v => .ok (.rt m v) e
      | .xc x => .ok (.xc x) e
def whilF (c : En → Res Bool) (b : En → Res Fl) : Nat → En → Res Fl
  | 0, _ => .bad
  | n + 1, e => (c e).bind fun k e => if k then (b e).bind fun f e => match f with
      | .nx => whilF c b n e
      | .ct => whilF c b n e
      | .bk => .ok .nx e
      | .rt m v => .ok (.rt m v) e
      | .xc x => .ok (.xc x) e
    else .ok .nx e
/-- a comprehension over items -/
def compL (own : List Nat) (t : T) (m : Mk) (b : En → Res (Option Val)) : List Val → List Val → En → Res (List Val)
  | [], acc, e => .ok acc e
  | x :: xs, acc, e => match asgT t (m, x) (setEmp e own) with
    | none => .bad
    | some e => (b e).bind fun v e => match v with
      | none => compL own t m b xs acc e
      | some v => if acc.length < sizeLine then compL own t m b xs (acc ++ [v]) e else .bad
/-- any, all over items -/
def anyL (al : Bool) (own : List Nat) (t : T) (m : Mk) (b : En → Res Bool) : List Val → En → Res Bool
  | [], e => .ok al e
  | x :: xs, e => match asgT t (m, x) (setEmp e own) with
    | none => .bad
    | some e => (b e).bind fun k e => if k = al then anyL al own t m b xs e else .ok (!al) e
/-- the slots at is as they were in e0 -/
def backS (e0 : En) : List Nat → En → En
  | [], e => e
  | i :: is, e => backS e0 is (match e0[i]? with | some s => e.set i s | none => e)
def ownOk (e : En) (own : List Nat) : Bool := decide own.Nodup && own.all fun i => match e[i]? with
  | some (.val true _ _) => false
  | some _ => true
  | none => false
/-- what a loop walks: the items and their mark -/
def itemsOf : Val → Option (List Val)
  | .lst xs => some xs
  | .tup xs => some xs
  | .str x => some (x.cps.toList.map fun c => .str ⟨#[c]⟩)
  | _ => none
def rangeL (lo hi : Int) : List Val := (List.range (hi - lo).toNat).map fun k : Nat => .int (lo + (k : Int))
def rangeC (lo c : Int) (n : Nat) : List Val := (List.range n).map fun k : Nat => .int (lo + (k : Int) * c)
def sm62 (i : Int) : Bool := decide (-(2 ^ 62) ≤ i ∧ i < 2 ^ 62)
def rngV : List MV → Option (List Val)
  | [(_, .int n)] => if sm62 n then some (rangeL 0 n) else none
  | [(_, .int a), (_, .int b)] => if sm62 a && sm62 b then some (rangeL a b) else none
  | [(_, .int a), (_, .int b), (_, .int (-1))] => if sm62 a && sm62 b then some (rangeC a (-1) (a - b).toNat) else none
  | _ => none
def enumL (xs : List Val) : List Val := xs.zipIdx.map fun p => .tup [.int (p.2 : Int), p.1]
def zipL (xs ys : List Val) : List Val := (xs.zip ys).map fun p => .tup [p.1, p.2]
def Ty.ok : Ty → Val → Bool
  | .bool, .bl _ => true
  | .int, .int _ => true | .int, .bl _ => true
  | .str, .str _ => true
  | .tuple, .tup _ => true
  | .list, .lst _ => true
  | _, _ => false
def Ty.nm : Ty → String
  | .bool => "bool" | .int => "int" | .str => "str" | .tuple => "tuple" | .list => "list"

/-! ### methods -/
/-- a list's place of an equal thing -/
def indexV (x : Val) (ys : List Val) : Option Int := if okV x && okV (.lst ys) then (ys.findIdx? fun z => PyData.eqv z.D x.D).map fun (n : Nat) => (n : Int) else none
/-- a method of a list of ours: the list behind it, its value -/
def mutV (m : Mk) (xs : List Val) : Mt → List MV → Option (List Val × MV)
  | .append, [v] => if xs.length < sizeLine then (fit m v).map fun y => (xs ++ [y], (.st, .non)) else none
  | .pop, [] => match xs[xs.length - 1]? with
    | some y => some (xs.dropLast, (m, y))
    | none => none
  | .reverse, [] => some (xs.reverse, (.st, .non))
  | .clear, [] => some ([], (.st, .non))
  | .insert, [(_, .int i), v] => if xs.length < sizeLine ∧ 0 ≤ i ∧ i < 2 ^ 63 then (fit m v).map fun y => (xs.take i.toNat ++ [y] ++ xs.drop i.toNat, (.st, .non)) else none
  | .extend, [(.l m', .lst ys)] => if m = .st ∧ m' = .st ∧ xs.length + ys.length ≤ sizeLine then some (xs ++ ys, (.st, .non)) else none
  | _, _ => none

/-- a tuple's place of an equal thing -/
def tindexV (x : Val) (ys : List Val) : Option Int := if okV x && okV (.tup ys) then (ys.findIdx? fun z => PyData.eqv z.D x.D).map fun (n : Nat) => (n : Int) else none
/-- may the method be asked of it; kt: no, where a tuple may be a dict's key -/
def pmTy (kt : Bool) : PM → Val → Bool
  | .tindex, .tup _ => !kt
  | .lindex, .lst _ => true
  | .dget, .dk _ => true
  | .sjoin, .str _ => true
  | _, _ => false
def strsOf : List Val → Option (List Str)
  | [] => some []
  | .str x :: xs => (strsOf xs).map (x :: ·)
  | _ => none
def joinV (a : Str) (xs : List Val) : Option MV := (strsOf xs).bind fun ys => if (ys.map (·.length)).sum + ys.length * a.length ≤ 16777216 then some (.st, .str (Txt.join a ys)) else none
def pmV : PM → MV → List MV → Option MV
  | .tindex, (_, .tup xs), [v] => (tindexV v.2 xs).map fun k => (.st, .int k)
  | .lindex, (_, .lst xs), [v] => (indexV v.2 xs).map fun k => (.st, .int k)
  | .dget, (m, .dk kvs), [k] => if m.hd = .st then (keyOf k.2).map fun k => (.st, (dget kvs k).getD .non) else none
  | .sjoin, (_, .str a), [(_, .lst xs)] => joinV a xs
  | .sjoin, (_, .str a), [(_, .tup xs)] => joinV a xs
  | .dget, (m, .dk kvs), [k, d] => if m.hd = .st ∧ d.1 = .st then (keyOf k.2).map fun k => (.st, (dget kvs k).getD d.2) else none
  | _, _, _ => none

/-! ### expressions -/
/-- it changes nothing -/
def quiet : E → Bool
  | .var _ | .int _ | .bl _ | .non | .str _ | .nil | .nop => true
  | .bin _ a b => quiet a && quiet b
  | .neg a => quiet a
  | .cmp _ a b => quiet a && quiet b
  | .chn _ _ a b c => quiet a && quiet b && quiet c
  | .and a b => quiet a && quiet b
  | .or a b => quiet a && quiet b
  | .one a => quiet a
  | .not a => quiet a
  | .ite c a b => quiet c && quiet a && quiet b
  | .cons a b => quiet a && quiet b
  | .idx a b => quiet a && quiet b
  | .slc a b c => quiet a && quiet b && quiet c
  | .blt _ es => quiet es
  | .isi a _ => quiet a
  | .pm _ a b => quiet a && quiet b
  | .lrg1 _ a => quiet a
  | .lrg2 _ a b => quiet a && quiet b
  | .sp _ a => quiet a
  | .con _ _ => true
  | _ => false
/-- a list of ours in the slot -/
def isLS (e : En) (i : Nat) : Bool := match e[i]? with
  | some (.val _ (.l _) (.lst _)) => true
  | _ => false
def optR {α : Type} (o : Option α) (e : En) : Res α := match o with
  | some a => .ok a e
  | none => .bad
def valR (o : Option MV) (e : En) : Res Arg := match o with
  | some a => .ok (.tmp a.1 a.2) e
  | none => .bad
/-- an index finds: a part of a slot is a part, unless nothing of it is ours -/
def idxA (kt : Bool) (e : En) (a : Arg) (v : Val) : Res Arg := match readA e a with
  | none => .bad
  | some mv => match idxV kt mv v with
    | none => .bad
    | some (m, w) => match a with
      | .tmp _ _ => .ok (.tmp m w) e
      | .slot i => if m = .st then .ok (.tmp .st w) e else .ok (.part i (if mv.1.isL then .l .st else .st) m w) e
      | .part i _ _ _ => if m = .st then .ok (.tmp .st w) e else .ok (.part i .st m w) e
def asB (a : Arg) (e : En) : Res Bool := match a with
  | .tmp _ (.bl k) => .ok k e
  | _ => .bad
/-- the items of what a loop walks stay as they are -/
def walkA (a : Arg) (e : En) : Res (Mk × List Val) := (frzA a e).bind fun v e => match itemsOf v with
  | some xs => .ok (.st, xs) e
  | none => .bad
def rgOk (a b : Int) : Bool := decide (-(2 ^ 62) ≤ a ∧ a < 2 ^ 62 ∧ -(2 ^ 62) ≤ b ∧ b < 2 ^ 62 ∧ (b - a).toNat ≤ 2 ^ 24)
def rgT (l : Bool) (a b : Int) : Arg := if l then .tmp (.l .st) (.lst (rangeL a b)) else .tmp .st (.tup (rangeL a b))
mutual
def ev (kt : Bool) (c : Calls) : E → En → Res Arg
  | .var i, e => match e[i]? with
    | some s => optR (argOf i s) e
    | none => .bad
  | .int i, e => .ok (.tmp .st (.int i)) e
  | .bl b, e => .ok (.tmp .st (.bl b)) e
  | .non, e => .ok (.tmp .st .non) e
  | .str x, e => .ok (.tmp .st (.str x)) e
  | .bin op a b, e => (ev kt c a e).bind fun x e => if isPart x && !quiet b then .bad else (ev kt c b e).bind fun y e => match readA e x, readA e y with
    | some u, some v => valR (binV op u v) e
    | _, _ => .bad
  | .neg a, e => (ev kt c a e).bind fun x e => match x with
    | .tmp _ (.int i) => .ok (.tmp .st (.int (-i))) e
    | _ => .bad
  | .cmp op a b, e => (ev kt c a e).bind fun x e => if isPart x && !quiet b then .bad else (ev kt c b e).bind fun y e => match readA e x, readA e y with
    | some u, some v => optR ((cmpV kt op u.2 v.2).map fun k => .tmp .st (.bl k)) e
    | _, _ => .bad
  | .chn op op' a b d, e => (ev kt c a e).bind fun x e => (ev kt c b e).bind fun y e => match x, y with
    | .tmp _ u, .tmp m v => match cmpV kt op u v with
      | some true => (ev kt c d e).bind fun z e => match z with
        | .tmp _ w => optR ((cmpV kt op' v w).map fun k => .tmp .st (.bl k)) e
        | _ => .bad
      | some false => .ok (.tmp .st (.bl false)) e
      | none => .bad
    | _, _ => .bad
  | .and a b, e => (ev kt c a e).bind fun x e => (asB x e).bind fun k e => if k then ev kt c b e else .ok (.tmp .st (.bl false)) e
  | .or a b, e => (ev kt c a e).bind fun x e => (asB x e).bind fun k e => if k then .ok (.tmp .st (.bl true)) e else ev kt c b e
  | .one a, e => ev kt c a e
  | .not a, e => (ev kt c a e).bind fun x e => (asB x e).bind fun k e => .ok (.tmp .st (.bl (!k))) e
  | .ite t a b, e => (ev kt c t e).bind fun x e => (asB x e).bind fun k e => if k then ev kt c a e else ev kt c b e
  | .tup es, e => (evs kt c es e).bind fun as e => (takeAs true as e).bind fun vs e => if vs.length ≤ sizeLine then .ok (.tmp (tupMk vs) (.tup (vs.map (·.2)))) e else .bad
  | .lst m es, e => (evs kt c es e).bind fun as e => (takeAs true as e).bind fun vs e => match fits m vs with
    | some xs => if xs.length ≤ sizeLine then .ok (.tmp (.l m) (.lst xs)) e else .bad
    | none => .bad
  | .dnk m, e => .ok (.tmp (.l m) (.dk [])) e
  | .dnt m, e => .ok (.tmp (.l m) (.dt [])) e
  | .idx a i, e => (ev kt c a e).bind fun x e => if isPart x && !quiet i then .bad else (ev kt c i e).bind fun y e => match readA e y with
    | some v => idxA kt e x v.2
    | none => .bad
  | .slc a lo hi, e => (ev kt c a e).bind fun x e => if isPart x && !(quiet lo && quiet hi) then .bad else (evO kt c lo e).bind fun l e => (evO kt c hi e).bind fun h e => match readA e x with
    | some u => valR (slcV u l h) e
    | none => .bad
  | .blt b es, e => (evs kt c es e).bind fun as e => match readAs e as with
    | some vs => valR (bltV b vs) e
    | none => .bad
  | .isi a t, e => (ev kt c a e).bind fun x e => match readA e x with
    | some u => .ok (.tmp .st (.bl (t.ok u.2))) e
    | none => .bad
  | .sp k a, e => (ev kt c a e).bind fun x e => match readA e x with
    | some u => valR (spV k u) e
    | none => .bad
  | .con _ v, e => .ok (.tmp .st v) e
  -- it stays as it is from now on
  | .fz i, e => (match e[i]? with
    | some s => optR (argOf i s) e
    | none => .bad).bind fun x e => (frzA x e).bind fun v e => .ok (.tmp .st v) e
  | .lrg1 l a, e => (ev kt c a e).bind fun x e => match x with
    | .tmp _ (.int n) => if rgOk 0 n then .ok (rgT l 0 n) e else .bad
    | _ => .bad
  | .lrg2 l a b, e => (ev kt c a e).bind fun x e => (ev kt c b e).bind fun y e => match x, y with
    | .tmp _ (.int i), .tmp _ (.int j) => if rgOk i j then .ok (rgT l i j) e else .bad
    | _, _ => .bad
  | .call f md es, e => (evs kt c es e).bind fun as e => callF c f md as e
  | .meth .index r es, e => (ev kt c r e).bind fun x e => if !quiet es then .bad else (evs kt c es e).bind fun as e => match readA e x, readAs e as with
    | some (_, .lst xs), some [v] => optR ((indexV v.2 xs).map fun k => .tmp .st (.int k)) e
    | _, _ => .bad
  | .meth mt r es, e => (ev kt c r e).bind fun x e => match x with
    | .slot i => if !isLS e i then .bad else (evs kt c es e).bind fun as e => (takeAs true as e).bind fun vs e => match e[i]? with
      | some (.val p (.l m) (.lst xs)) => match mutV m xs mt vs with
        | some (ys, r) => .ok (.tmp r.1 r.2) (e.set i (.val p (.l m) (.lst ys)))
        | none => .bad
      | _ => .bad
    | _ => .bad
  | .pm p r es, e => (ev kt c r e).bind fun x e => if isPart x && !quiet es then .bad else match readA e x with
    | some u0 => if !pmTy kt p u0.2 then .bad else (evs kt c es e).bind fun as e => match readA e x, readAs e as with
      | some u, some vs => valR (pmV p u vs) e
      | _, _ => .bad
    | none => .bad
  | .comp m own t it cd elt, e => (evW kt c it e).bind fun ms e => if !ownOk e own then .bad else
      (compL own t ms.1 (fun e => (evC kt c cd e).bind fun k e => if k then (ev kt c elt e).bind fun x e => (takeA x e).bind fun v e => optR ((fit m v).map some) e else .ok none e) ms.2 [] (setEmp e own)).bind fun acc e' =>
        .ok (.tmp (.l m) (.lst acc)) (backS e own e')
  -- over a list of ours, which lies aside meanwhile
  | .kcomp m own t a cd elt, e => (ev kt c a e).bind fun x e => match x with
    | .slot i => match e[i]? with
      | some (.val p (.l .st) (.lst xs)) => if !ownOk (e.set i .emp) own then .bad else
        (compL own t .st (fun e => (evC kt c cd e).bind fun k e => if k then (ev kt c elt e).bind fun x e => (takeA x e).bind fun v e => optR ((fit m v).map some) e else .ok none e) xs [] (setEmp (e.set i .emp) own)).bind fun acc e' =>
          .ok (.tmp (.l m) (.lst acc)) ((backS (e.set i .emp) own e').set i (.val p (.l .st) (.lst xs)))
      | _ => .bad
    | _ => .bad
  | .anyg al own t it elt, e => (evW kt c it e).bind fun ms e => if !ownOk e own then .bad else
      (anyL al own t ms.1 (fun e => (ev kt c elt e).bind fun x e => asB x e) ms.2 (setEmp e own)).bind fun k e' => .ok (.tmp .st (.bl k)) (backS e own e')
  | _, _ => .bad
def evs (kt : Bool) (c : Calls) : E → En → Res (List Arg)
  | .nil, e => .ok [] e
  | .cons a es, e => (ev kt c a e).bind fun x e => if isPart x && !quiet es then .bad else (evs kt c es e).bind fun xs e => .ok (x :: xs) e
  | _, _ => .bad
/-- a part of a slice that may be left out -/
def evO (kt : Bool) (c : Calls) : E → En → Res (Option Int)
  | .nop, e => .ok none e
  | .one a, e => (ev kt c a e).bind fun x e => match x with
    | .tmp _ (.int i) => .ok (some i) e
    | _ => .bad
  | _, _ => .bad
/-- a comprehension's test -/
def evC (kt : Bool) (c : Calls) : E → En → Res Bool
  | .nop, e => .ok true e
  | .one a, e => (ev kt c a e).bind fun x e => asB x e
  | _, _ => .bad
/-- what a loop walks -/
def evW (kt : Bool) (c : Calls) : E → En → Res (Mk × List Val)
  | .rng es, e => (evs kt c es e).bind fun as e => match readAs e as with
    | some vs => optR ((rngV vs).map fun xs => (.st, xs)) e
    | none => .bad
  | .enum a, e => (ev kt c a e).bind fun x e => (frzA x e).bind fun v e => match v with
    | .lst xs => .ok (.pr, enumL xs) e
    | .tup xs => .ok (.pr, enumL xs) e
    | _ => .bad
  | .zip a b, e => (ev kt c a e).bind fun x e => (frzA x e).bind fun u e => (ev kt c b e).bind fun y e => (frzA y e).bind fun v e => match u, v with
    | .lst xs, .lst ys => .ok (.pr, zipL xs ys) e
    | .tup xs, .tup ys => .ok (.pr, zipL xs ys) e
    | _, _ => .bad
  | .rev a, e => (ev kt c a e).bind fun x e => (frzA x e).bind fun v e => match v with
    | .lst xs => .ok (.st, xs.reverse) e
    | .tup xs => .ok (.st, xs.reverse) e
    | _ => .bad
  | .one a, e => (ev kt c a e).bind fun x e => walkA x e
  | .wk k a, e => (ev kt c a e).bind fun x e => (frzA x e).bind fun v e => optR (wkV k v) e
  | _, _ => .bad
end

/-! ### statements -/
def putD {κ : Type} [DecidableEq κ] (kvs : List (κ × Val)) (k : κ) (v : Val) : List (κ × Val) :=
  if (kvs.any fun p => decide (p.1 = k)) = true then kvs.map fun p => if p.1 = k then (p.1, v) else p else kvs ++ [(k, v)]
/-- a[i] = v for what is ours -/
def stoV (kt : Bool) (m : Mk) (w i : Val) (v : MV) : Option Val := match fit m v with
  | none => none
  | some y => match w with
    | .lst xs => match i with
      | .int i => (ixN xs.length i).map fun j => .lst (xs.set j y)
      | _ => none
    | .dk kvs => match keyOf i with
      | some k => if m = .st ∧ kvs.length < sizeLine then some (.dk (putD kvs k y)) else none
      | none => none
    | _ => none
/-- x op= y -/
def augV : BOp → Val → Val → Option Val
  | .add, .int i, .int j => some (.int (i + j))
  | .sub, .int i, .int j => some (.int (i - j))
  | .mul, .int i, .int j => if mulOk i j then some (.int (i * j)) else none
  | .add, .str x, .str y => if x.length + y.length ≤ sizeLine then some (.str (x ++ y)) else none
  | _, _, _ => none
def stoS (kt : Bool) (k : Nat) (i : Val) (v : MV) (e : En) : Res Fl := match e[k]? with
  | some (.val p (.l m) w) => match stoV kt m w i v with
    | some w => .ok .nx (e.set k (.val p (.l m) w))
    | none => .bad
  | _ => .bad
def isV (e : En) (k : Nat) : Bool := match e[k]? with
  | some (.val _ _ _) => true
  | _ => false
/-- is an exception of the class x one of the class y -/
def isSubX (x y : Str) : Bool := decide (x = y) || decide (y = "ShiftError") || decide (y = "ValueError")
/-- a call that lets an exception out: which, and the slots behind it -/
def excAt (kt : Bool) (c : Calls) (f n : Nat) (es : E) (e : En) : Option (Exc × En) := match evs kt c es e with
  | .ok as e => match passN true (List.replicate n .frz) as e with
    | .ok ps e => match c f (ps.map (·.1)) with
      | .exc x _ => some (x, e)
      | _ => none
    | _ => none
  | _ => none
/-- turns enough -/
def wFuel : Nat := 1000000000
def ex (kt : Bool) (c : Calls) : C → En → Res Fl
  | .nil, e => .ok .nx e
  | .seq a b, e => (ex kt c a e).bind fun f e => match f with
    | .nx => ex kt c b e
    | f => .ok f e
  | .asg t v, e => (ev kt c v e).bind fun x e => (takeA x e).bind fun v e => match asgT t v e with
    | some e => .ok .nx e
    | none => .bad
  | .sto (.var k) i v, e => (ev kt c v e).bind fun x e => (takeA x e).bind fun v e => if !isV e k then .bad else (ev kt c i e).bind fun y e => match readA e y with
    | some i => stoS kt k i.2 v e
    | none => .bad
  | .aug k op v, e => match e[k]? with
    | some (.val false .st u) => (ev kt c v e).bind fun y e => match readA e y with
      | some v => match augV op u v.2 with
        | some w => .ok .nx (e.set k (.val false .st w))
        | none => .bad
      | none => .bad
    | _ => .bad
  -- a[i] op= v: a list of ours, i an int
  | .augS (.var k) i op v, e => if !isV e k then .bad else (ev kt c i e).bind fun y e => match e[k]?, readA e y with
    | some (.val _ (.l m) (.lst xs)), some (_, .int j) => match L2.atI xs j with
      | some u => if !quiet v then .bad else (ev kt c v e).bind fun z e => match readA e z with
        | some v => match augV op u v.2 with
          | some r => stoS kt k (.int j) (m, r) e
          | none => .bad
        | none => .bad
      | none => .bad
    | _, _ => .bad
  | .expr v, e => (ev kt c v e).bind fun _ e => .ok .nx e
  | .ret v, e => (ev kt c v e).bind fun x e => (takeA x e).bind fun v e => .ok (.rt v.1 v.2) e
  | .retN, e => .ok (.rt .st .non) e
  | .rse x, e => .ok (.xc x) e
  -- try: slot i = f(es), except ShiftError as slot j: return [isinstance(slot j, y) ..]
  | .tryc i f n es j ys xs, e => match excAt kt c f n es e with
    | some (x, e) => if ys.length ≤ sizeLine ∧ x ∈ xs ∧ j < e.length then .ok (.rt (.l .st) (.lst (ys.map fun y => .bl (isSubX x y)))) e else .bad
    | none => (ev kt c (.call f (List.replicate n .frz) es) e).bind fun x e => (takeA x e).bind fun v e => match asgT (.nm i) v e with
      | some e => .ok .nx e
      | none => .bad
  | .iff t a b, e => (ev kt c t e).bind fun x e => (asB x e).bind fun k e => if k then ex kt c a e else ex kt c b e
  | .forr t it b, e => (evW kt c it e).bind fun ms e => forL t ms.1 (ex kt c b) ms.2 e
  | .whil t b, e => whilF (fun e => (ev kt c t e).bind fun x e => asB x e) (ex kt c b) wFuel e
  | .brk, e => .ok .bk e
  | .cnt, e => .ok .ct e
  | .pass, e => .ok .nx e
  | _, _ => .bad

/-! ### defs -/
structure Def where
  np : Nat
  ns : Nat
  body : C
def paSlot (a : DA) : Slot := .val a.pin a.m a.v
def run (kt : Bool) (c : Calls) (d : Def) (args : List DA) : Out :=
  if args.length = d.np then
    match ex kt c d.body (args.map paSlot ++ List.replicate (d.ns - d.np) .emp) with
    | .ok .nx e => .ret .st .non e
    | .ok (.rt m v) e => .ret m v e
    | .ok (.xc x) e => .exc x e
    | _ => .bad
  else .bad
/-- n calls deep -/
def sem (kt : Bool) (D : List Def) : Nat → Calls
  | 0, _, _ => .bad
  | n + 1, f, args => match D[f]? with
    | some d => run kt (sem kt D n) d args
    | none => .bad
end Sh

/-! ShG: arguments in the heap -/
namespace Sh
open PySem PySem.Spec PyProof.Rows L2

/-- a step; q: it changed nothing of ours -/
structure Stp (q : Bool) (S : AS) (H : Hp) (fo : List Addr) (S' : AS) (H' : Hp) (fo' g : List Addr) : Prop where
  st : Step S H (if q then [] else fo) S' H' (if q then g else fo' ++ g)
  eq : q = true → fo' = fo
  same : q = true → ∀ a, H a ≠ none → H' a = H a
section
variable {K : KK} {q q1 q2 : Bool} {S S0 S1 S2 S' : AS} {H H0 H1 H2 H' : Hp} {fo fo0 fo1 fo2 fo' g g1 g2 g' f : List Addr}
theorem Stp.full (h : Stp q S H fo S' H' fo' g) : Step S H fo S' H' (fo' ++ g) := by
  obtain ⟨st, eq, _⟩ := h
  cases q with
  | false => exact st
  | true =>
    rw [eq rfl]
    have st : Step S H [] S' H' g := st
    exact ⟨fun a h n => st.frame a h (by simp), st.tups, st.frzs, st.grow, st.stab, fun a h => (st.stabN a h).imp_right fun z => z.imp_left fun z => absurd z (by simp), fun a h => by
      rcases List.mem_append.mp h with h | h
      · exact .inl h
      · exact (st.own a h).imp_left fun z => absurd z (by simp), st.live⟩
theorem Stp.refl : Stp q S H fo S H fo [] := ⟨by cases q <;> simp <;> exact Step.refl, fun _ => rfl, fun _ _ _ => rfl⟩
theorem Stp.of (h : Step S H fo S' H' (fo' ++ g)) : Stp false S H fo S' H' fo' g := ⟨h, (fun e => nomatch e), (fun e => nomatch e)⟩
theorem Stp.plain (h : Step S H [] S' H' g) (hs : ∀ a, H a ≠ none → H' a = H a) : Stp q S H fo S' H' fo g := by
  cases q with
  | true => exact ⟨h, fun _ => rfl, fun _ => hs⟩
  | false => exact .of (Stp.full (q := true) ⟨h, fun _ => rfl, fun _ => hs⟩)
theorem Stp.trans (a : Stp q1 S H fo S1 H1 fo1 g1) (b : Stp q2 S1 H1 fo1 S2 H2 fo2 g2) : Stp (q1 && q2) S H fo S2 H2 fo2 (g1 ++ g2) := by
  by_cases e : (q1 && q2) = true
  · rw [Bool.and_eq_true] at e
    obtain ⟨rfl, rfl⟩ := e
    refine ⟨?_, fun _ => (b.eq rfl).trans (a.eq rfl), fun _ x hx => (b.same rfl x (by rw [a.same rfl x hx]; exact hx)).trans (a.same rfl x hx)⟩
    have sa : Step S H [] S1 H1 g1 := a.st
    have sb : Step S1 H1 [] S2 H2 g2 := b.st
    exact Step.trans (fo1 := []) sa sb
  · have e : (q1 && q2) = false := by simpa using e
    rw [e]
    refine .of ?_
    have := Step.trans a.full b.full
    exact this.perm fun x hx => by
      simp only [List.mem_append] at hx ⊢
      rcases hx with h | h | h
      · exact .inr (.inl h)
      · exact .inl h
      · exact .inr (.inr h)
/-- g shrinks -/
theorem Stp.sub (a : Stp q S H fo S' H' fo' g) (h : ∀ x ∈ g', x ∈ g) : Stp q S H fo S' H' fo' g' := by
  refine ⟨?_, a.eq, a.same⟩
  cases q with
  | true => exact Step.perm a.st h
  | false =>
    refine Step.perm a.st fun x hx => ?_
    have hx : x ∈ fo' ++ g' := hx
    show x ∈ fo' ++ g
    rcases List.mem_append.mp hx with z | z
    · exact List.mem_append_left _ z
    · exact List.mem_append_right _ (h x z)
theorem Stp.weak (a : Stp q S H fo S' H' fo' g) : Stp false S H fo S' H' fo' g := .of a.full
/-- what was aside stays ours -/
theorem Ow.next (h : Ow K S H (fo ++ g)) (a : Stp q S H fo S1 H1 fo1 g1) (o : Ow K S1 H1 (fo1 ++ g1)) (hg : ∀ x ∈ g, H x ≠ Option.none) : Ow K S1 H1 (fo1 ++ (g ++ g1)) :=
  (h.step a.full o hg).perm (by
    rw [← List.append_assoc, ← List.append_assoc]
    exact (List.perm_append_comm).append_right _)
end

section
variable {K : KK} {S S1 S2 S' : AS} {H H1 H2 H' : Hp} {e e1 e2 e' : En} {σ σ' : Sl} {fo fo1 fo2 fo' f g g1 g' gr : List Addr} {w : V} {ws : List V} {a : Arg} {as : List Arg} {m : Mk} {v : Val} {mv : MV} {q : Bool}
/-- where an argument lies -/
def ArgR (K : KK) (S : AS) (H : Hp) (e : En) (σ : Sl) : Arg → V → List Addr → Prop
  | .tmp m v, w, g => Rep K S H m v w g
  | .slot i, w, g => g = [] ∧ σ[i]? = some (some w)
  | .part i low m v, w, g => g = [] ∧ ∃ p m0 v0 w0 f0, e[i]? = some (.val p m0 v0) ∧ σ[i]? = some (some w0) ∧ Rep K S H m0 v0 w0 f0 ∧ Part K S H f0 (m, v) w ∧ (low = .l .st → Part K S H f0.tail (m, v) w)
inductive ArgsR (K : KK) (S : AS) (H : Hp) (e : En) (σ : Sl) : List Arg → List V → List Addr → Prop
  | nil : ArgsR K S H e σ [] [] []
  | cons {a w g as ws gs} : ArgR K S H e σ a w g → ArgsR K S H e σ as ws gs → ArgsR K S H e σ (a :: as) (w :: ws) (g ++ gs)
theorem ArgR.own (h : ArgR K S H e σ a w g) : ∀ x ∈ g, Own (H x) := by
  cases a with
  | tmp m v => exact RS.own h
  | slot i => rw [h.1]; simp
  | part i low m v => rw [h.1]; simp
theorem ArgsR.own (h : ArgsR K S H e σ as ws g) : ∀ x ∈ g, Own (H x) := by
  induction h with
  | nil => simp
  | cons h1 _ ih =>
    intro x hx
    rcases List.mem_append.mp hx with hx | hx
    · exact h1.own x hx
    · exact ih x hx
theorem Part.same {r : MV} (h : Part K S H f r w) (hs : ∀ a, H a ≠ Option.none → H1 a = H a) (hS : ∀ a, S a → S1 a) : Part K S1 H1 f r w := by
  obtain ⟨fl, fp, fr, rfl, h⟩ := h
  exact ⟨fl, fp, fr, rfl, RS.same h hs hS⟩
/-- an argument goes on -/
theorem ArgR.next (h : ArgR K S H e σ a w g) (s : Stp q S H fo S1 H1 fo1 g1) (o : Ow K S H (fo ++ g)) (hp : isPart a = true → q = true ∧ e1 = e) : ArgR K S1 H1 e1 σ a w g := by
  cases a with
  | tmp m v => exact RS.step h s.full o.ne' (fun x sx => o.left.sd x sx) o.right.ds
  | slot i => exact h
  | part i low m v =>
    obtain ⟨rfl, rfl⟩ := hp rfl
    obtain ⟨hg, p, m0, v0, w0, f0, h1, h2, h3, h4, h5⟩ := h
    have st : Step S H [] S1 H1 g1 := s.st
    exact ⟨hg, p, m0, v0, w0, f0, h1, h2, RS.same h3 (s.same rfl) st.stab, h4.same (s.same rfl) st.stab, fun z => (h5 z).same (s.same rfl) st.stab⟩
/-- to be read now -/
theorem readA_snd (r : readA e a = some mv) (E : ES K S H e σ fo) (h : ArgR K S H e σ a w g) : ∃ f, Rep K S H mv.1 mv.2 w f := by
  cases a with
  | tmp m v => cases r; exact ⟨g, h⟩
  | slot i =>
    simp only [readA] at r
    split at r
    · rename_i p m v ei; cases r
      obtain ⟨w', fl, fp, fr, e1, _, h1, _⟩ := E.get ei
      rw [h.2] at e1; cases e1
      exact ⟨fp, h1⟩
    · cases r
  | part i low m v =>
    cases r
    obtain ⟨hg, p, m0, v0, w0, f0, h1, h2, h3, ⟨fl, fp, fr, _, h5⟩, _⟩ := h
    exact ⟨fp, h5⟩
theorem readAs_snd : ∀ {as : List Arg} {vs : List MV} {ws : List V} {g : List Addr}, readAs e as = some vs → ES K S H e σ fo → ArgsR K S H e σ as ws g → ∃ f, RA K S H vs ws f
  | [], vs, ws, g, r, E, h => by cases r; cases h; exact ⟨[], .nil _⟩
  | a :: as, vs, ws, g, r, E, h => by
    simp only [readAs] at r
    split at r
    · rename_i v vs' r1 r2
      cases r
      cases h with
      | cons h1 h2 =>
        obtain ⟨f1, x1⟩ := readA_snd r1 E h1
        obtain ⟨f2, x2⟩ := readAs_snd r2 E h2
        exact ⟨f1 ++ f2, RS.cons (mk := .tc v.1 (mkc vs')) x1 x2⟩
    · cases r
theorem Rep.st_of {f : List Addr} (h : Rep K S H m v w f) (hs : ∀ a, S a → S' a) (hf : ∀ a ∈ f, S' a) : Rep K S' H .st v w [] := by
  have := RS.weaken h hs hf
  obtain ⟨w', ws, fp, fr, e1, e2, h1, h2⟩ := RS.uncons this
  cases e1
  obtain ⟨rfl, rfl⟩ := List.append_eq_nil_iff.mp e2.symm
  exact h1
theorem Ow.grow {f : List Addr} (o : Ow K S H (fo ++ g)) (hS : ∀ a, S a → S' a) (hs : ∀ a, S' a → S a ∨ a ∈ f) (hd : ∀ a ∈ f, a ∉ fo' ++ g') (hsub : (fo' ++ g').Sublist (fo ++ g)) (hl : ∀ a ∈ f, H a ≠ Option.none) : Ow K S' H (fo' ++ g') := by
  have o' := o.sub hsub
  refine ⟨o'.nd, fun a ha s => ?_, o.live.to (fun a s => ?_) hS fun _ _ _ => .inl rfl⟩
  · rcases hs a s with z | z
    · exact o'.ds a ha z
    · exact hd a z ha
  · rcases hs a s with z | z
    · exact o.live.1 a z
    · exact hl a z
/-- a list of ours whose items stay from now on -/
theorem Rep.items_l {m0 : Mk} {v0 : Val} {w0 : V} {f0 : List Addr} (h : Rep K S H m0 v0 w0 f0) (hl : m0.isL = true) (hs : ∀ a, S a → S' a) (hf : ∀ a ∈ f0.tail, S' a) :
    ∃ f1, Rep K S' H (.l .st) v0 w0 f1 ∧ f1.Sublist f0 ∧ (∀ a ∈ f0, a ∈ f1 ∨ a ∈ f0.tail) ∧ (f0.Nodup → ∀ a ∈ f1, a ∉ f0.tail) := by
  cases m0 with
  | st => cases hl
  | tn => cases hl
  | pr => cases hl
  | tc _ _ => cases hl
  | l m =>
    cases h with
    | non h => cases h; exact ⟨[], Rep.non, .slnil, by simp, by simp⟩
    | bl h => cases h; exact ⟨[], Rep.bl, .slnil, by simp, by simp⟩
    | int h => cases h; exact ⟨[], Rep.int, .slnil, by simp, by simp⟩
    | str h => cases h; exact ⟨[], Rep.str, .slnil, by simp, by simp⟩
    | tup x y z h => cases x
    | @lstO mk m2 ys a ws g2 xs vs f2 x y z h =>
      cases h; cases x
      refine ⟨[a], Rep.lstO y (RS.weaken z hs fun b hb => hf b (by simpa using hb)).toL, by simp, by simp, fun nd b hb => ?_⟩
      have : b = a := by simpa using hb
      subst this
      simpa using (List.nodup_cons.mp nd).1
    | lstS x => cases x
    | @dkO mk m2 kvs ks a ws g2 xs vs f2 x y e z h =>
      cases h; cases x
      refine ⟨[a], ?_, by simp, by simp, fun nd b hb => ?_⟩
      · have := RS.dkO (mk := .tc (.l .st) .tn) (K := K) (S := S') rfl y e (RS.weaken z hs fun b hb => hf b (by simpa using hb)).toL (.nil _)
        simpa [Rep] using this
      · have : b = a := by simpa using hb
        subst this
        simpa using (List.nodup_cons.mp nd).1
    | dkS x => cases x
    | @dtO mk m2 kvs ks a ws g2 xs vs f2 x y e z h =>
      cases h; cases x
      refine ⟨[a], ?_, by simp, by simp, fun nd b hb => ?_⟩
      · have := RS.dtO (mk := .tc (.l .st) .tn) (K := K) (S := S') rfl y e (RS.weaken z hs fun b hb => hf b (by simpa using hb)).toL (.nil _)
        simpa [Rep] using this
      · have : b = a := by simpa using hb
        subst this
        simpa using (List.nodup_cons.mp nd).1
    | dtS x => cases x
/-- what an argument that is kept, or that stays, leaves -/
structure Took (K : KK) (S : AS) (H : Hp) (σ : Sl) (fo g : List Addr) (e' : En) (m : Mk) (v : Val) (w : V) (S' : AS) (fo' g' : List Addr) : Prop where
  stab : ∀ a, S a → S' a
  nd : (fo' ++ g').Nodup
  mem : ∀ a ∈ fo' ++ g', a ∈ fo ++ g
  new : ∀ a, S' a → S a ∨ (a ∈ fo ++ g ∧ a ∉ fo' ++ g')
  es : ES K S' H e' σ fo'
  rep : Rep K S' H m v w g'
theorem live_of {K : KK} {S S' : AS} {H : Hp} {f f' : List Addr} (l : LV K S H) (hf : ∀ a ∈ f, H a ≠ Option.none) (new : ∀ a, S' a → S a ∨ (a ∈ f ∧ a ∉ f')) (stab : ∀ a, S a → S' a) : LV K S' H := l.to (fun a s => (new a s).elim (l.1 a) fun z => hf a z.1) stab fun _ _ _ => .inl rfl
theorem step_of {S S' : AS} {H : Hp} {f f' : List Addr} (hf : ∀ a ∈ f, H a ≠ Option.none) (stab : ∀ a, S a → S' a) (new : ∀ a, S' a → S a ∨ (a ∈ f ∧ a ∉ f')) (mem : ∀ a ∈ f', a ∈ f) : Step S H f S' H f' :=
  ⟨fun _ _ _ => .inl rfl, fun _ _ h => h, fun _ _ _ h => h, fun _ h => h, stab, fun a s => (new a s).imp_right fun z => .inl z.1, fun a ha => .inl (mem a ha), fun l => live_of l hf new stab⟩
theorem Took.ow (t : Took K S H σ fo g e' m v w S' fo' g') (o : Ow K S H (fo ++ g)) (hf : ∀ a ∈ fo ++ g, H a ≠ Option.none) : Ow K S' H (fo' ++ g') :=
  ⟨t.nd, fun a ha s => (t.new a s).elim (fun z => o.ds a (t.mem a ha) z) fun z => z.2 ha, live_of o.live hf t.new t.stab⟩
/-- with the slots i forgotten or of another mark: S grows by A -/
theorem frz_slot {i : Nat} {p : Bool} {m1 : Mk} {f1 A : List Addr} {fl fp fr : List Addr} (o : Ow K S H (fl ++ (fp ++ fr))) (hA : ∀ a ∈ A, a ∈ fp) (hf : f1.Sublist fp) (hx : ∀ a ∈ f1, a ∉ A) (hl : ∀ a ∈ fp, H a ≠ Option.none) :
    Step S H (fl ++ (fp ++ fr)) (fun a => S a ∨ a ∈ A) H (fl ++ (f1 ++ fr)) ∧ (fl ++ (f1 ++ fr)).Sublist (fl ++ (fp ++ fr)) ∧ ∀ a ∈ A, a ∉ fl ++ (f1 ++ fr) := by
  have sub : (fl ++ (f1 ++ fr)).Sublist (fl ++ (fp ++ fr)) := (List.Sublist.refl _).append (hf.append (List.Sublist.refl _))
  refine ⟨Step.freeze (fun a ha => by simp [hA a ha]) (fun a ha => hl a (hA a ha)) fun a ha => sub.subset ha, sub, fun a ha h => ?_⟩
  have nd := o.nd
  rw [List.nodup_append] at nd
  obtain ⟨_, nd2, nd3⟩ := nd
  rw [List.nodup_append] at nd2
  simp only [List.mem_append] at h
  rcases h with h | h | h
  · exact nd3 a h a (List.mem_append_left _ (hA a ha)) rfl
  · exact hx a h ha
  · exact nd2.2.2 a (hA a ha) a h rfl
theorem RS.growS {mk : Mk} {xs : List Val} (h : RS K S H mk xs ws f) (hs : ∀ a, S a → S' a) : RS K S' H mk xs ws f := h.keep (fun _ _ => rfl) (fun a s => ⟨hs a s, fun _ => .inl rfl⟩) (fun _ _ z => z) (fun _ _ _ z => z)
theorem set_self {i : Nat} (hw : σ[i]? = some (some w)) : σ.set i (some w) = σ := by
  obtain ⟨hl, e1⟩ := List.getElem?_eq_some_iff.mp hw
  rw [← e1]; exact List.set_getElem_self hl
theorem frzA_snd (r : frzA a e = .ok v e') (E : ES K S H e σ fo) (o : Ow K S H (fo ++ g)) (h : ArgR K S H e σ a w g) : ∃ S' fo', Took K S H σ fo g e' .st v w S' fo' [] := by
  cases a with
  | tmp m v' =>
    cases r
    refine ⟨fun x => S x ∨ x ∈ g, fo, fun a s => .inl s, by simpa using o.left.nd, by simp; exact fun a ha => .inl ha, fun a s => s.imp_right fun z => ⟨List.mem_append_right _ z, by simpa using o.ne' a z⟩, ?_, ?_⟩
    · exact E.keep fun _ r => r.growS fun a s => .inl s
    · exact Rep.st_of h (fun a s => .inl s) fun a ha => .inr ha
  | slot i =>
    simp only [frzA] at r
    split at r
    · rename_i p m v' ei; cases r
      obtain ⟨w', fl, fp, fr, e1, rfl, h1, h2, _⟩ := E.get ei
      obtain ⟨rfl, hw⟩ := h
      rw [hw] at e1; cases e1
      rw [List.append_nil] at o
      obtain ⟨s1, s2, s3⟩ := frz_slot (i := i) (p := p) (m1 := .st) (f1 := []) (A := fp) o (fun a ha => ha) (by simp) (by simp) (fun a ha => (RS.own h1 a ha).some)
      have r' : Rep K (fun a => S a ∨ a ∈ fp) H .st v w [] := Rep.st_of h1 (fun a s => .inl s) fun a ha => .inr ha
      refine ⟨fun a => S a ∨ a ∈ fp, fl ++ ([] ++ fr), fun a s => .inl s, by simpa using o.nd.sublist s2, fun a ha => by simpa using s2.subset (by simpa using ha), fun a s => s.imp_right fun z => ⟨by simp [z], by simpa using s3 a z⟩, ?_, r'⟩
      have := h2 (p' := p) r' fun _ r => r.growS fun a s => .inl s
      rw [set_self hw] at this
      exact this
    · cases r
  | part i low m v' =>
    simp only [frzA] at r
    split at r
    · rename_i p m0 v0 ei
      split at r
      · rename_i c; cases r
        obtain ⟨rfl, p', m0', v0', w0, f0, e1, hw, h3, h4, h6⟩ := h
        rw [ei] at e1; cases e1
        obtain ⟨w', fl, fp, fr, e1, rfl, h1, h2, _⟩ := E.get ei
        rw [hw] at e1; cases e1
        have : f0 = fp := RS.func h3 h1
        subst this
        rw [List.append_nil] at o
        rcases c with rfl | ⟨rfl, hl⟩
        · obtain ⟨s1, s2, s3⟩ := frz_slot (i := i) (p := p) (m1 := .st) (f1 := []) (A := f0) o (fun a ha => ha) (by simp) (by simp) (fun a ha => (RS.own h1 a ha).some)
          have r' : Rep K (fun a => S a ∨ a ∈ f0) H .st v0 w0 [] := Rep.st_of h1 (fun a s => .inl s) fun a ha => .inr ha
          obtain ⟨gl, gp, gr, e5, h5⟩ := h4
          refine ⟨fun a => S a ∨ a ∈ f0, fl ++ ([] ++ fr), fun a s => .inl s, by simpa using o.nd.sublist s2, fun a ha => by simpa using s2.subset (by simpa using ha), fun a s => s.imp_right fun z => ⟨by simp [z], by simpa using s3 a z⟩, ?_, Rep.st_of h5 (fun a s => .inl s) fun a ha => .inr (by rw [e5]; simp [ha])⟩
          have := h2 (p' := p) r' fun _ r => r.growS fun a s => .inl s
          rw [set_self hw] at this
          exact this
        · obtain ⟨f1, r', sb, cov, dj⟩ := Rep.items_l (S' := fun a => S a ∨ a ∈ f0.tail) h1 hl (fun a s => .inl s) fun a ha => .inr ha
          have ndp : f0.Nodup := by
            have nd := o.nd
            rw [List.nodup_append] at nd
            exact (List.nodup_append.mp nd.2.1).1
          obtain ⟨s1, s2, s3⟩ := frz_slot (i := i) (p := p) (m1 := .st) (f1 := f1) (A := f0.tail) o (fun a ha => List.mem_of_mem_tail ha) sb (dj ndp) (fun a ha => (RS.own h1 a ha).some)
          obtain ⟨gl, gp, gr, e5, h5⟩ := h6 rfl
          refine ⟨fun a => S a ∨ a ∈ f0.tail, fl ++ (f1 ++ fr), fun a s => .inl s, by simpa using o.nd.sublist s2, fun a ha => by simpa using s2.subset (by simpa using ha), fun a s => s.imp_right fun z => ⟨by simp [List.mem_of_mem_tail z], by simpa using s3 a z⟩, ?_, Rep.st_of h5 (fun a s => .inl s) fun a ha => .inr (by rw [e5]; simp [ha])⟩
          have := h2 (p' := p) r' fun _ r => r.growS fun a s => .inl s
          rw [set_self hw] at this
          exact this
      · cases r
    · cases r
theorem Res.bind_ok {α β : Type} {r : Res α} {f : α → En → Res β} {b : β} {e' : En} (h : r.bind f = .ok b e') : ∃ a e1, r = .ok a e1 ∧ f a e1 = .ok b e' := by
  cases r with
  | ok a e1 => exact ⟨a, e1, rfl, h⟩
  | exc x e => cases h
  | bad => cases h
theorem takeA_snd (r : takeA a e = .ok mv e') (E : ES K S H e σ fo) (o : Ow K S H (fo ++ g)) (h : ArgR K S H e σ a w g) : ∃ S' fo' g', Took K S H σ fo g e' mv.1 mv.2 w S' fo' g' := by
  cases a with
  | tmp m v' =>
    cases r
    exact ⟨S, fo, g, fun a s => s, o.nd, fun a ha => ha, fun a s => .inl s, E, h⟩
  | slot i =>
    simp only [takeA] at r
    split at r
    · rename_i m v' ei; cases r
      obtain ⟨w', fl, fp, fr, e1, rfl, h1, _, h3⟩ := E.get ei
      obtain ⟨rfl, hw⟩ := h
      rw [hw] at e1; cases e1
      have pm : (fl ++ fr ++ fp).Perm (fl ++ (fp ++ fr) ++ []) := by
        rw [List.append_nil, List.append_assoc]
        exact List.Perm.append_left _ List.perm_append_comm
      have pm' : ((fl ++ fr) ++ fp).Perm ((fl ++ (fp ++ fr)) ++ []) := pm
      exact ⟨S, fl ++ fr, fp, fun a s => s, pm'.nodup_iff.mpr o.nd, fun a ha => pm'.mem_iff.mp ha, fun a s => .inl s, h3, h1⟩
    · cases r
  | part i low m v' =>
    obtain ⟨v2, e1, r1, r2⟩ := Res.bind_ok r
    cases r2
    obtain ⟨S', fo', t⟩ := frzA_snd r1 E o h
    exact ⟨S', fo', [], t⟩
/-- several at once -/
structure TookN (K : KK) (S : AS) (H : Hp) (σ : Sl) (fo g : List Addr) (e' : En) (vs : List MV) (ws : List V) (S' : AS) (fo' g' : List Addr) : Prop where
  stab : ∀ a, S a → S' a
  nd : (fo' ++ g').Nodup
  mem : ∀ a ∈ fo' ++ g', a ∈ fo ++ g
  new : ∀ a, S' a → S a ∨ (a ∈ fo ++ g ∧ a ∉ fo' ++ g')
  es : ES K S' H e' σ fo'
  rep : RA K S' H vs ws g'
theorem TookN.ow {vs : List MV} (t : TookN K S H σ fo g e' vs ws S' fo' g') (o : Ow K S H (fo ++ g)) (hf : ∀ a ∈ fo ++ g, H a ≠ Option.none) : Ow K S' H (fo' ++ g') :=
  ⟨t.nd, fun a ha s => (t.new a s).elim (fun z => o.ds a (t.mem a ha) z) fun z => z.2 ha, live_of o.live hf t.new t.stab⟩
/-- what lies aside stays ours -/
theorem Took.aside {m : Mk} (t : Took K S H σ fo g e' m v w S' fo' g') (o : Ow K S H (fo ++ (g ++ gr))) (hf : ∀ a ∈ fo ++ g, H a ≠ Option.none) : Ow K S' H (fo' ++ (g' ++ gr)) ∧ (∀ a ∈ gr, a ∉ fo ++ g) := by
  have o1 : Ow K S H ((fo ++ g) ++ gr) := by rw [List.append_assoc]; exact o
  have dj : ∀ a ∈ gr, a ∉ fo ++ g := o1.ne'
  refine ⟨?_, dj⟩
  rw [← List.append_assoc]
  refine ⟨List.nodup_append.mpr ⟨t.nd, o1.right.nd, fun a ha b hb e => ?_⟩, fun a ha s => ?_, live_of o.live hf t.new t.stab⟩
  · subst e; exact dj a hb (t.mem a ha)
  · rcases t.new a s with z | z
    · rcases List.mem_append.mp ha with ha | ha
      · exact o1.ds a (List.mem_append_left _ (t.mem a ha)) z
      · exact o1.ds a (List.mem_append_right _ ha) z
    · rcases List.mem_append.mp ha with ha | ha
      · exact z.2 ha
      · exact dj a ha z.1
theorem takeAs_fl : ∀ {as : List Arg} {fl : Bool} {e e' : En} {vs : List MV}, takeAs fl as e = .ok vs e' → ∀ a ∈ as, isPart a = true → fl = true
  | [], _, _, _, _, _, a, ha, _ => absurd ha (by simp)
  | b :: as, fl, e, e', vs, r, a, ha, hp => by
    simp only [takeAs] at r
    split at r
    · cases r
    · rename_i hfl
      obtain ⟨v, e1, r1, r⟩ := Res.bind_ok r
      obtain ⟨vs', e2, r2, r⟩ := Res.bind_ok r
      rcases List.mem_cons.mp ha with rfl | ha
      · simpa [hp] using hfl
      · have := takeAs_fl r2 a ha hp
        rw [Bool.and_eq_true] at this
        exact this.1
theorem takeA_tmp (h : isTmp a = true) (r : takeA a e = .ok mv e') : e' = e := by
  cases a with
  | tmp m v => cases r; rfl
  | slot i => cases h
  | part i low m v => cases h
/-- arguments where more stays -/
theorem ArgsR.growS (h : ArgsR K S H e σ as ws g) (hs : ∀ a, S a → S' a) (hp : ∀ a ∈ as, isPart a = true → e1 = e) : ArgsR K S' H e1 σ as ws g := by
  induction h with
  | nil => exact .nil
  | @cons a w g as ws gs h1 h2 ih =>
    refine .cons ?_ (ih fun a ha => hp a (List.mem_cons_of_mem _ ha))
    cases a with
    | tmp m v => exact RS.growS h1 hs
    | slot i => exact h1
    | part i low m v =>
      obtain rfl := hp _ List.mem_cons_self rfl
      obtain ⟨hg, p, m0, v0, w0, f0, q1, q2, q3, ⟨fl, fp, fr, q4, q5⟩, q6⟩ := h1
      exact ⟨hg, p, m0, v0, w0, f0, q1, q2, RS.growS q3 hs, ⟨fl, fp, fr, q4, RS.growS q5 hs⟩, fun z => by obtain ⟨fl, fp, fr, q4, q5⟩ := q6 z; exact ⟨fl, fp, fr, q4, RS.growS q5 hs⟩⟩
theorem takeAs_snd : ∀ {as : List Arg} {fl : Bool} {e : En} {S : AS} {fo : List Addr} {vs : List MV} {ws : List V} {g : List Addr}, takeAs fl as e = .ok vs e' → ES K S H e σ fo → Ow K S H (fo ++ g) → ArgsR K S H e σ as ws g → ∃ S' fo' g', TookN K S H σ fo g e' vs ws S' fo' g'
  | [], fl, e, S, fo, vs, ws, g, r, E, o, h => by
    cases r; cases h
    exact ⟨S, fo, [], fun a s => s, o.nd, fun a ha => ha, fun a s => .inl s, E, .nil _⟩
  | a :: as, fl, e, S, fo, vs, ws, g, r, E, o, h => by
    simp only [takeAs] at r
    split at r
    · cases r
    · rename_i hfl
      obtain ⟨v, e1, r1, r⟩ := Res.bind_ok r
      obtain ⟨vs', e2, r2, r⟩ := Res.bind_ok r
      cases r
      cases h with
      | @cons _ w ga _ ws gs h1 h2 =>
        have o1 : Ow K S H (fo ++ ga) := o.sub (List.Sublist.append (List.Sublist.refl _) (List.sublist_append_left _ _))
        obtain ⟨S1, fo1, g1, t⟩ := takeA_snd r1 E o1 h1
        have hf1 : ∀ a ∈ fo ++ ga, H a ≠ Option.none := fun a ha => (List.mem_append.mp ha).elim (fun z => (E.own a z).some) fun z => (h1.own a z).some
        obtain ⟨o2, dj⟩ := t.aside o hf1
        have o3 : Ow K S1 H (fo1 ++ gs) := o2.sub (List.Sublist.append (List.Sublist.refl _) (List.sublist_append_right _ _))
        have h2' : ArgsR K S1 H e1 σ as ws gs := h2.growS t.stab fun a' ha hp => by
          have := takeAs_fl r2 a' ha hp
          rw [Bool.and_eq_true] at this
          exact takeA_tmp this.2 r1
        obtain ⟨S2, fo2, g2, t2⟩ := takeAs_snd r2 t.es o3 h2'
        have dj1 : ∀ a ∈ g1, a ∉ fo1 ++ gs := fun a ha hb => by
          have o2' : Ow K S1 H ((fo1 ++ gs) ++ g1) := o2.perm (by rw [List.append_assoc]; exact List.Perm.append_left _ List.perm_append_comm)
          exact o2'.ne' a ha hb
        have m1 : ∀ a ∈ fo1 ++ gs, a ∈ fo ++ (ga ++ gs) := fun a ha => by
          rw [← List.append_assoc]
          rcases List.mem_append.mp ha with z | z
          · exact List.mem_append_left _ (t.mem a (List.mem_append_left _ z))
          · exact List.mem_append_right _ z
        refine ⟨S2, fo2, g1 ++ g2, fun a s => t2.stab a (t.stab a s), ?_, ?_, ?_, t2.es, RS.cons (mk := .tc v.1 (mkc vs')) (RS.growS t.rep t2.stab) t2.rep⟩
        · have p : (g1 ++ (fo2 ++ g2)).Perm (fo2 ++ (g1 ++ g2)) := by
            rw [← List.append_assoc, ← List.append_assoc]
            exact List.perm_append_comm.append_right _
          refine p.nodup_iff.mp (List.nodup_append.mpr ⟨(List.nodup_append.mp t.nd).2.1, t2.nd, fun a ha b hb e => ?_⟩)
          subst e
          exact dj1 a ha (t2.mem a hb)
        · intro a ha
          simp only [List.mem_append] at ha
          rcases ha with z | z | z
          · exact m1 a (t2.mem a (List.mem_append_left _ z))
          · have := t.mem a (List.mem_append_right _ z)
            rw [← List.append_assoc]
            exact List.mem_append_left _ this
          · exact m1 a (t2.mem a (List.mem_append_right _ z))
        · intro a s
          rcases t2.new a s with z | ⟨z1, z2⟩
          · rcases t.new a z with z | ⟨z1, z2⟩
            · exact .inl z
            · refine .inr ⟨by rw [← List.append_assoc]; exact List.mem_append_left _ z1, fun h => ?_⟩
              have h3 : a ∈ fo2 ++ g2 → False := fun h => by
                rcases List.mem_append.mp (t2.mem a h) with y | y
                · exact z2 (List.mem_append_left _ y)
                · exact dj a y z1
              simp only [List.mem_append] at h h3 z2
              rcases h with y | y | y
              · exact h3 (.inl y)
              · exact z2 (.inr y)
              · exact h3 (.inr y)
          · refine .inr ⟨m1 a z1, fun h => ?_⟩
            simp only [List.mem_append] at h z2
            rcases h with y | y | y
            · exact z2 (.inl y)
            · exact dj1 a y z1
            · exact z2 (.inr y)
end
end Sh

/-! ShH: what the evaluator leaves as it is -/
namespace Sh
open PySem PySem.Spec PyProof.Rows L2

/-- the slots that are handed back stay such -/
def Pins (e e' : En) : Prop := ∀ (j : Nat), (∃ m v, e[j]? = some (Slot.val true m v)) → ∃ m v, e'[j]? = some (Slot.val true m v)
theorem Pins.refl (e : En) : Pins e e := fun _ h => h
theorem Pins.trans {e e1 e2 : En} (a : Pins e e1) (b : Pins e1 e2) : Pins e e2 := fun j h => b j (a j h)
theorem Pins.set {e : En} {i : Nat} {s : Slot} (h : (∃ m v, e[i]? = some (.val true m v)) → ∃ m v, s = .val true m v) : Pins e (e.set i s) := fun j hj => by
  by_cases e1 : i = j
  · subst e1
    obtain ⟨m, v, rfl⟩ := h hj
    obtain ⟨_, _, hj⟩ := hj
    exact ⟨m, v, List.getElem?_set_self (List.getElem?_eq_some_iff.mp hj).1⟩
  · rw [List.getElem?_set_ne e1]; exact hj
theorem frzA_pins {a : Arg} {e e' : En} {v : Val} (r : frzA a e = .ok v e') : Pins e e' := by
  cases a with
  | tmp m v' => cases r; exact .refl _
  | slot i =>
    simp only [frzA] at r
    split at r
    · rename_i p m v' ei; cases r
      exact .set fun ⟨m2, v2, h⟩ => by rw [ei] at h; cases h; exact ⟨_, _, rfl⟩
    · cases r
  | part i low m v' =>
    simp only [frzA] at r
    split at r
    · rename_i p m0 v0 ei
      split at r
      · cases r
        exact .set fun ⟨m2, v2, h⟩ => by rw [ei] at h; cases h; exact ⟨_, _, rfl⟩
      · cases r
    · cases r
theorem takeA_pins {a : Arg} {e e' : En} {v : MV} (r : takeA a e = .ok v e') : Pins e e' := by
  cases a with
  | tmp m v' => cases r; exact .refl _
  | slot i =>
    simp only [takeA] at r
    split at r
    · rename_i m v' ei; cases r
      exact .set fun ⟨m2, v2, h⟩ => by rw [ei] at h; cases h
    · cases r
  | part i low m v' =>
    obtain ⟨v2, e1, r1, r2⟩ := Res.bind_ok r
    cases r2
    exact frzA_pins r1
theorem takeAs_pins : ∀ {as : List Arg} {fl : Bool} {e e' : En} {vs : List MV}, takeAs fl as e = .ok vs e' → Pins e e'
  | [], _, _, _, _, r => by cases r; exact .refl _
  | a :: as, fl, e, e', vs, r => by
    simp only [takeAs] at r
    split at r
    · cases r
    · obtain ⟨v, e1, r1, r⟩ := Res.bind_ok r
      obtain ⟨vs', e2, r2, r⟩ := Res.bind_ok r
      cases r
      exact (takeA_pins r1).trans (takeAs_pins r2)
theorem asgT_pins : ∀ (t : T), (∀ (v : MV) (e e' : En), asgT t v e = some e' → Pins e e' ∧ e'.length = e.length) ∧ (∀ (m : Mk) (xs : List Val) (e e' : En), asgTs t m xs e = some e' → Pins e e' ∧ e'.length = e.length) := by
  intro t
  induction t with
  | nm i =>
    refine ⟨fun v e e' h => ?_, fun m xs e e' h => ?_⟩
    · simp only [asgT] at h
      split at h
      · cases h
      split at h
      · cases h
      · rename_i s hn ei; cases h
        exact ⟨.set fun ⟨m2, v2, h⟩ => absurd h (by rw [ei]; intro z; cases z; exact hn _ _ rfl), by simp⟩
      · cases h
    · cases xs <;> simp [asgTs] at h
  | tp ts ih =>
    refine ⟨fun v e e' h => ?_, fun m xs e e' h => ?_⟩
    · simp only [asgT] at h
      split at h
      · split at h
        · cases h
        · exact ih.2 _ _ _ _ h
      · cases h
    · cases xs <;> simp [asgTs] at h
  | nil =>
    refine ⟨fun v e e' h => by simp [asgT] at h, fun m xs e e' h => ?_⟩
    cases xs with
    | nil => simp only [asgTs] at h; cases h; exact ⟨.refl _, rfl⟩
    | cons x xs => simp [asgTs] at h
  | cons t ts ih1 ih2 =>
    refine ⟨fun v e e' h => by simp [asgT] at h, fun m xs e e' h => ?_⟩
    cases xs with
    | nil => simp [asgTs] at h
    | cons x xs =>
      simp only [asgTs] at h
      split at h
      · rename_i e1 h1
        obtain ⟨p1, l1⟩ := ih1.1 _ _ _ h1
        obtain ⟨p2, l2⟩ := ih2.2 _ _ _ _ h
        exact ⟨p1.trans p2, l2.trans l1⟩
      · cases h

/-! ### what holds from the slots ahead to the slots behind -/
/-- R holds of the slots ahead and behind -/
def Hld {α : Type} (R : En → En → Prop) (e : En) (r : Res α) : Prop := ∀ a e', r = .ok a e' → R e e'
section
variable {α β : Type} {R : En → En → Prop} {e e1 : En}
theorem Hld.bad : Hld R e (.bad : Res α) := fun _ _ h => nomatch h
theorem Hld.ok {a : α} (h : R e e1) : Hld R e (.ok a e1 : Res α) := fun _ _ h' => by cases h'; exact h
theorem Hld.bind {r : Res α} {f : α → En → Res β} (h1 : Hld R e r) (h2 : ∀ a e1, R e e1 → Hld R e (f a e1)) : Hld R e (r.bind f) := fun b e' h => by
  obtain ⟨a, e1, r1, r2⟩ := Res.bind_ok h
  exact h2 a e1 (h1 a e1 r1) b e' r2
theorem Hld.bind' {r : Res α} {f : α → En → Res β} (h1 : ∀ a e1, r = .ok a e1 → R e e1) (h2 : ∀ a e1, r = .ok a e1 → R e e1 → Hld R e (f a e1)) : Hld R e (r.bind f) := fun b e' h => by
  obtain ⟨a, e1, r1, r2⟩ := Res.bind_ok h
  exact h2 a e1 r1 (h1 a e1 r1) b e' r2
theorem Hld.step {r : Res α} (tr : ∀ {a b c}, R a b → R b c → R a c) (h : R e e1) (h2 : Hld R e1 r) : Hld R e r := fun a e' q => tr h (h2 a e' q)
theorem Hld.opt {o : Option α} (h : R e e1) : Hld R e (optR o e1) := by
  unfold optR; split
  · exact .ok h
  · exact .bad
end
/-- as it was handed back, and as many slots -/
structure Kp (e e' : En) : Prop where
  pins : Pins e e'
  len : e'.length = e.length
theorem Kp.refl (e : En) : Kp e e := ⟨.refl e, rfl⟩
theorem Kp.trans {a b c : En} (h : Kp a b) (k : Kp b c) : Kp a c := ⟨h.pins.trans k.pins, k.len.trans h.len⟩
theorem Kp.set {e : En} {i : Nat} {s : Slot} (h : (∃ m v, e[i]? = some (Slot.val true m v)) → ∃ m v, s = Slot.val true m v) : Kp e (e.set i s) := ⟨.set h, by simp⟩
theorem frzA_kp {a : Arg} {e e' : En} {v : Val} (r : frzA a e = .ok v e') : Kp e e' := by
  refine ⟨frzA_pins r, ?_⟩
  cases a with
  | tmp m v' => cases r; rfl
  | slot i => simp only [frzA] at r; split at r <;> cases r; simp
  | part i low m v' =>
    simp only [frzA] at r
    split at r
    · split at r <;> cases r; simp
    · cases r
theorem takeA_kp {a : Arg} {e e' : En} {v : MV} (r : takeA a e = .ok v e') : Kp e e' := by
  refine ⟨takeA_pins r, ?_⟩
  cases a with
  | tmp m v' => cases r; rfl
  | slot i => simp only [takeA] at r; split at r <;> cases r; simp
  | part i low m v' =>
    obtain ⟨v2, e1, r1, r2⟩ := Res.bind_ok r
    cases r2
    exact (frzA_kp r1).len
theorem takeAs_kp : ∀ {as : List Arg} {fl : Bool} {e e' : En} {vs : List MV}, takeAs fl as e = .ok vs e' → Kp e e'
  | [], _, _, _, _, r => by cases r; exact .refl _
  | a :: as, fl, e, e', vs, r => by
    simp only [takeAs] at r
    split at r
    · cases r
    · obtain ⟨v, e1, r1, r⟩ := Res.bind_ok r
      obtain ⟨vs', e2, r2, r⟩ := Res.bind_ok r
      cases r
      exact (takeA_kp r1).trans (takeAs_kp r2)
theorem asgT_kp {t : T} {v : MV} {e e' : En} (h : asgT t v e = some e') : Kp e e' := let ⟨a, b⟩ := (asgT_pins t).1 v e e' h; ⟨a, b⟩
/-- one argument handed over, and put back -/
theorem pass1_kp {m : Md} {a : Arg} {e e' : En} {p : DA × Bk} (r : pass1 m a e = .ok p e') : e'.length = e.length ∧ (match p.2 with
    | .no => Pins e e'
    | .lent i s => e[i]? = some s ∧ e' = e.set i .emp
    | .chg i b => (∃ m v, e[i]? = some (Slot.val b m v)) ∧ e' = e.set i .emp) := by
  have hz : ∀ {a : Arg} {e e' : En} {p : DA × Bk}, ((frzA a e).bind fun v e => Res.ok (DA.mk false .st v, Bk.no) e) = .ok p e' → e'.length = e.length ∧ p.2 = .no ∧ Pins e e' := fun h => by
    obtain ⟨v, e1, r1, r⟩ := Res.bind_ok h
    cases r
    exact ⟨(frzA_kp r1).len, rfl, (frzA_kp r1).pins⟩
  cases m with
  | frz =>
    obtain ⟨h1, h2, h3⟩ := hz r
    rw [h2]; exact ⟨h1, h3⟩
  | bor =>
    cases a with
    | tmp m v =>
      obtain ⟨h1, h2, h3⟩ := hz (a := .tmp m v) (e := e) (p := p) r
      rw [h2]; exact ⟨h1, h3⟩
    | slot i =>
      simp only [pass1] at r
      split at r
      · rename_i ei
        split at r
        · cases r; exact ⟨by simp, ei, rfl⟩
        · cases r
      · cases r
    | part i low m v =>
      simp only [pass1] at r
      split at r
      · rename_i ei
        split at r
        · cases r; exact ⟨by simp, ei, rfl⟩
        · cases r
      · cases r
  | ino =>
    cases a with
    | tmp m v => cases r
    | slot i =>
      simp only [pass1] at r
      split at r
      · rename_i ei; cases r; exact ⟨by simp, ⟨_, _, ei⟩, rfl⟩
      · cases r
    | part i low m v => cases r
  | mov =>
    obtain ⟨v, e1, r1, r⟩ := Res.bind_ok (show ((takeA a e).bind fun v e => Res.ok (DA.mk false v.1 v.2, Bk.no) e) = .ok p e' from r)
    cases r
    exact ⟨(takeA_kp r1).len, (takeA_kp r1).pins⟩
theorem putBack_len : ∀ {bs : List Bk} {fe e e' : En}, putBack bs fe e = some e' → e'.length = e.length
  | [], _, _, _, h => by cases h; rfl
  | .no :: bs, fe, e, e', h => putBack_len (bs := bs) h
  | .lent i s :: bs, fe, e, e', h => by
    simp only [putBack, Option.map_eq_some_iff] at h
    obtain ⟨e1, h1, rfl⟩ := h
    simpa using putBack_len h1
  | .chg i p :: bs, fe, e, e', h => by
    simp only [putBack] at h
    split at h
    · simp only [Option.map_eq_some_iff] at h
      obtain ⟨e1, h1, rfl⟩ := h
      simpa using putBack_len h1
    · cases h
theorem passN_kp : ∀ {ms : List Md} {as : List Arg} {fl : Bool} {e e1 : En} {ps : List (DA × Bk)}, passN fl ms as e = .ok ps e1 → e1.length = e.length ∧ ∀ {fe e2 e3 : En}, Pins e1 e2 → e2.length = e1.length → putBack (ps.map (·.2)) fe e2 = some e3 → Pins e e3
  | [], [], _, e, e1, ps, r => by
    cases r
    exact ⟨rfl, fun h1 h2 h3 => by cases h3; exact h1⟩
  | [], _ :: _, _, _, _, _, r => by simp [passN] at r
  | _ :: _, [], _, _, _, _, r => by simp [passN] at r
  | m :: ms, a :: as, fl, e, e1, ps, r => by
    simp only [passN] at r
    split at r
    · cases r
    · obtain ⟨p, e', r1, r⟩ := Res.bind_ok r
      obtain ⟨ps', e'', r2, r⟩ := Res.bind_ok r
      cases r
      obtain ⟨l1, k1⟩ := pass1_kp r1
      obtain ⟨l2, k2⟩ := passN_kp r2
      refine ⟨l2.trans l1, fun {fe e2 e3} h1 h2 h3 => ?_⟩
      have back : ∀ {i : Nat} {s s' : Slot} {e4 : En}, e[i]? = some s → e' = e.set i .emp → ((∃ m v, s = Slot.val true m v) → ∃ m v, s' = Slot.val true m v) → putBack (ps'.map (·.2)) fe.tail e2 = some e4 → e3 = e4.set i s' → Pins e e3 := fun {i s s' e4} hs he hp h5 h6 j hj => by
        subst h6
        have il : i < e.length := (List.getElem?_eq_some_iff.mp hs).1
        have l4 : e4.length = e.length := ((putBack_len h5).trans h2).trans (l2.trans l1)
        by_cases ij : i = j
        · subst ij
          obtain ⟨m, v, hj⟩ := hj
          rw [hs] at hj; cases hj
          obtain ⟨m, v, rfl⟩ := hp ⟨m, v, rfl⟩
          exact ⟨m, v, List.getElem?_set_self (by omega)⟩
        · rw [List.getElem?_set_ne ij]
          refine k2 h1 h2 h5 j ?_
          rw [he, List.getElem?_set_ne ij]
          exact hj
      obtain ⟨pa, b⟩ := p
      cases b with
      | no => exact k1.trans (k2 h1 h2 h3)
      | lent i s =>
        simp only [List.map_cons, putBack, Option.map_eq_some_iff] at h3
        obtain ⟨e4, h5, h6⟩ := h3
        exact back k1.1 k1.2 id h5 h6.symm
      | chg i p =>
        obtain ⟨⟨m, v, hs⟩, he⟩ := k1
        simp only [List.map_cons, putBack] at h3
        split at h3
        · simp only [Option.map_eq_some_iff] at h3
          obtain ⟨e4, h5, h6⟩ := h3
          refine back hs he (fun ⟨m2, v2, h7⟩ => ?_) h5 h6.symm
          cases h7
          exact ⟨_, _, rfl⟩
        · cases h3
theorem callF_kp {c : Calls} {f : Nat} {md : List Md} {as : List Arg} {e e' : En} {a : Arg} (r : callF c f md as e = .ok a e') : Kp e e' := by
  obtain ⟨ps, e1, r1, r⟩ := Res.bind_ok r
  obtain ⟨l1, k1⟩ := passN_kp r1
  split at r
  · split at r
    · split at r
      · rename_i h; cases r
        exact ⟨k1 (.refl _) rfl h, (putBack_len h).trans l1⟩
      · cases r
    · cases r
  · cases r
theorem idxA_same {kt : Bool} {e e' : En} {a r : Arg} {v : Val} (h : idxA kt e a v = .ok r e') : e' = e := by
  unfold idxA at h
  split at h
  · cases h
  · split at h
    · cases h
    · split at h
      · cases h; rfl
      · split at h <;> cases h <;> rfl
      · split at h <;> cases h <;> rfl
theorem walkA_kp {a : Arg} {e e' : En} {r : Mk × List Val} (h : walkA a e = .ok r e') : Kp e e' := by
  obtain ⟨v, e1, r1, h⟩ := Res.bind_ok h
  split at h
  · cases h; exact frzA_kp r1
  · cases h
theorem setEmp_len (e : En) : ∀ own : List Nat, (setEmp e own).length = e.length
  | [] => rfl
  | i :: is => by unfold setEmp; rw [setEmp_len _ is]; simp
theorem setEmp_get {e : En} {j : Nat} : ∀ {own : List Nat}, j ∉ own → (setEmp e own)[j]? = e[j]?
  | [], _ => rfl
  | i :: is, h => by
    unfold setEmp
    rw [setEmp_get fun q => h (List.mem_cons_of_mem _ q)]
    exact List.getElem?_set_ne fun q => h (by rw [q]; exact List.mem_cons_self)

/-- the slots of a comprehension are put back -/
theorem backS_get {e0 : En} {j : Nat} : ∀ {own : List Nat} {e : En}, e.length = e0.length → (backS e0 own e)[j]? = if j ∈ own then e0[j]? else e[j]?
  | [], e, h => by simp [backS]
  | i :: is, e, h => by
    unfold backS
    cases hi : e0[i]? with
    | none =>
      rw [backS_get h]
      by_cases hj : j ∈ is
      · simp [hj]
      · by_cases ij : j = i
        · subst ij
          simp [hj, hi]
          rw [List.getElem?_eq_none_iff] at hi
          omega
        · simp [hj, ij]
    | some s =>
      have il : i < e.length := by rw [h]; exact (List.getElem?_eq_some_iff.mp hi).1
      show (backS e0 is (e.set i s))[j]? = _
      rw [backS_get (by simpa using h)]
      by_cases hj : j ∈ is
      · simp [hj]
      · by_cases ij : i = j
        · subst ij
          simp [hj, hi, il]
        · rw [List.getElem?_set_ne ij]
          simp [hj, show ¬ j = i from fun q => ij q.symm]
theorem compL_hld {R : En → En → Prop} {own : List Nat} {t : T} {m : Mk} {b : En → Res (Option Val)} (rf : ∀ e, R e e) (tr : ∀ {a b c}, R a b → R b c → R a c) (h1 : ∀ e, R e (setEmp e own)) (h2 : ∀ {v e e'}, asgT t v e = some e' → R e e') (hb : ∀ e, Hld R e (b e)) :
    ∀ (xs acc : List Val) (e : En), Hld R e (compL own t m b xs acc e)
  | [], acc, e => .ok (rf e)
  | x :: xs, acc, e => by
    unfold compL
    split
    · exact .bad
    · rename_i e1 ha
      refine Hld.bind (fun a e' h => tr (h1 e) (tr (h2 ha) (hb _ a e' h))) fun v e2 k => ?_
      split
      · exact .step tr k (compL_hld rf tr h1 h2 hb xs acc e2)
      · split
        · exact .step tr k (compL_hld rf tr h1 h2 hb xs _ e2)
        · exact .bad
theorem anyL_hld {R : En → En → Prop} {al : Bool} {own : List Nat} {t : T} {m : Mk} {b : En → Res Bool} (rf : ∀ e, R e e) (tr : ∀ {a b c}, R a b → R b c → R a c) (h1 : ∀ e, R e (setEmp e own)) (h2 : ∀ {v e e'}, asgT t v e = some e' → R e e') (hb : ∀ e, Hld R e (b e)) :
    ∀ (xs : List Val) (e : En), Hld R e (anyL al own t m b xs e)
  | [], e => .ok (rf e)
  | x :: xs, e => by
    unfold anyL
    split
    · exact .bad
    · rename_i e1 ha
      refine Hld.bind (fun a e' h => tr (h1 e) (tr (h2 ha) (hb _ a e' h))) fun v e2 k => ?_
      split
      · exact .step tr k (anyL_hld rf tr h1 h2 hb xs e2)
      · exact .ok k
/-- the same but at own -/
structure KpO (own : List Nat) (e e' : En) : Prop where
  pins : ∀ (j : Nat), j ∉ own → (∃ m v, e[j]? = some (Slot.val true m v)) → ∃ m v, e'[j]? = some (Slot.val true m v)
  len : e'.length = e.length
theorem Kp.o {own : List Nat} {e e' : En} (h : Kp e e') : KpO own e e' := ⟨fun j _ k => h.pins j k, h.len⟩
theorem KpO.trans {own : List Nat} {a b c : En} (h : KpO own a b) (k : KpO own b c) : KpO own a c := ⟨fun j hj q => k.pins j hj (h.pins j hj q), k.len.trans h.len⟩
theorem KpO.emp (own : List Nat) (e : En) : KpO own e (setEmp e own) := ⟨fun j hj q => by rw [setEmp_get hj]; exact q, setEmp_len e own⟩
theorem KpO.back {own : List Nat} {e e' : En} (h : KpO own e e') : Kp e (backS e own e') := by
  refine ⟨fun j hj => ?_, ?_⟩
  · rw [backS_get h.len]
    split
    · exact hj
    · rename_i hn; exact h.pins j hn hj
  · have : ∀ {own : List Nat} {e1 : En}, (backS e own e1).length = e1.length := by
      intro own
      induction own with
      | nil => intro e1; rfl
      | cons i is ih =>
        intro e1
        unfold backS
        rw [ih]
        split <;> simp
    rw [this]; exact h.len
section
variable {kt : Bool} {c : Calls}
theorem ev_kp (x : E) : (∀ e, Hld Kp e (ev kt c x e)) ∧ (∀ e, Hld Kp e (evs kt c x e)) ∧ (∀ e, Hld Kp e (evO kt c x e)) ∧ (∀ e, Hld Kp e (evC kt c x e)) ∧ (∀ e, Hld Kp e (evW kt c x e)) := by
  have rf := Kp.refl
  have tr := @Kp.trans
  have hB : ∀ {a : Arg} {e e1 : En}, Kp e e1 → Hld Kp e (asB a e1) := fun {a e e1} h => by
    unfold asB; split
    · exact .ok h
    · exact .bad
  have hV : ∀ {o : Option MV} {e e1 : En}, Kp e e1 → Hld Kp e (valR o e1) := fun {a e e1} h => by
    unfold valR; split
    · exact .ok h
    · exact .bad
  have hW : ∀ {a : Arg} {e e1 : En}, Kp e e1 → Hld Kp e (walkA a e1) := fun {a e e1} h => .step tr h fun r e' q => walkA_kp q
  have hF : ∀ {a : Arg} {e e1 : En}, Kp e e1 → Hld Kp e (frzA a e1) := fun {a e e1} h => .step tr h fun r e' q => frzA_kp q
  have hT : ∀ {a : Arg} {e e1 : En}, Kp e e1 → Hld Kp e (takeA a e1) := fun {a e e1} h => .step tr h fun r e' q => takeA_kp q
  have hTs : ∀ {a : List Arg} {fl : Bool} {e e1 : En}, Kp e e1 → Hld Kp e (takeAs fl a e1) := fun {a fl e e1} h => .step tr h fun r e' q => takeAs_kp q
  induction x with
  | var i => refine ⟨fun e => ?_, fun e => .bad, fun e => .bad, fun e => .bad, fun e => .bad⟩; simp only [ev]; split <;> first | exact .opt (rf e) | exact .bad
  | int i => exact ⟨fun e => .ok (rf e), fun e => .bad, fun e => .bad, fun e => .bad, fun e => .bad⟩
  | bl b => exact ⟨fun e => .ok (rf e), fun e => .bad, fun e => .bad, fun e => .bad, fun e => .bad⟩
  | non => exact ⟨fun e => .ok (rf e), fun e => .bad, fun e => .bad, fun e => .bad, fun e => .bad⟩
  | str x => exact ⟨fun e => .ok (rf e), fun e => .bad, fun e => .bad, fun e => .bad, fun e => .bad⟩
  | bin op a b iha ihb =>
    refine ⟨fun e => ?_, fun e => .bad, fun e => .bad, fun e => .bad, fun e => .bad⟩
    simp only [ev]
    refine .bind (iha.1 e) fun x e1 k1 => ?_
    split
    · exact .bad
    · refine .bind (.step tr k1 (ihb.1 e1)) fun y e2 k2 => ?_
      split
      · exact hV k2
      · exact .bad
  | neg a iha =>
    refine ⟨fun e => ?_, fun e => .bad, fun e => .bad, fun e => .bad, fun e => .bad⟩
    simp only [ev]
    refine .bind (iha.1 e) fun x e1 k1 => ?_
    split
    · exact .ok k1
    · exact .bad
  | cmp op a b iha ihb =>
    refine ⟨fun e => ?_, fun e => .bad, fun e => .bad, fun e => .bad, fun e => .bad⟩
    simp only [ev]
    refine .bind (iha.1 e) fun x e1 k1 => ?_
    split
    · exact .bad
    · refine .bind (.step tr k1 (ihb.1 e1)) fun y e2 k2 => ?_
      split
      · exact .opt k2
      · exact .bad
  | chn op op' a b d iha ihb ihd =>
    refine ⟨fun e => ?_, fun e => .bad, fun e => .bad, fun e => .bad, fun e => .bad⟩
    simp only [ev]
    refine .bind (iha.1 e) fun x e1 k1 => .bind (.step tr k1 (ihb.1 e1)) fun y e2 k2 => ?_
    split
    · split
      · refine .bind (.step tr k2 (ihd.1 e2)) fun z e3 k3 => ?_
        split
        · exact .opt k3
        · exact .bad
      · exact .ok k2
      · exact .bad
    · exact .bad
  | and a b iha ihb =>
    refine ⟨fun e => ?_, fun e => .bad, fun e => .bad, fun e => .bad, fun e => .bad⟩
    simp only [ev]
    refine .bind (iha.1 e) fun x e1 k1 => .bind (hB k1) fun k e2 k2 => ?_
    split
    · exact .step tr k2 (ihb.1 e2)
    · exact .ok k2
  | or a b iha ihb =>
    refine ⟨fun e => ?_, fun e => .bad, fun e => .bad, fun e => .bad, fun e => .bad⟩
    simp only [ev]
    refine .bind (iha.1 e) fun x e1 k1 => .bind (hB k1) fun k e2 k2 => ?_
    split
    · exact .ok k2
    · exact .step tr k2 (ihb.1 e2)
  | one a iha =>
    refine ⟨fun e => iha.1 e, fun e => .bad, fun e => ?_, fun e => ?_, fun e => ?_⟩
    · simp only [evO]
      refine .bind (iha.1 e) fun x e1 k1 => ?_
      split
      · exact .ok k1
      · exact .bad
    · simp only [evC]
      exact .bind (iha.1 e) fun x e1 k1 => hB k1
    · simp only [evW]
      exact .bind (iha.1 e) fun x e1 k1 => hW k1
  | not a iha =>
    refine ⟨fun e => ?_, fun e => .bad, fun e => .bad, fun e => .bad, fun e => .bad⟩
    simp only [ev]
    exact .bind (iha.1 e) fun x e1 k1 => .bind (hB k1) fun k e2 k2 => .ok k2
  | ite t a b iht iha ihb =>
    refine ⟨fun e => ?_, fun e => .bad, fun e => .bad, fun e => .bad, fun e => .bad⟩
    simp only [ev]
    refine .bind (iht.1 e) fun x e1 k1 => .bind (hB k1) fun k e2 k2 => ?_
    split
    · exact .step tr k2 (iha.1 e2)
    · exact .step tr k2 (ihb.1 e2)
  | tup es ih =>
    refine ⟨fun e => ?_, fun e => .bad, fun e => .bad, fun e => .bad, fun e => .bad⟩
    simp only [ev]
    refine .bind (ih.2.1 e) fun x e1 k1 => .bind (hTs k1) fun k e2 k2 => ?_
    split
    · exact .ok k2
    · exact .bad
  | lst m es ih =>
    refine ⟨fun e => ?_, fun e => .bad, fun e => .bad, fun e => .bad, fun e => .bad⟩
    simp only [ev]
    refine .bind (ih.2.1 e) fun x e1 k1 => .bind (hTs k1) fun k e2 k2 => ?_
    split
    · split
      · exact .ok k2
      · exact .bad
    · exact .bad
  | nil => exact ⟨fun e => .bad, fun e => .ok (rf e), fun e => .bad, fun e => .bad, fun e => .bad⟩
  | cons a es iha ihs =>
    refine ⟨fun e => .bad, fun e => ?_, fun e => .bad, fun e => .bad, fun e => .bad⟩
    simp only [evs]
    refine .bind (iha.1 e) fun x e1 k1 => ?_
    split
    · exact .bad
    · exact .bind (.step tr k1 (ihs.2.1 e1)) fun y e2 k2 => .ok k2
  | dnk m => exact ⟨fun e => .ok (rf e), fun e => .bad, fun e => .bad, fun e => .bad, fun e => .bad⟩
  | dnt m => exact ⟨fun e => .ok (rf e), fun e => .bad, fun e => .bad, fun e => .bad, fun e => .bad⟩
  | idx a i iha ihi =>
    refine ⟨fun e => ?_, fun e => .bad, fun e => .bad, fun e => .bad, fun e => .bad⟩
    simp only [ev]
    refine .bind (iha.1 e) fun x e1 k1 => ?_
    split
    · exact .bad
    · refine .bind (.step tr k1 (ihi.1 e1)) fun y e2 k2 => ?_
      split
      · exact fun r e3 h => by rw [idxA_same h]; exact k2
      · exact .bad
  | slc a lo hi iha ihl ihh =>
    refine ⟨fun e => ?_, fun e => .bad, fun e => .bad, fun e => .bad, fun e => .bad⟩
    simp only [ev]
    refine .bind (iha.1 e) fun x e1 k1 => ?_
    split
    · exact .bad
    · refine .bind (.step tr k1 (ihl.2.2.1 e1)) fun y e2 k2 => .bind (.step tr k2 (ihh.2.2.1 e2)) fun z e3 k3 => ?_
      split
      · exact hV k3
      · exact .bad
  | nop => exact ⟨fun e => .bad, fun e => .bad, fun e => .ok (rf e), fun e => .ok (rf e), fun e => .bad⟩
  | blt b es ih =>
    refine ⟨fun e => ?_, fun e => .bad, fun e => .bad, fun e => .bad, fun e => .bad⟩
    simp only [ev]
    refine .bind (ih.2.1 e) fun x e1 k1 => ?_
    split
    · exact hV k1
    · exact .bad
  | pm p a es iha ihs =>
    refine ⟨fun e => ?_, fun e => .bad, fun e => .bad, fun e => .bad, fun e => .bad⟩
    simp only [ev]
    refine .bind (iha.1 e) fun x e1 k1 => ?_
    split
    · exact .bad
    · split
      · split
        · exact .bad
        · refine .bind (.step tr k1 (ihs.2.1 e1)) fun y e2 k2 => ?_
          split
          · exact hV k2
          · exact .bad
      · exact .bad
  | isi a t iha =>
    refine ⟨fun e => ?_, fun e => .bad, fun e => .bad, fun e => .bad, fun e => .bad⟩
    simp only [ev]
    refine .bind (iha.1 e) fun x e1 k1 => ?_
    split
    · exact .ok k1
    · exact .bad
  | lrg1 l a iha =>
    refine ⟨fun e => ?_, fun e => .bad, fun e => .bad, fun e => .bad, fun e => .bad⟩
    simp only [ev]
    refine .bind (iha.1 e) fun x e1 k1 => ?_
    split
    · split
      · exact .ok k1
      · exact .bad
    · exact .bad
  | lrg2 l a b iha ihb =>
    refine ⟨fun e => ?_, fun e => .bad, fun e => .bad, fun e => .bad, fun e => .bad⟩
    simp only [ev]
    refine .bind (iha.1 e) fun x e1 k1 => .bind (.step tr k1 (ihb.1 e1)) fun y e2 k2 => ?_
    split
    · split
      · exact .ok k2
      · exact .bad
    · exact .bad
  | call f md es ih =>
    refine ⟨fun e => ?_, fun e => .bad, fun e => .bad, fun e => .bad, fun e => .bad⟩
    simp only [ev]
    exact .bind (ih.2.1 e) fun x e1 k1 => .step tr k1 fun a e2 h => callF_kp h
  | meth mt r es ihr ihs =>
    refine ⟨fun e => ?_, fun e => .bad, fun e => .bad, fun e => .bad, fun e => .bad⟩
    have hm : Hld Kp e ((ev kt c r e).bind fun x e => match x with
        | .slot i => if !isLS e i then .bad else (evs kt c es e).bind fun as e => (takeAs true as e).bind fun vs e => match e[i]? with
          | some (.val p (.l m) (.lst xs)) => match mutV m xs mt vs with
            | some (ys, r) => Res.ok (Arg.tmp r.1 r.2) (e.set i (.val p (.l m) (.lst ys)))
            | none => .bad
          | _ => .bad
        | _ => .bad) := by
      refine .bind (ihr.1 e) fun x e1 k1 => ?_
      split
      · split
        · exact .bad
        · refine .bind (.step tr k1 (ihs.2.1 e1)) fun as e2 k2 => .bind (hTs k2) fun vs e3 k3 => ?_
          split
          · rename_i ei
            split
            · refine .ok (k3.trans (.set fun ⟨m2, v2, h⟩ => ?_))
              rw [ei] at h; cases h; exact ⟨_, _, rfl⟩
            · exact .bad
          · exact .bad
      · exact .bad
    cases mt with
    | index =>
      simp only [ev]
      refine .bind (ihr.1 e) fun x e1 k1 => ?_
      split
      · exact .bad
      · refine .bind (.step tr k1 (ihs.2.1 e1)) fun as e2 k2 => ?_
        split
        · exact .opt k2
        · exact .bad
    | _ => exact hm
  | comp m own t it cd elt ihi ihc ihe =>
    refine ⟨fun e => ?_, fun e => .bad, fun e => .bad, fun e => .bad, fun e => .bad⟩
    simp only [ev]
    refine .bind (ihi.2.2.2.2 e) fun ms e1 k1 => ?_
    split
    · exact .bad
    · intro a e3 h
      obtain ⟨acc, e2, r2, h⟩ := Res.bind_ok h
      cases h
      have k2 : KpO own (setEmp e1 own) e2 := compL_hld (R := KpO own) (fun e => (rf e).o) (fun h k => h.trans k) (KpO.emp own) (fun h => (asgT_kp h).o) (fun e4 => by
        refine .bind (fun k e5 h => (ihc.2.2.2.1 e4 k e5 h).o) fun k e5 q => ?_
        split
        · refine .bind (fun x e6 h => q.trans (ihe.1 e5 x e6 h).o) fun x e6 q => .bind (fun v e7 h => q.trans (takeA_kp h).o) fun v e7 q => .opt q
        · exact .ok q) ms.2 [] (setEmp e1 own) acc e2 r2
      exact k1.trans ((KpO.emp own e1).trans k2).back
  | anyg al own t it elt ihi ihe =>
    refine ⟨fun e => ?_, fun e => .bad, fun e => .bad, fun e => .bad, fun e => .bad⟩
    simp only [ev]
    refine .bind (ihi.2.2.2.2 e) fun ms e1 k1 => ?_
    split
    · exact .bad
    · intro a e3 h
      obtain ⟨k, e2, r2, h⟩ := Res.bind_ok h
      cases h
      have k2 : KpO own (setEmp e1 own) e2 := anyL_hld (R := KpO own) (fun e => (rf e).o) (fun h k => h.trans k) (KpO.emp own) (fun h => (asgT_kp h).o) (fun e4 => by
        refine .bind (fun k e5 h => (ihe.1 e4 k e5 h).o) fun k e5 q => ?_
        exact fun b e6 h => q.trans (hB (rf e5) b e6 h).o) ms.2 (setEmp e1 own) k e2 r2
      exact k1.trans ((KpO.emp own e1).trans k2).back
  | kcomp m own t a cd elt iha ihc ihe =>
    refine ⟨fun e => ?_, fun e => .bad, fun e => .bad, fun e => .bad, fun e => .bad⟩
    simp only [ev]
    refine .bind (iha.1 e) fun x e1 k1 => ?_
    split
    · split
      · rename_i i _ p xs hi
        split
        · exact .bad
        · intro a e3 h
          obtain ⟨acc, e2, r2, h⟩ := Res.bind_ok h
          cases h
          have k2 : KpO own (setEmp (e1.set i .emp) own) e2 := compL_hld (R := KpO own) (fun e => (rf e).o) (fun h k => h.trans k) (KpO.emp own) (fun h => (asgT_kp h).o) (fun e4 => by
            refine .bind (fun k e5 h => (ihc.2.2.2.1 e4 k e5 h).o) fun k e5 q => ?_
            split
            · refine .bind (fun x e6 h => q.trans (ihe.1 e5 x e6 h).o) fun x e6 q => .bind (fun v e7 h => q.trans (takeA_kp h).o) fun v e7 q => .opt q
            · exact .ok q) xs [] (setEmp (e1.set i .emp) own) acc e2 r2
          have k3 := ((KpO.emp own (e1.set i .emp)).trans k2).back
          refine k1.trans ⟨fun j q => ?_, by rw [List.length_set, k3.len, List.length_set]⟩
          by_cases hj : i = j
          · subst hj
            obtain ⟨m', v', q⟩ := q
            rw [hi] at q
            cases q
            have il := (List.getElem?_eq_some_iff.mp hi).1
            exact ⟨_, _, by rw [List.getElem?_set_self (by rw [k3.len, List.length_set]; exact il)]⟩
          · obtain ⟨m', v', z⟩ := k3.pins j (by rw [List.getElem?_set_ne hj]; exact q)
            exact ⟨m', v', by rw [List.getElem?_set_ne hj]; exact z⟩
      · exact .bad
    · exact .bad
  | rng es ih =>
    refine ⟨fun e => .bad, fun e => .bad, fun e => .bad, fun e => .bad, fun e => ?_⟩
    simp only [evW]
    refine .bind (ih.2.1 e) fun x e1 k1 => ?_
    split
    · exact .opt k1
    · exact .bad
  | enum a ih =>
    refine ⟨fun e => .bad, fun e => .bad, fun e => .bad, fun e => .bad, fun e => ?_⟩
    simp only [evW]
    refine .bind (ih.1 e) fun x e1 k1 => .bind (hF k1) fun v e2 k2 => ?_
    split
    · exact .ok k2
    · exact .ok k2
    · exact .bad
  | zip a b iha ihb =>
    refine ⟨fun e => .bad, fun e => .bad, fun e => .bad, fun e => .bad, fun e => ?_⟩
    simp only [evW]
    refine .bind (iha.1 e) fun x e1 k1 => .bind (hF k1) fun u e2 k2 => .bind (.step tr k2 (ihb.1 e2)) fun y e3 k3 => .bind (hF k3) fun v e4 k4 => ?_
    split
    · exact .ok k4
    · exact .ok k4
    · exact .bad
  | rev a ih =>
    refine ⟨fun e => .bad, fun e => .bad, fun e => .bad, fun e => .bad, fun e => ?_⟩
    simp only [evW]
    refine .bind (ih.1 e) fun x e1 k1 => .bind (hF k1) fun v e2 k2 => ?_
    split
    · exact .ok k2
    · exact .ok k2
    · exact .bad
  | wk k a ih =>
    refine ⟨fun e => .bad, fun e => .bad, fun e => .bad, fun e => .bad, fun e => ?_⟩
    simp only [evW]
    exact .bind (ih.1 e) fun x e1 k1 => .bind (hF k1) fun v e2 k2 => .opt k2
  | sp k a iha =>
    refine ⟨fun e => ?_, fun e => .bad, fun e => .bad, fun e => .bad, fun e => .bad⟩
    simp only [ev]
    refine .bind (iha.1 e) fun x e1 k1 => ?_
    split
    · exact hV k1
    · exact .bad
  | fz i =>
    refine ⟨fun e => ?_, fun e => .bad, fun e => .bad, fun e => .bad, fun e => .bad⟩
    simp only [ev]
    refine .bind ?_ fun x e1 k1 => .bind (hF k1) fun v e2 k2 => .ok k2
    split <;> first | exact .opt (rf e) | exact .bad
  | con x v => exact ⟨fun e => by simp only [ev]; exact .ok (rf e), fun e => .bad, fun e => .bad, fun e => .bad, fun e => .bad⟩
end

/-- what is quiet leaves the slots as they are -/
theorem ev_same {kt : Bool} {c : Calls} (x : E) (hq : quiet x = true) : (∀ e, Hld (fun e e' => e' = e) e (ev kt c x e)) ∧ (∀ e, Hld (fun e e' => e' = e) e (evs kt c x e)) ∧ (∀ e, Hld (fun e e' => e' = e) e (evO kt c x e)) := by
  have rf : ∀ e : En, e = e := fun _ => rfl
  have tr : ∀ {a b c : En}, b = a → c = b → c = a := fun h k => k.trans h
  have hB : ∀ {a : Arg} {e e1 : En}, e1 = e → Hld (fun e e' => e' = e) e (asB a e1) := fun {a e e1} h => by
    unfold asB; split
    · exact .ok h
    · exact .bad
  have hV : ∀ {o : Option MV} {e e1 : En}, e1 = e → Hld (fun e e' => e' = e) e (valR o e1) := fun {a e e1} h => by
    unfold valR; split
    · exact .ok h
    · exact .bad
  induction x with
  | var i => refine ⟨fun e => ?_, fun e => .bad, fun e => .bad⟩; simp only [ev]; split <;> first | exact .opt (rf e) | exact .bad
  | int i => exact ⟨fun e => .ok (rf e), fun e => .bad, fun e => .bad⟩
  | bl b => exact ⟨fun e => .ok (rf e), fun e => .bad, fun e => .bad⟩
  | non => exact ⟨fun e => .ok (rf e), fun e => .bad, fun e => .bad⟩
  | str x => exact ⟨fun e => .ok (rf e), fun e => .bad, fun e => .bad⟩
  | bin op a b iha ihb =>
    refine ⟨fun e => ?_, fun e => .bad, fun e => .bad⟩
    simp only [quiet, Bool.and_eq_true] at hq
    simp only [ev]
    refine .bind ((iha hq.1).1 e) fun x e1 k1 => ?_
    split
    · exact .bad
    · refine .bind (.step tr k1 ((ihb hq.2).1 e1)) fun y e2 k2 => ?_
      split
      · exact hV k2
      · exact .bad
  | neg a iha =>
    refine ⟨fun e => ?_, fun e => .bad, fun e => .bad⟩
    simp only [ev]
    refine .bind ((iha hq).1 e) fun x e1 k1 => ?_
    split
    · exact .ok k1
    · exact .bad
  | cmp op a b iha ihb =>
    refine ⟨fun e => ?_, fun e => .bad, fun e => .bad⟩
    simp only [quiet, Bool.and_eq_true] at hq
    simp only [ev]
    refine .bind ((iha hq.1).1 e) fun x e1 k1 => ?_
    split
    · exact .bad
    · refine .bind (.step tr k1 ((ihb hq.2).1 e1)) fun y e2 k2 => ?_
      split
      · exact .opt k2
      · exact .bad
  | chn op op' a b d iha ihb ihd =>
    refine ⟨fun e => ?_, fun e => .bad, fun e => .bad⟩
    simp only [quiet, Bool.and_eq_true] at hq
    simp only [ev]
    refine .bind ((iha hq.1.1).1 e) fun x e1 k1 => .bind (.step tr k1 ((ihb hq.1.2).1 e1)) fun y e2 k2 => ?_
    split
    · split
      · refine .bind (.step tr k2 ((ihd hq.2).1 e2)) fun z e3 k3 => ?_
        split
        · exact .opt k3
        · exact .bad
      · exact .ok k2
      · exact .bad
    · exact .bad
  | and a b iha ihb =>
    refine ⟨fun e => ?_, fun e => .bad, fun e => .bad⟩
    simp only [quiet, Bool.and_eq_true] at hq
    simp only [ev]
    refine .bind ((iha hq.1).1 e) fun x e1 k1 => .bind (hB k1) fun k e2 k2 => ?_
    split
    · exact .step tr k2 ((ihb hq.2).1 e2)
    · exact .ok k2
  | or a b iha ihb =>
    refine ⟨fun e => ?_, fun e => .bad, fun e => .bad⟩
    simp only [quiet, Bool.and_eq_true] at hq
    simp only [ev]
    refine .bind ((iha hq.1).1 e) fun x e1 k1 => .bind (hB k1) fun k e2 k2 => ?_
    split
    · exact .ok k2
    · exact .step tr k2 ((ihb hq.2).1 e2)
  | one a iha =>
    refine ⟨fun e => (iha hq).1 e, fun e => .bad, fun e => ?_⟩
    simp only [evO]
    refine .bind ((iha hq).1 e) fun x e1 k1 => ?_
    split
    · exact .ok k1
    · exact .bad
  | not a iha =>
    refine ⟨fun e => ?_, fun e => .bad, fun e => .bad⟩
    simp only [ev]
    exact .bind ((iha hq).1 e) fun x e1 k1 => .bind (hB k1) fun k e2 k2 => .ok k2
  | ite t a b iht iha ihb =>
    refine ⟨fun e => ?_, fun e => .bad, fun e => .bad⟩
    simp only [quiet, Bool.and_eq_true] at hq
    simp only [ev]
    refine .bind ((iht hq.1.1).1 e) fun x e1 k1 => .bind (hB k1) fun k e2 k2 => ?_
    split
    · exact .step tr k2 ((iha hq.1.2).1 e2)
    · exact .step tr k2 ((ihb hq.2).1 e2)
  | nil => exact ⟨fun e => .bad, fun e => .ok (rf e), fun e => .bad⟩
  | cons a es iha ihs =>
    refine ⟨fun e => .bad, fun e => ?_, fun e => .bad⟩
    simp only [quiet, Bool.and_eq_true] at hq
    simp only [evs]
    refine .bind ((iha hq.1).1 e) fun x e1 k1 => ?_
    split
    · exact .bad
    · exact .bind (.step tr k1 ((ihs hq.2).2.1 e1)) fun y e2 k2 => .ok k2
  | idx a i iha ihi =>
    refine ⟨fun e => ?_, fun e => .bad, fun e => .bad⟩
    simp only [quiet, Bool.and_eq_true] at hq
    simp only [ev]
    refine .bind ((iha hq.1).1 e) fun x e1 k1 => ?_
    split
    · exact .bad
    · refine .bind (.step tr k1 ((ihi hq.2).1 e1)) fun y e2 k2 => ?_
      split
      · exact fun r e3 h => by rw [idxA_same h]; exact k2
      · exact .bad
  | slc a lo hi iha ihl ihh =>
    refine ⟨fun e => ?_, fun e => .bad, fun e => .bad⟩
    simp only [quiet, Bool.and_eq_true] at hq
    simp only [ev]
    refine .bind ((iha hq.1.1).1 e) fun x e1 k1 => ?_
    split
    · exact .bad
    · refine .bind (.step tr k1 ((ihl hq.1.2).2.2 e1)) fun y e2 k2 => .bind (.step tr k2 ((ihh hq.2).2.2 e2)) fun z e3 k3 => ?_
      split
      · exact hV k3
      · exact .bad
  | nop => exact ⟨fun e => .bad, fun e => .bad, fun e => .ok (rf e)⟩
  | blt b es ih =>
    refine ⟨fun e => ?_, fun e => .bad, fun e => .bad⟩
    simp only [ev]
    refine .bind ((ih hq).2.1 e) fun x e1 k1 => ?_
    split
    · exact hV k1
    · exact .bad
  | pm p a es iha ihs =>
    refine ⟨fun e => ?_, fun e => .bad, fun e => .bad⟩
    simp only [quiet, Bool.and_eq_true] at hq
    simp only [ev]
    refine .bind ((iha hq.1).1 e) fun x e1 k1 => ?_
    split
    · exact .bad
    · split
      · split
        · exact .bad
        · refine .bind (.step tr k1 ((ihs hq.2).2.1 e1)) fun y e2 k2 => ?_
          split
          · exact hV k2
          · exact .bad
      · exact .bad
  | isi a t iha =>
    refine ⟨fun e => ?_, fun e => .bad, fun e => .bad⟩
    simp only [ev]
    refine .bind ((iha hq).1 e) fun x e1 k1 => ?_
    split
    · exact .ok k1
    · exact .bad
  | sp k a iha =>
    refine ⟨fun e => ?_, fun e => .bad, fun e => .bad⟩
    simp only [ev]
    refine .bind ((iha hq).1 e) fun x e1 k1 => ?_
    split
    · exact hV k1
    · exact .bad
  | fz i => simp [quiet] at hq
  | con x v => exact ⟨fun e => by simp only [ev]; exact .ok rfl, fun e => .bad, fun e => .bad⟩
  | lrg1 l a iha =>
    refine ⟨fun e => ?_, fun e => .bad, fun e => .bad⟩
    simp only [ev]
    refine .bind ((iha hq).1 e) fun x e1 k1 => ?_
    split
    · split
      · exact .ok k1
      · exact .bad
    · exact .bad
  | lrg2 l a b iha ihb =>
    refine ⟨fun e => ?_, fun e => .bad, fun e => .bad⟩
    simp only [quiet, Bool.and_eq_true] at hq
    simp only [ev]
    refine .bind ((iha hq.1).1 e) fun x e1 k1 => .bind (.step tr k1 ((ihb hq.2).1 e1)) fun y e2 k2 => ?_
    split
    · split
      · exact .ok k2
      · exact .bad
    · exact .bad
  | _ => exact absurd hq (by simp [quiet])
end Sh

/-! ShI: what an expression does, as the rules by values want it -/
namespace Sh
open PySem PySem.Spec PyProof.Rows L2

theorem Stp.mono {q q' : Bool} {S S' : AS} {H H' : Hp} {fo fo' g : List Addr} (h : Stp q S H fo S' H' fo' g) (e : q' = true → q = true) : Stp q' S H fo S' H' fo' g := by
  cases q' with
  | false => exact h.weak
  | true => obtain rfl := e rfl; exact h
theorem PE.imp {X : Cx} {e : Expr} {t t' : TE} (h : PE X e t) (k : ∀ σ H Q, t' σ H Q → t σ H Q) : PE X e t' := ⟨fun pins s σ H Q I q => h.run pins s σ H Q I (k σ H Q q)⟩
theorem PT.imp {X : Cx} {e : Expr} {t t' : TT} (h : PT X e t) (k : ∀ σ H Q, t' σ H Q → t σ H Q) : PT X e t' := ⟨fun pins s σ H Q I q => h.run pins s σ H Q I (k σ H Q q)⟩
theorem PW.imp {X : Cx} {e : Expr} {t t' : TT} (h : PW X e t) (k : ∀ σ H Q, t' σ H Q → t σ H Q) : PW X e t' := ⟨fun whole pins s σ H Q I q => h.run whole pins s σ H Q I (k σ H Q q)⟩
theorem PA.imp {X : Cx} {es : List Expr} {t t' : TA} (h : PA X es t) (k : ∀ σ H Q, t' σ H Q → t σ H Q) : PA X es t' := ⟨fun pos pins s σ H Q I q => h.run pos pins s σ H Q I (k σ H Q q)⟩
theorem PO.imp {X : Cx} {e : Option Expr} {t t' : TO} (h : PO X e t) (k : ∀ σ H Q, t' σ H Q → t σ H Q) : PO X e t' := ⟨fun pins s σ H Q I q => h.run pins s σ H Q I (k σ H Q q)⟩
theorem PTs.imp {X : Cx} {e : List Expr} {t t' : TT} (h : PTs X e t) (k : ∀ σ H Q, t' σ H Q → t σ H Q) : PTs X e t' := ⟨fun pins s σ H Q I q => h.run pins s σ H Q I (k σ H Q q)⟩
theorem PI.imp {X : Cx} {tg e : Expr} {t t' : TI} (h : PI X tg e t) (k : ∀ σ H Q, t' σ H Q → t σ H Q) : PI X tg e t' := ⟨fun pins s σ H Q I q => h.run pins s σ H Q I (k σ H Q q)⟩
theorem PI.or {X : Cx} {tg e : Expr} {t t' : TI} (h : PI X tg e t) (h' : PI X tg e t') : PI X tg e (fun σ H Q => t σ H Q ∨ t' σ H Q) := ⟨fun pins s σ H Q I q => q.elim (h.run pins s σ H Q I) (h'.run pins s σ H Q I)⟩

section
variable (K : KK) (c : Calls)
/-- what comes behind an expression -/
def KE (q : Bool) (S : AS) (H : Hp) (fo : List Addr) (e' : En) (σ : Sl) (a : Arg) (Q : VK) : Prop :=
  ∀ S' H' fo' w g, Stp q S H fo S' H' fo' g → Ow K S' H' (fo' ++ g) → ES K S' H' e' σ fo' → ArgR K S' H' e' σ a w g → Q w H'
def tEv (x : E) : TE := fun σ H Q => ∃ S e fo a e', ES K S H e σ fo ∧ Ow K S H fo ∧ ev K.kt c x e = .ok a e' ∧ KE K (quiet x) S H fo e' σ a Q
def tAr (x : E) : TA := fun σ H Q => ∃ S e fo as e', ES K S H e σ fo ∧ Ow K S H fo ∧ evs K.kt c x e = .ok as e' ∧
  ∀ S' H' fo' ws g, Stp (quiet x) S H fo S' H' fo' g → Ow K S' H' (fo' ++ g) → ES K S' H' e' σ fo' → ArgsR K S' H' e' σ as ws g → Q ws H'
/-- a value without a part of the heap -/
def KB {α : Type} (q : Bool) (S : AS) (H : Hp) (fo : List Addr) (e' : En) (σ : Sl) (k : α) (Q : α → Hp → Prop) : Prop :=
  ∀ S' H' fo', Stp q S H fo S' H' fo' [] → Ow K S' H' fo' → ES K S' H' e' σ fo' → Q k H'
def tO (x : E) : TO := fun σ H Q => ∃ S e fo o e', ES K S H e σ fo ∧ Ow K S H fo ∧ evO K.kt c x e = .ok o e' ∧ KB K (quiet x) S H fo e' σ o Q
def tTst (x : E) : TT := fun σ H Q => ∃ S e fo k e', ES K S H e σ fo ∧ Ow K S H fo ∧ ((ev K.kt c x e).bind fun a e => asB a e) = .ok k e' ∧ KB K (quiet x) S H fo e' σ k Q
def tTsts (x : E) : TT := fun σ H Q => ∃ S e fo k e', ES K S H e σ fo ∧ Ow K S H fo ∧ evC K.kt c x e = .ok k e' ∧ KB K (quiet x) S H fo e' σ k Q
end
section
variable {K : KK} {c : Calls} {q q1 : Bool} {S S1 : AS} {H H1 : Hp} {fo fo1 g1 : List Addr} {e e1 e' : En} {σ : Sl} {m : Mk} {v : Val} {Q : VK} {a b d x : E}
theorem Stp.nog (st : Stp q S H fo S1 H1 fo1 g1) : Stp q S H fo S1 H1 fo1 [] := st.sub fun _ h => absurd h (by simp)
theorem KE.give (k : KE K q S H fo e1 σ (.tmp m v) Q) (st : Stp q S H fo S1 H1 fo1 g1) (o : Ow K S1 H1 fo1) (E : ES K S1 H1 e1 σ fo1) : Gives K S1 H1 m v Q := fun S' H' w f s sm o' r => by
  have s1 : Stp (q && true) S H fo S' H' fo1 ([] ++ f) := st.nog.trans (Stp.plain (q := true) s sm)
  rw [Bool.and_true, List.nil_append] at s1
  refine k S' H' fo1 w f s1 ?_ (E.step s (by simp) (by simp) o.ds) r
  exact Ow.step (fo := []) o s o' fun x hx => (E.own x hx).some
theorem KE.bl {b : Bool} (k : KE K q S H fo e1 σ (.tmp .st (.bl b)) Q) (st : Stp q S H fo S1 H1 fo1 g1) (o : Ow K S1 H1 fo1) (E : ES K S1 H1 e1 σ fo1) : Q (.bl b) H1 := (k.give st o E).bl o
/-- two steps, the second's end -/
theorem KB.of {α : Type} {k : α} {Q : α → Hp → Prop} (h : KB K q S H fo e1 σ k Q) (st : Stp q S H fo S1 H1 fo1 g1) (o : Ow K S1 H1 fo1) (E : ES K S1 H1 e1 σ fo1) : Q k H1 := h S1 H1 fo1 st.nog o E
theorem asB_ok {a : Arg} {k : Bool} (h : asB a e = .ok k e') : e' = e ∧ ∃ m, a = .tmp m (.bl k) := by
  unfold asB at h
  split at h
  · cases h; exact ⟨rfl, _, rfl⟩
  · cases h
theorem optR_ok {α : Type} {o : Option α} {k : α} (h : optR o e = .ok k e') : e' = e ∧ o = some k := by
  unfold optR at h
  split at h
  · cases h; exact ⟨rfl, rfl⟩
  · cases h
theorem valR_ok {o : Option MV} {k : Arg} (h : valR o e = .ok k e') : e' = e ∧ ∃ r, o = some r ∧ k = .tmp r.1 r.2 := by
  unfold valR at h
  split at h
  · cases h; exact ⟨rfl, _, rfl, rfl⟩
  · cases h
theorem ArgR.bl {S : AS} {H : Hp} {w : V} {g : List Addr} {b : Bool} (h : ArgR K S H e σ (.tmp m (.bl b)) w g) : w = .bl b ∧ g = [] := Rep.inv_bl h
/-- a test by its value -/
theorem s_test {σ : Sl} {H : Hp} {Q : Bool → Hp → Prop} (h : tTst K c x σ H Q) : tB (tEv K c x) σ H Q := by
  obtain ⟨S, e, fo, k, e', E, O, r, h⟩ := h
  obtain ⟨a, e1, r1, r2⟩ := Res.bind_ok r
  obtain ⟨rfl, m, rfl⟩ := asB_ok r2
  refine ⟨S, e, fo, _, e', E, O, r1, fun S' H' fo' w g st o E' A => ?_⟩
  obtain ⟨rfl, rfl⟩ := A.bl
  exact ⟨k, rfl, h S' H' fo' st (by simpa using o) E'⟩
/-- an expression whose value is read in the next -/
theorem s_bool {σ : Sl} {H : Hp} {R : Bool → Hp → Prop} {k : Bool} (E : ES K S H e σ fo) (O : Ow K S H fo) (r : ((ev K.kt c x e).bind fun a e => asB a e) = .ok k e1)
    (h : ∀ S' H' fo', Stp (quiet x) S H fo S' H' fo' [] → Ow K S' H' fo' → ES K S' H' e1 σ fo' → R k H') : tTst K c x σ H R := ⟨S, e, fo, k, e1, E, O, r, h⟩
theorem s_boolV {σ : Sl} {H : Hp} {R : V → Hp → Prop} {k : Bool} (E : ES K S H e σ fo) (O : Ow K S H fo) (r : ((ev K.kt c x e).bind fun a e => asB a e) = .ok k e1)
    (h : ∀ S' H' fo', Stp (quiet x) S H fo S' H' fo' [] → Ow K S' H' fo' → ES K S' H' e1 σ fo' → R (.bl k) H') : tEv K c x σ H R := by
  obtain ⟨a, e2, r1, r2⟩ := Res.bind_ok r
  obtain ⟨rfl, m, rfl⟩ := asB_ok r2
  refine ⟨S, e, fo, _, e1, E, O, r1, fun S' H' fo' w g st o E' A => ?_⟩
  obtain ⟨rfl, rfl⟩ := A.bl
  exact h S' H' fo' st (by simpa using o) E'
theorem ev_quiet {x : E} {kt : Bool} {c : Calls} {a : Arg} {e e' : En} (r : ev kt c x e = .ok a e') (h : quiet x = true) : e' = e := (ev_same x h).1 e a e' r
theorem evs_quiet {x : E} {kt : Bool} {c : Calls} {a : List Arg} {e e' : En} (r : evs kt c x e = .ok a e') (h : quiet x = true) : e' = e := (ev_same x h).2.1 e a e' r
theorem evO_quiet {x : E} {kt : Bool} {c : Calls} {a : Option Int} {e e' : En} (r : evO kt c x e = .ok a e') (h : quiet x = true) : e' = e := (ev_same x h).2.2 e a e' r
theorem part_quiet {x : Arg} {b : Bool} (h : ¬ (isPart x && !b) = true) : isPart x = true → b = true := fun p => by
  rw [p] at h; simpa using h
/-- an expression, then more while its value lies aside -/
theorem s_next {σ : Sl} {H H1 : Hp} {x : Arg} {w : V} {S S1 S2 : AS} {fo fo1 fo2 g1 g2 : List Addr} {H2 : Hp} {e1 e2 : En} {qa qb : Bool} (st1 : Stp qa S H fo S1 H1 fo1 g1) (o1 : Ow K S1 H1 (fo1 ++ g1)) (A1 : ArgR K S1 H1 e1 σ x w g1)
    (hp : isPart x = true → qb = true ∧ e2 = e1) (st2 : Stp qb S1 H1 fo1 S2 H2 fo2 g2) (o2 : Ow K S2 H2 (fo2 ++ g2)) :
    Stp (qa && qb) S H fo S2 H2 fo2 (g1 ++ g2) ∧ Ow K S2 H2 (fo2 ++ (g1 ++ g2)) ∧ ArgR K S2 H2 e2 σ x w g1 :=
  ⟨st1.trans st2, Ow.next o1 st2 o2 fun y hy => (A1.own y hy).some, A1.next st2 o1 hp⟩
theorem s_two {σ : Sl} {H : Hp} {R : V → V → Hp → Prop} {x y : Arg} {e1 e2 : En} (r1 : ev K.kt c a e = .ok x e1) (r2 : ev K.kt c b e1 = .ok y e2) (hp : ¬ (isPart x && !quiet b) = true) (E : ES K S H e σ fo) (O : Ow K S H fo)
    (k : ∀ S2 H2 fo2 w1 g1 w2 g2, Stp (quiet a && quiet b) S H fo S2 H2 fo2 (g1 ++ g2) → Ow K S2 H2 (fo2 ++ (g1 ++ g2)) → ES K S2 H2 e2 σ fo2 → ArgR K S2 H2 e2 σ x w1 g1 → ArgR K S2 H2 e2 σ y w2 g2 → R w1 w2 H2) :
    tEv K c a σ H fun w1 H1 => tEv K c b σ H1 fun w2 H2 => R w1 w2 H2 :=
  ⟨S, e, fo, x, e1, E, O, r1, fun S1 H1 fo1 w1 g1 st1 o1 E1 A1 => ⟨S1, e1, fo1, y, e2, E1, o1.left, r2, fun S2 H2 fo2 w2 g2 st2 o2 E2 A2 => by
    obtain ⟨s, o, A⟩ := s_next (e2 := e2) st1 o1 A1 (fun p => ⟨part_quiet hp p, ev_quiet r2 (part_quiet hp p)⟩) st2 o2
    exact k S2 H2 fo2 w1 g1 w2 g2 s o E2 A A2⟩⟩
/-! ### one by one -/
theorem s_var {i : Nat} {σ : Sl} {H : Hp} {Q : VK} (h : tEv K c (.var i) σ H Q) : tVar i σ H Q := by
  obtain ⟨S, e, fo, a, e', E, O, r, h⟩ := h
  simp only [ev] at r
  split at r
  · rename_i s ei
    obtain ⟨rfl, r⟩ := optR_ok r
    cases s with
    | emp => cases r
    | val p m v =>
      obtain ⟨w, fl, fp, fr, e1, rfl, h1, _⟩ := E.get ei
      refine ⟨w, e1, ?_⟩
      cases m with
      | st =>
        cases r
        have := h1.st_nil
        subst this
        exact h S H _ w [] .refl (by simpa using O) E h1
      | l m => cases r; exact h S H _ w [] .refl (by simpa using O) E ⟨rfl, e1⟩
      | tn => cases r; exact h S H _ w [] .refl (by simpa using O) E ⟨rfl, e1⟩
      | pr => cases r; exact h S H _ w [] .refl (by simpa using O) E ⟨rfl, e1⟩
      | tc m m2 => cases r; exact h S H _ w [] .refl (by simpa using O) E ⟨rfl, e1⟩
  · cases r
theorem s_const {σ : Sl} {H : Hp} {Q : VK} {x : E} {v : Val} {w : V} (hx : ∀ e, ev K.kt c x e = .ok (.tmp .st v) e) (hw : ∀ S H, Rep K S H .st v w []) (h : tEv K c x σ H Q) : tC w σ H Q := by
  obtain ⟨S, e, fo, a, e', E, O, r, h⟩ := h
  rw [hx] at r; cases r
  exact h S H fo w [] .refl (by simpa using O) E (hw S H)
theorem s_bin {op : BOp} {σ : Sl} {H : Hp} {Q : VK} (h : tEv K c (.bin op a b) σ H Q) : tOp (rBin K.K op) (tEv K c a) (tEv K c b) σ H Q := by
  obtain ⟨S, e, fo, z, e', E, O, r, h⟩ := h
  obtain ⟨x, e1, r1, r⟩ := Res.bind_ok r
  split at r
  · cases r
  · rename_i hp
    obtain ⟨y, e2, r2, r⟩ := Res.bind_ok r
    split at r
    · rename_i u v hu hv
      obtain ⟨rfl, t, ht, rfl⟩ := valR_ok r
      refine s_two r1 r2 hp E O fun S2 H2 fo2 w1 g1 w2 g2 st o E2 A1 A2 => ?_
      obtain ⟨f1, R1⟩ := readA_snd hu E2 A1
      obtain ⟨f2, R2⟩ := readA_snd hv E2 A2
      exact binV_snd ht R1 R2 o (h.give st o.left E2)
    · cases r
theorem s_neg {σ : Sl} {H : Hp} {Q : VK} (h : tEv K c (.neg a) σ H Q) : tUn (rU fun i => .int (-i)) (tEv K c a) σ H Q := by
  obtain ⟨S, e, fo, z, e', E, O, r, h⟩ := h
  obtain ⟨x, e1, r1, r⟩ := Res.bind_ok r
  split at r
  · cases r
    refine ⟨S, e, fo, _, _, E, O, r1, fun S1 H1 fo1 w1 g1 st1 o1 E1 A1 => ?_⟩
    obtain ⟨rfl, rfl⟩ := Rep.inv_int A1
    exact ⟨_, rfl, (h.give st1 o1.left E1).int o1.left⟩
  · cases r
theorem s_cmp {op : COp} {σ : Sl} {H : Hp} {Q : VK} (h : tEv K c (.cmp op a b) σ H Q) : tOp (rCmp K.K op) (tEv K c a) (tEv K c b) σ H Q := by
  obtain ⟨S, e, fo, z, e', E, O, r, h⟩ := h
  obtain ⟨x, e1, r1, r⟩ := Res.bind_ok r
  split at r
  · cases r
  · rename_i hp
    obtain ⟨y, e2, r2, r⟩ := Res.bind_ok r
    split at r
    · rename_i u v hu hv
      obtain ⟨rfl, rr⟩ := optR_ok r
      obtain ⟨k, hk, rfl⟩ := Option.map_eq_some_iff.mp rr
      refine s_two r1 r2 hp E O fun S2 H2 fo2 w1 g1 w2 g2 st o E2 A1 A2 => ?_
      obtain ⟨f1, R1⟩ := readA_snd hu E2 A1
      obtain ⟨f2, R2⟩ := readA_snd hv E2 A2
      exact cmpV_snd hk R1 R2 (h.bl st o.left E2)
    · cases r
theorem s_chn {op op' : COp} {σ : Sl} {H : Hp} {Q : VK} (h : tEv K c (.chn op op' a b d) σ H Q) : tChain (rCmp K.K op) (rCmp K.K op') (tEv K c a) (tEv K c b) (tEv K c d) σ H Q := by
  obtain ⟨S, e, fo, z, e', E, O, r, h⟩ := h
  obtain ⟨x, e1, r1, r⟩ := Res.bind_ok r
  obtain ⟨y, e2, r2, r⟩ := Res.bind_ok r
  split at r
  · rename_i u m2 v _
    refine s_two r1 r2 (by simp [isPart]) E O fun S2 H2 fo2 w1 g1 w2 g2 st o E2 A1 A2 => ?_
    split at r
    · rename_i hc
      obtain ⟨z', e3, r3, r⟩ := Res.bind_ok r
      split at r
      · rename_i m3 w
        obtain ⟨rfl, rr⟩ := optR_ok r
        obtain ⟨k, hk, rfl⟩ := Option.map_eq_some_iff.mp rr
        refine cmpV_snd hc A1 A2 ⟨true, rfl, ?_⟩
        rw [if_pos rfl]
        refine ⟨S2, e2, fo2, _, _, E2, o.left, r3, fun S3 H3 fo3 w3 g3 st3 o3 E3 A3 => ?_⟩
        have on : Ow K S3 H3 (fo3 ++ ((g1 ++ g2) ++ g3)) := Ow.next o st3 o3 fun y hy => (List.mem_append.mp hy).elim (fun z => (A1.own y z).some) fun z => (A2.own y z).some
        have A2' : ArgR K S3 H3 e' σ (.tmp m2 v) w2 g2 := A2.next st3 (o.sub ((List.Sublist.refl _).append (List.sublist_append_right _ _))) fun p => by simp [isPart] at p
        exact cmpV_snd hk A2' A3 (h.bl (st.trans st3) on.left E3)
      · cases r
    · rename_i hc
      cases r
      refine cmpV_snd hc A1 A2 ⟨false, rfl, ?_⟩
      rw [if_neg (by simp)]
      exact h.bl (show Stp (quiet (.chn op op' a b d)) S H fo S2 H2 fo2 (g1 ++ g2) from st.mono fun q => by simp only [quiet, Bool.and_eq_true] at q ⊢; exact ⟨q.1.1, q.1.2⟩) o.left E2
    · cases r
  · cases r
theorem s_and {σ : Sl} {H : Hp} {Q : VK} (h : tEv K c (.and a b) σ H Q) : tAndV (tEv K c a) (tEv K c b) σ H Q := by
  obtain ⟨S, e, fo, z, e', E, O, r, h⟩ := h
  obtain ⟨x, e1, r1, r⟩ := Res.bind_ok r
  obtain ⟨k, e2, r2, r⟩ := Res.bind_ok r
  refine s_boolV E O (show _ = Res.ok k e2 by rw [r1]; exact r2) fun S1 H1 fo1 st1 o1 E1 => ⟨k, rfl, ?_⟩
  split at r
  · rename_i hk
    rw [if_pos hk]
    refine ⟨S1, e2, fo1, z, e', E1, o1, r, fun S2 H2 fo2 w2 g2 st2 o2 E2 A2 => ?_⟩
    exact h S2 H2 fo2 w2 g2 (st1.trans st2) o2 E2 A2
  · rename_i hk
    cases r
    rw [if_neg hk]
    exact h.bl (show Stp (quiet a && quiet b) S H fo S1 H1 fo1 [] from st1.mono fun q => by simp only [Bool.and_eq_true] at q; exact q.1) o1 E1
theorem s_or {σ : Sl} {H : Hp} {Q : VK} (h : tEv K c (.or a b) σ H Q) : tOrV (tEv K c a) (tEv K c b) σ H Q := by
  obtain ⟨S, e, fo, z, e', E, O, r, h⟩ := h
  obtain ⟨x, e1, r1, r⟩ := Res.bind_ok r
  obtain ⟨k, e2, r2, r⟩ := Res.bind_ok r
  refine s_boolV E O (show _ = Res.ok k e2 by rw [r1]; exact r2) fun S1 H1 fo1 st1 o1 E1 => ⟨k, rfl, ?_⟩
  split at r
  · rename_i hk
    cases r
    rw [if_pos hk]
    exact h.bl (show Stp (quiet a && quiet b) S H fo S1 H1 fo1 [] from st1.mono fun q => by simp only [Bool.and_eq_true] at q; exact q.1) o1 E1
  · rename_i hk
    rw [if_neg hk]
    refine ⟨S1, e2, fo1, z, e', E1, o1, r, fun S2 H2 fo2 w2 g2 st2 o2 E2 A2 => ?_⟩
    exact h S2 H2 fo2 w2 g2 (st1.trans st2) o2 E2 A2
theorem t_and {σ : Sl} {H : Hp} {Q : Bool → Hp → Prop} (h : tTst K c (.and a b) σ H Q) : tAnd (tTst K c a) (tTst K c b) σ H Q := by
  obtain ⟨S, e, fo, z, e', E, O, r, h⟩ := h
  obtain ⟨t, e3, r0, r3⟩ := Res.bind_ok r
  obtain ⟨x, e1, r1, r⟩ := Res.bind_ok r0
  obtain ⟨k, e2, r2, r⟩ := Res.bind_ok r
  refine ⟨S, e, fo, k, e2, E, O, by rw [r1]; exact r2, fun S1 H1 fo1 st1 o1 E1 => ?_⟩
  split at r
  · rename_i hk
    rw [if_pos hk]
    refine ⟨S1, e2, fo1, z, e', E1, o1, by rw [r]; exact r3, fun S2 H2 fo2 st2 o2 E2 => ?_⟩
    exact h S2 H2 fo2 (st1.trans st2) o2 E2
  · rename_i hk
    cases r
    cases r3
    rw [if_neg hk]
    exact h S1 H1 fo1 (show Stp (quiet a && quiet b) S H fo S1 H1 fo1 [] from st1.mono fun q => by simp only [Bool.and_eq_true] at q; exact q.1) o1 E1
theorem t_or {σ : Sl} {H : Hp} {Q : Bool → Hp → Prop} (h : tTst K c (.or a b) σ H Q) : tOr (tTst K c a) (tTst K c b) σ H Q := by
  obtain ⟨S, e, fo, z, e', E, O, r, h⟩ := h
  obtain ⟨t, e3, r0, r3⟩ := Res.bind_ok r
  obtain ⟨x, e1, r1, r⟩ := Res.bind_ok r0
  obtain ⟨k, e2, r2, r⟩ := Res.bind_ok r
  refine ⟨S, e, fo, k, e2, E, O, by rw [r1]; exact r2, fun S1 H1 fo1 st1 o1 E1 => ?_⟩
  split at r
  · rename_i hk
    cases r
    cases r3
    rw [if_pos hk]
    exact h S1 H1 fo1 (show Stp (quiet a && quiet b) S H fo S1 H1 fo1 [] from st1.mono fun q => by simp only [Bool.and_eq_true] at q; exact q.1) o1 E1
  · rename_i hk
    rw [if_neg hk]
    refine ⟨S1, e2, fo1, z, e', E1, o1, by rw [r]; exact r3, fun S2 H2 fo2 st2 o2 E2 => ?_⟩
    exact h S2 H2 fo2 (st1.trans st2) o2 E2
theorem s_not {σ : Sl} {H : Hp} {Q : VK} (h : tEv K c (.not a) σ H Q) : tNotV (tEv K c a) σ H Q := by
  obtain ⟨S, e, fo, z, e', E, O, r, h⟩ := h
  obtain ⟨x, e1, r1, r⟩ := Res.bind_ok r
  obtain ⟨k, e2, r2, r⟩ := Res.bind_ok r
  cases r
  exact s_boolV E O (show _ = Res.ok k e' by rw [r1]; exact r2) fun S1 H1 fo1 st1 o1 E1 => ⟨k, rfl, h.bl (g1 := []) st1 o1 E1⟩
theorem t_not {σ : Sl} {H : Hp} {Q : Bool → Hp → Prop} (h : tTst K c (.not a) σ H Q) : tNot (tTst K c a) σ H Q := by
  obtain ⟨S, e, fo, z, e', E, O, r, h⟩ := h
  obtain ⟨t, e3, r0, r3⟩ := Res.bind_ok r
  obtain ⟨x, e1, r1, r⟩ := Res.bind_ok r0
  obtain ⟨k, e2, r2, r⟩ := Res.bind_ok r
  cases r
  cases r3
  exact ⟨S, e, fo, k, e', E, O, by rw [r1]; exact r2, fun S1 H1 fo1 st1 o1 E1 => h S1 H1 fo1 st1 o1 E1⟩
theorem s_ite {t : E} {σ : Sl} {H : Hp} {Q : VK} (h : tEv K c (.ite t a b) σ H Q) : tIf (tTst K c t) (tEv K c a) (tEv K c b) σ H Q := by
  obtain ⟨S, e, fo, z, e', E, O, r, h⟩ := h
  obtain ⟨x, e1, r1, r⟩ := Res.bind_ok r
  obtain ⟨k, e2, r2, r⟩ := Res.bind_ok r
  refine ⟨S, e, fo, k, e2, E, O, by rw [r1]; exact r2, fun S1 H1 fo1 st1 o1 E1 => ?_⟩
  split at r
  · rename_i hk
    rw [if_pos hk]
    refine ⟨S1, e2, fo1, z, e', E1, o1, r, fun S2 H2 fo2 w2 g2 st2 o2 E2 A2 => ?_⟩
    exact h S2 H2 fo2 w2 g2 ((st1.trans st2).mono fun q => by simp only [quiet, Bool.and_eq_true] at q ⊢; exact ⟨q.1.1, q.1.2⟩) o2 E2 A2
  · rename_i hk
    rw [if_neg hk]
    refine ⟨S1, e2, fo1, z, e', E1, o1, r, fun S2 H2 fo2 w2 g2 st2 o2 E2 A2 => ?_⟩
    exact h S2 H2 fo2 w2 g2 ((st1.trans st2).mono fun q => by simp only [quiet, Bool.and_eq_true] at q ⊢; exact ⟨q.1.1, q.2⟩) o2 E2 A2
/-! ### lists of expressions -/
theorem s_nil {σ : Sl} {H : Hp} {Q : List V → Hp → Prop} (h : tAr K c .nil σ H Q) : tNil σ H Q := by
  obtain ⟨S, e, fo, z, e', E, O, r, h⟩ := h
  cases r
  exact h S H fo [] [] .refl (by simpa using O) E .nil
theorem s_cons {σ : Sl} {H : Hp} {Q : List V → Hp → Prop} (h : tAr K c (.cons a b) σ H Q) : tCons (tEv K c a) (tAr K c b) σ H Q := by
  obtain ⟨S, e, fo, z, e', E, O, r, h⟩ := h
  obtain ⟨x, e1, r1, r⟩ := Res.bind_ok r
  split at r
  · cases r
  · rename_i hp
    obtain ⟨xs, e2, r2, r⟩ := Res.bind_ok r
    cases r
    refine ⟨S, e, fo, x, e1, E, O, r1, fun S1 H1 fo1 w1 g1 st1 o1 E1 A1 => ⟨S1, e1, fo1, xs, _, E1, o1.left, r2, fun S2 H2 fo2 w2 g2 st2 o2 E2 A2 => ?_⟩⟩
    obtain ⟨s, o, A⟩ := s_next (e2 := e') st1 o1 A1 (fun p => ⟨part_quiet hp p, evs_quiet r2 (part_quiet hp p)⟩) st2 o2
    exact h S2 H2 fo2 _ _ s o E2 (.cons A A2)
/-- taken: the heap as it is -/
theorem TookN.stp {q : Bool} {S : AS} {H : Hp} {σ : Sl} {S1 S2 : AS} {H1 : Hp} {fo fo1 g1 fo2 g2 : List Addr} {e2 : En} {vs : List MV} {ws : List V} (t : TookN K S1 H1 σ fo1 g1 e2 vs ws S2 fo2 g2) (st : Stp q S H fo S1 H1 fo1 g1) (o1 : Ow K S1 H1 (fo1 ++ g1)) (hf : ∀ a ∈ fo1 ++ g1, H1 a ≠ Option.none) :
    Stp false S H fo S2 H1 fo2 g2 ∧ Ow K S2 H1 (fo2 ++ g2) :=
  ⟨.of (Step.trans0 st.full (step_of hf t.stab t.new t.mem)), t.ow o1 hf⟩
theorem RA.tc {vs : List MV} {ws : List V} {f : List Addr} (h : RA K S H vs ws f) : RS K S H (if vs.all (fun v => v.1 = .st) then .st else mkc vs) (vs.map (·.2)) ws f := by
  split
  · rename_i hs
    unfold RA at h
    induction vs generalizing ws f with
    | nil => obtain ⟨rfl, rfl⟩ := h.nil_inv; exact .nil _
    | cons v vs ih =>
      obtain ⟨w, ws', fp, fr, rfl, rfl, h1, h2⟩ := h.uncons
      simp only [List.all_cons, Bool.and_eq_true] at hs
      have e1 : v.1 = .st := by simpa using hs.1
      refine RS.cons (mk := .st) ?_ (ih h2 hs.2)
      have h1 : Rep K S H v.1 v.2 w fp := h1
      rw [e1] at h1; exact h1
  · exact h
theorem tupMk_l (vs : List MV) : (tupMk vs).isL = false := by
  unfold tupMk
  split
  · rfl
  · cases vs <;> rfl
theorem s_tup {σ : Sl} {H : Hp} {Q : VK} (h : tEv K c (.tup a) σ H Q) : tTupF (tAr K c a) σ H Q := by
  obtain ⟨S, e, fo, z, e', E, O, r, h⟩ := h
  obtain ⟨as, e1, r1, r⟩ := Res.bind_ok r
  obtain ⟨vs, e2, r2, r⟩ := Res.bind_ok r
  split at r
  · rename_i hl
    cases r
    refine ⟨S, e, fo, as, e1, E, O, r1, fun S1 H1 fo1 ws g1 st1 o1 E1 A1 => ?_⟩
    obtain ⟨S2, fo2, g2, t⟩ := takeAs_snd r2 E1 o1 A1
    have hf : ∀ a ∈ fo1 ++ g1, H1 a ≠ Option.none := fun a ha => (List.mem_append.mp ha).elim (fun z => (E1.own a z).some) fun z => (A1.own a z).some
    obtain ⟨st2, o2⟩ := t.stp st1 o1 hf
    have len : ws.length = vs.length := by have := RS.length t.rep; simpa using this
    refine ⟨by rw [len]; exact hl, fun p its hp => ?_⟩
    have nd : p ∉ fo2 ++ g2 := fun hm => hf p (t.mem p hm) hp
    have sN : Step S2 H1 (fo2 ++ g2) S2 (upd H1 p (.frz (tupO its) (.tup ws))) (fo2 ++ g2) := Step.newS hp
    have st3 := Step.trans0 st2.full sN
    refine h S2 _ fo2 (.ref p) g2 (.of st3) ?_ ?_ ?_
    · exact ⟨o2.nd, o2.ds, sN.live o2.live⟩
    · exact t.es.keep fun _ r => RS.laid r hp
    · exact Rep.tup (tupMk_l vs) (.new upd_same) (RS.laid (RA.tc t.rep) hp)
  · cases r
theorem fits_snd {m : Mk} : ∀ {vs : List MV} {xs : List Val} {ws : List V} {f : List Addr}, fits m vs = some xs → RA K S H vs ws f → ∃ (S' : AS) (f' : List Addr), (∀ a, S a → S' a) ∧ f'.Sublist f ∧ (∀ a, S' a → S a ∨ (a ∈ f ∧ (f.Nodup → a ∉ f'))) ∧ RS K S' H (.l m) xs ws f'
  | [], xs, ws, f, h, r => by
    cases h
    obtain ⟨rfl, rfl⟩ := RS.nil_inv r
    exact ⟨S, [], fun _ h => h, List.Sublist.refl _, fun a h => .inl h, .nil _⟩
  | v :: vs, xs, ws, f, h, r => by
    simp only [fits] at h
    split at h
    · rename_i x xs' h1 h2
      cases h
      obtain ⟨w, ws', fp, fr, rfl, rfl, r1, r2⟩ := RS.uncons r
      obtain ⟨S1, f1, a1, a2, a3, a4⟩ := fits_snd h2 (show RA K S H vs ws' fr from r2)
      have r1 : Rep K S H v.1 v.2 w fp := r1
      unfold fit at h1
      split at h1
      · rename_i hm
        cases h1
        by_cases e1 : v.1 = m
        · refine ⟨S1, fp ++ f1, a1, (List.Sublist.refl _).append a2, fun a s => ?_, RS.cons (mk := .l m) ?_ a4⟩
          · refine (a3 a s).imp_right fun ⟨z1, z2⟩ => ⟨List.mem_append_right _ z1, fun nd hm => ?_⟩
            have nd' := List.nodup_append.mp nd
            rcases List.mem_append.mp hm with y | y
            · exact nd'.2.2 a y a z1 rfl
            · exact z2 nd'.2.1 y
          · rw [e1] at r1; exact RS.growS r1 a1
        · have e2 : m = .st := hm.resolve_left e1
          subst e2
          refine ⟨fun a => S1 a ∨ a ∈ fp, f1, fun a s => .inl (a1 a s), a2.trans (List.sublist_append_right _ _), fun a s => ?_, ?_⟩
          · rcases s with s | s
            · exact (a3 a s).imp_right fun ⟨z1, z2⟩ => ⟨List.mem_append_right _ z1, fun nd hm => z2 (List.nodup_append.mp nd).2.1 hm⟩
            · exact .inr ⟨List.mem_append_left _ s, fun nd hm => (List.nodup_append.mp nd).2.2 a s a (a2.subset hm) rfl⟩
          · have := RS.cons (mk := .l .st) (Rep.st_of (S' := fun a => S1 a ∨ a ∈ fp) r1 (fun a s => .inl (a1 a s)) fun a ha => .inr ha) (RS.growS a4 fun a s => .inl s)
            exact this
      · cases h1
    · cases h
/-- what is taken and goes into a list -/
theorem TookN.fits {m : Mk} {σ : Sl} {S1 S2 : AS} {H1 : Hp} {fo1 g1 fo2 g2 : List Addr} {e2 : En} {vs : List MV} {ws : List V} {xs : List Val} (t : TookN K S1 H1 σ fo1 g1 e2 vs ws S2 fo2 g2) (hx : fits m vs = some xs) :
    ∃ S3 g3, (∀ a, S1 a → S3 a) ∧ (fo2 ++ g3).Nodup ∧ (∀ a ∈ fo2 ++ g3, a ∈ fo1 ++ g1) ∧ (∀ a, S3 a → S1 a ∨ (a ∈ fo1 ++ g1 ∧ a ∉ fo2 ++ g3)) ∧ ES K S3 H1 e2 σ fo2 ∧ RS K S3 H1 (.l m) xs ws g3 := by
  obtain ⟨S3, g3, a1, a2, a3, a4⟩ := fits_snd hx t.rep
  have nd2 : g2.Nodup := (List.nodup_append.mp t.nd).2.1
  have sub : (fo2 ++ g3).Sublist (fo2 ++ g2) := (List.Sublist.refl _).append a2
  refine ⟨S3, g3, fun a s => a1 a (t.stab a s), t.nd.sublist sub, fun a ha => t.mem a (sub.subset ha), fun a s => ?_, t.es.keep fun _ r => r.growS a1, a4⟩
  rcases a3 a s with z | ⟨z1, z2⟩
  · exact (t.new a z).imp_right fun ⟨y1, y2⟩ => ⟨y1, fun hm => y2 (sub.subset hm)⟩
  · refine .inr ⟨t.mem a (List.mem_append_right _ z1), fun hm => ?_⟩
    rcases List.mem_append.mp hm with y | y
    · exact (List.nodup_append.mp t.nd).2.2 a y a z1 rfl
    · exact z2 nd2 y
theorem s_lst {m : Mk} {σ : Sl} {H : Hp} {Q : VK} (h : tEv K c (.lst m a) σ H Q) : tLst (tAr K c a) σ H Q := by
  obtain ⟨S, e, fo, z, e', E, O, r, h⟩ := h
  obtain ⟨as, e1, r1, r⟩ := Res.bind_ok r
  obtain ⟨vs, e2, r2, r⟩ := Res.bind_ok r
  split at r
  · rename_i xs hx
    split at r
    · rename_i hl
      cases r
      refine ⟨S, e, fo, as, e1, E, O, r1, fun S1 H1 fo1 ws g1 st1 o1 E1 A1 => ?_⟩
      obtain ⟨S2, fo2, g2, t⟩ := takeAs_snd r2 E1 o1 A1
      have hf : ∀ a ∈ fo1 ++ g1, H1 a ≠ Option.none := fun a ha => (List.mem_append.mp ha).elim (fun z => (E1.own a z).some) fun z => (A1.own a z).some
      obtain ⟨S3, g3, b1, b2, b3, b4, b5, b6⟩ := t.fits hx
      have len : ws.length = xs.length := RS.length b6
      refine ⟨by rw [len]; exact hl, fun p hp => ?_⟩
      have o3 : Ow K S3 H1 (fo2 ++ g3) := ⟨b2, fun a ha s => (b4 a s).elim (fun z => o1.ds a (b3 a ha) z) fun z => z.2 ha, live_of o1.live hf b4 b1⟩
      have s3 : Step S1 H1 (fo1 ++ g1) S3 H1 (fo2 ++ g3) := step_of hf b1 b4 b3
      have np : p ∉ fo2 ++ g3 := fun hm => hf p (b3 p hm) hp
      have sp : ¬ S3 p := fun s => o3.live.1 p s hp
      have sN : Step S3 H1 (fo2 ++ g3) S3 (upd H1 p (.lst ws)) (fo2 ++ (p :: g3)) := (Step.newO hp).perm fun x hx => by
        simp only [List.mem_append, List.mem_cons] at hx ⊢
        rcases hx with h | h | h
        · exact .inr (.inl h)
        · exact .inl h
        · exact .inr (.inr h)
      refine h S3 _ fo2 (.ref p) (p :: g3) (.of (Step.trans0 (Step.trans0 st1.full s3) sN)) ?_ ?_ ?_
      · refine ⟨?_, fun a ha s => ?_, sN.live o3.live⟩
        · rw [List.nodup_append] at b2 ⊢
          simp only [List.mem_append, not_or] at np
          refine ⟨b2.1, List.nodup_cons.mpr ⟨np.2, b2.2.1⟩, fun a ha b hb => ?_⟩
          rcases List.mem_cons.mp hb with rfl | hb
          · exact fun e => np.1 (e ▸ ha)
          · exact b2.2.2 a ha b hb
        · simp only [List.mem_append, List.mem_cons] at ha
          rcases ha with h | h | h
          · exact o3.ds a (List.mem_append_left _ h) s
          · exact sp (h ▸ s)
          · exact o3.ds a (List.mem_append_right _ h) s
      · exact b5.keep fun _ r => RS.laid r hp
      · exact Rep.lstO upd_same (RS.laid b6 hp)
    · cases r
  · cases r
end
end Sh

/-! ShJ: subscripts, slices, builtins, new dicts -/
namespace Sh
open PySem PySem.Spec PyProof.Rows L2
section
variable {K : KK} {c : Calls} {q q1 : Bool} {S S1 : AS} {H H1 : Hp} {fo fo1 g1 : List Addr} {e e1 e' : En} {σ : Sl} {m : Mk} {v : Val} {Q : VK} {a b d x : E}
theorem s_idx {i : E} {σ : Sl} {H : Hp} {Q : VK} (h : tEv K c (.idx a i) σ H Q) : tOp (rIxA K.K) (tEv K c a) (tEv K c i) σ H Q := by
  obtain ⟨S, e, fo, z, e', E, O, r, h⟩ := h
  obtain ⟨x, e1, r1, r⟩ := Res.bind_ok r
  split at r
  · cases r
  · rename_i hp
    obtain ⟨y, e2, r2, r⟩ := Res.bind_ok r
    split at r
    · rename_i v hv
      refine s_two r1 r2 hp E O fun S2 H2 fo2 w1 g1 w2 g2 st o E2 A1 A2 => ?_
      obtain ⟨f2, R2⟩ := readA_snd hv E2 A2
      unfold idxA at r
      split at r
      · cases r
      · rename_i mv hmv
        split at r
        · cases r
        · rename_i m w hix
          have str : ∀ {ch : Str}, z = .tmp .st (.str ch) → e2 = e' → Q (.str ch) H2 := fun hz he => by
            subst hz he
            exact (h.give st o.left E2).str o.left
          cases x with
          | tmp m0 v0 =>
            cases hmv; cases r
            refine idxV_snd hix A1 R2 (fun w' P _ => ?_) fun ch hc => by cases hc; exact str rfl rfl
            obtain ⟨fl, fp, fr, rfl, Rw⟩ := P
            refine h S2 H2 fo2 w' fp (st.sub fun y hy => by simp [hy]) (o.sub ((List.Sublist.refl _).append ?_)) E2 Rw
            exact ((List.sublist_append_left fp fr).trans (List.sublist_append_right fl _)).trans (List.sublist_append_left _ _)
          | slot j =>
            simp only [readA] at hmv
            split at hmv
            · rename_i p m0 v0 ei
              cases hmv
              obtain ⟨w0, fl, fp, fr, hσ, rfl, R1, _⟩ := E2.get ei
              obtain ⟨rfl, hw⟩ := A1
              rw [hw] at hσ; cases hσ
              refine idxV_snd hix R1 R2 (fun w' P Pl => ?_) fun ch hc => by
                cases hc
                simp only [if_true] at r
                cases r; exact str rfl rfl
              simp only at r
              split at r
              · rename_i hm
                cases r; subst hm
                obtain ⟨gl, gp, gr, rfl, Rw⟩ := P
                have := Rw.st_nil
                subst this
                exact h S2 H2 _ w' [] st.nog (by simpa using o.left) E2 Rw
              · cases r
                refine h S2 H2 _ w' [] st.nog (by simpa using o.left) E2 ⟨rfl, p, m0, v0, w1, fp, ei, hw, R1, P, fun hl => ?_⟩
                refine Pl ?_
                split at hl
                · assumption
                · cases hl
            · cases hmv
          | part j low m1 v1 =>
            cases hmv
            obtain ⟨rfl, p, m0, v0, w0, f0, ei, hw, R0, ⟨fl, fp, fr, rfl, R1⟩, _⟩ := A1
            refine idxV_snd hix R1 R2 (fun w' P _ => ?_) fun ch hc => by
                cases hc
                simp only [if_true] at r
                cases r; exact str rfl rfl
            simp only at r
            split at r
            · rename_i hm
              cases r; subst hm
              obtain ⟨gl, gp, gr, rfl, Rw⟩ := P
              have := Rw.st_nil
              subst this
              exact h S2 H2 _ w' [] st.nog (by simpa using o.left) E2 Rw
            · cases r
              refine h S2 H2 _ w' [] st.nog (by simpa using o.left) E2 ⟨rfl, p, m0, v0, w0, _, ei, hw, R0, ?_, fun hl => by cases hl⟩
              obtain ⟨gl, gp, gr, rfl, Rw⟩ := P
              exact ⟨fl ++ gl, gp, gr ++ fr, by simp, Rw⟩
    · cases r
theorem s_nop {σ : Sl} {H : Hp} {Q : Option Int → Hp → Prop} (h : tO K c .nop σ H Q) : tNoPart σ H Q := by
  obtain ⟨S, e, fo, z, e', E, O, r, h⟩ := h
  cases r
  exact h.of (g1 := []) .refl O E
theorem s_one {σ : Sl} {H : Hp} {Q : Option Int → Hp → Prop} (h : tO K c (.one a) σ H Q) : tPart (tEv K c a) σ H Q := by
  obtain ⟨S, e, fo, z, e', E, O, r, h⟩ := h
  obtain ⟨x, e1, r1, r⟩ := Res.bind_ok r
  split at r
  · cases r
    refine ⟨S, e, fo, _, _, E, O, r1, fun S1 H1 fo1 w1 g1 st o E1 A1 => ?_⟩
    obtain ⟨rfl, rfl⟩ := Rep.inv_int A1
    exact ⟨_, rfl, h.of (g1 := []) st o.left E1⟩
  · cases r
theorem s_slc {lo hi : E} {σ : Sl} {H : Hp} {Q : VK} (h : tEv K c (.slc a lo hi) σ H Q) : tSl (rSlAll K.K) (tEv K c a) (tO K c lo) (tO K c hi) σ H Q := by
  obtain ⟨S, e, fo, z, e', E, O, r, h⟩ := h
  obtain ⟨x, e1, r1, r⟩ := Res.bind_ok r
  split at r
  · cases r
  · rename_i hp
    obtain ⟨l, e2, r2, r⟩ := Res.bind_ok r
    obtain ⟨u, e3, r3, r⟩ := Res.bind_ok r
    split at r
    · rename_i mv hmv
      obtain ⟨rfl, t, ht, rfl⟩ := valR_ok r
      refine ⟨S, e, fo, x, e1, E, O, r1, fun S1 H1 fo1 w1 g1 st1 o1 E1 A1 => ⟨S1, e1, fo1, l, e2, E1, o1.left, r2, fun S2 H2 fo2 st2 o2 E2 => ⟨S2, e2, fo2, u, e', E2, o2, r3, fun S3 H3 fo3 st3 o3 E3 => ?_⟩⟩⟩
      have pq : isPart x = true → quiet lo = true ∧ quiet hi = true := fun p => by
        have := part_quiet hp p
        rwa [Bool.and_eq_true] at this
      obtain ⟨s, o, A⟩ := s_next (e2 := e2) st1 o1 A1 (fun p => ⟨(pq p).1, evO_quiet r2 (pq p).1⟩) st2 (by simpa using o2)
      rw [List.append_nil] at s o
      obtain ⟨s', o', A'⟩ := s_next (e2 := e') s o A (fun p => ⟨(pq p).2, evO_quiet r3 (pq p).2⟩) st3 (by simpa using o3)
      obtain ⟨f1, R1⟩ := readA_snd hmv E3 A'
      exact slcV_snd ht R1 o' (h.give s' o'.left E3)
    · cases r
theorem s_blt {b : Blt} {σ : Sl} {H : Hp} {Q : VK} (h : tEv K c (.blt b a) σ H Q) : tCB (rBlt K.K b) (tAr K c a) σ H Q := by
  obtain ⟨S, e, fo, z, e', E, O, r, h⟩ := h
  obtain ⟨as, e1, r1, r⟩ := Res.bind_ok r
  split at r
  · rename_i vs hvs
    obtain ⟨rfl, t, ht, rfl⟩ := valR_ok r
    refine ⟨S, e, fo, as, e', E, O, r1, fun S1 H1 fo1 ws g1 st1 o1 E1 A1 => ?_⟩
    obtain ⟨f, R⟩ := readAs_snd hvs E1 A1
    exact bltV_snd ht R o1 (h.give st1 o1.left E1)
  · cases r
theorem s_dnew {σ : Sl} {H : Hp} {Q : VK} {x : E} {v : Val} {o : HO} (hx : ∀ e, ev K.kt c x e = .ok (.tmp (.l m) v) e) (hw : ∀ S H p, H p = some o → Rep K S H (.l m) v (.ref p) [p]) (h : tEv K c x σ H Q) : ∀ p, H p = none → Q (.ref p) (upd H p o) := fun p hp => by
  obtain ⟨S, e, fo, a, e', E, O, r, h⟩ := h
  rw [hx] at r; cases r
  have g := h.give (g1 := []) (Stp.refl) O E
  have ns : ¬ S p := fun s => O.live.1 p s hp
  refine g S _ _ [p] (Step.newO hp) (fun a h => upd_ne fun e => h (by rw [e]; exact hp)) ⟨by simp, fun a ha => ?_, Step.live (Step.newO (fo := []) hp) O.live⟩ (hw _ _ _ upd_same)
  have : a = p := by simpa using ha
  subst this; exact ns
theorem s_dnk {σ : Sl} {H : Hp} {Q : VK} (h : tEv K c (.dnk m) σ H Q) : tDNewK σ H Q := s_dnew (fun _ => rfl) (fun S H p hp => by
  have := RS.dkO (mk := .tc (.l m) .tn) (K := K) (S := S) (H := H) (kvs := []) (ws := []) rfl hp rfl (.nil _) (.nil _)
  simpa [Rep] using this) h
theorem s_dnt {σ : Sl} {H : Hp} {Q : VK} (h : tEv K c (.dnt m) σ H Q) : tDNewT σ H Q := s_dnew (fun _ => rfl) (fun S H p hp => by
  have := RS.dtO (mk := .tc (.l m) .tn) (K := K) (S := S) (H := H) (kvs := []) (ws := []) rfl hp rfl (.nil _) (.nil _)
  simpa [Rep] using this) h
/-! ### special constructs of one value -/
theorem s_sp {k : Sk} {σ : Sl} {H : Hp} {Q : VK} (h : tEv K c (.sp k a) σ H Q) : tR1 (rSp K.K k) (tEv K c a) σ H Q := by
  obtain ⟨S, e, fo, z, e', E, O, r, h⟩ := h
  obtain ⟨x, e1, r1, r⟩ := Res.bind_ok r
  split at r
  · rename_i u hu
    obtain ⟨rfl, t, ht, rfl⟩ := valR_ok r
    refine ⟨S, e, fo, x, _, E, O, r1, fun S1 H1 fo1 w1 g1 st1 o1 E1 A1 => ?_⟩
    obtain ⟨f1, R1⟩ := readA_snd hu E1 A1
    exact spV_snd ht R1 o1.left (h.give st1 o1.left E1)
  · cases r
/-- a name of the module that holds what stays -/
theorem s_con {x : Str} {v : Val} {w : V} {σ : Sl} {H : Hp} {Q : VK} (hw : ∀ S H, Rep K S H .st v w []) (h : tEv K c (.con x v) σ H Q) : tC w σ H Q := by
  obtain ⟨S, e, fo, z, e', E, O, r, h⟩ := h
  cases r
  have g := h.give (g1 := []) (Stp.refl) O E
  exact g.st O (hw S H)
/-! ### list(range(..)), tuple(range(..)) -/
theorem rg_ok {i j : Int} (h : rgOk i j = true) : RgOk i j := by
  have : -(2 ^ 62) ≤ i ∧ i < 2 ^ 62 ∧ -(2 ^ 62) ≤ j ∧ j < 2 ^ 62 ∧ (j - i).toNat ≤ 2 ^ 24 := of_decide_eq_true h
  exact this
theorem rg_rs (i j : Int) : RS K S H .st (rangeL i j) (L2.rgV i j) [] := by
  unfold rangeL L2.rgV
  induction (List.range (j - i).toNat) with
  | nil => exact .nil _
  | cons k ks ih => exact .int ih
theorem rg_give {l : Bool} {i j : Int} {H : Hp} (k : KE K q S H fo e1 σ (rgT l i j) Q) (st : Stp q S H fo S1 H1 fo1 g1) (o : Ow K S1 H1 fo1) (E : ES K S1 H1 e1 σ fo1) : ∀ p (its : Array Value), H1 p = none → Q (.ref p) (upd H1 p (if l then .lst (L2.rgV i j) else .frz (tupO its) (.tup (L2.rgV i j)))) := fun p its hp => by
  unfold rgT at k
  cases l with
  | true => exact Gives.lst (k.give st o E) o (rg_rs i j) hp
  | false => exact Gives.tup (k.give st o E) o (rg_rs i j) hp
def tRgL : Bool → (Sl → Hp → (Int → Int → Hp → Prop) → Prop) → TE
  | true, te => tLstRg te
  | false, te => tTupRgF te
theorem s_lrg1 {l : Bool} {σ : Sl} {H : Hp} {Q : VK} (h : tEv K c (.lrg1 l a) σ H Q) : tRgL l (tRg1 (tEv K c a)) σ H Q := by
  cases l
  all_goals
    obtain ⟨S, e, fo, z, e', E, O, r, h⟩ := h
    obtain ⟨x, e1, r1, r⟩ := Res.bind_ok r
    split at r
    · split at r
      · rename_i hr
        cases r
        refine ⟨S, e, fo, _, _, E, O, r1, fun S1 H1 fo1 w1 g1 st1 o1 E1 A1 => ?_⟩
        obtain ⟨rfl, _⟩ := Rep.inv_int A1
        first
          | exact ⟨_, rfl, rg_ok hr, fun p hp => rg_give (l := true) h st1 o1.left E1 p #[] hp⟩
          | exact ⟨_, rfl, rg_ok hr, fun p its hp => rg_give (l := false) h st1 o1.left E1 p its hp⟩
      · cases r
    · cases r
theorem s_lrg2 {l : Bool} {σ : Sl} {H : Hp} {Q : VK} (h : tEv K c (.lrg2 l a b) σ H Q) : tRgL l (tRg2 (tEv K c a) (tEv K c b)) σ H Q := by
  cases l
  all_goals
    obtain ⟨S, e, fo, z, e', E, O, r, h⟩ := h
    obtain ⟨x, e1, r1, r⟩ := Res.bind_ok r
    obtain ⟨y, e2, r2, r⟩ := Res.bind_ok r
    split at r
    · split at r
      · rename_i hr
        cases r
        refine s_two r1 r2 (by simp [isPart]) E O fun S2 H2 fo2 w1 g1 w2 g2 st o E2 A1 A2 => ?_
        obtain ⟨rfl, _⟩ := Rep.inv_int A1
        obtain ⟨rfl, _⟩ := Rep.inv_int A2
        first
          | exact ⟨_, _, rfl, rfl, rg_ok hr, fun p hp => rg_give (l := true) h st o.left E2 p #[] hp⟩
          | exact ⟨_, _, rfl, rfl, rg_ok hr, fun p its hp => rg_give (l := false) h st o.left E2 p its hp⟩
      · cases r
    · cases r
/-! ### tests of a comprehension -/
theorem s_yes {σ : Sl} {H : Hp} {Q : Bool → Hp → Prop} (h : tTsts K c .nop σ H Q) : tYes σ H Q := by
  obtain ⟨S, e, fo, z, e', E, O, r, h⟩ := h
  cases r
  exact h.of (g1 := []) .refl O E
theorem s_tests {σ : Sl} {H : Hp} {Q : Bool → Hp → Prop} (h : tTsts K c (.one a) σ H Q) : tTst K c a σ H Q := h
end
end Sh

/-! ShK: calls of defs -/
namespace Sh
open PySem PySem.Spec PyProof.Rows L2

def DA.mv (a : DA) : MV := (a.m, a.v)
/-- what comes back of the changed arguments -/
inductive PinR (K : KK) (S : AS) (H : Hp) : List DA → En → List V → List Addr → Prop
  | nil (fe) : PinR K S H [] fe [] []
  | no {a as fe w ws f} : a.pin = false → PinR K S H as fe.tail ws f → PinR K S H (a :: as) fe (w :: ws) f
  | yes {a as fe p m v w ws g f} : a.pin = true → fe.head? = some (.val p m v) → Rep K S H m v w g → PinR K S H as fe.tail ws f → PinR K S H (a :: as) fe (w :: ws) (g ++ f)
/-- a def's promise -/
def spF (K : KK) (cl : Calls) (f : Nat) : Sp := fun vs H Q E => ∃ S fo args, Ow K S H fo ∧ RA K S H (args.map DA.mv) vs fo ∧ ((∃ m v fe, cl f args = .ret m v fe ∧
  ∀ S' H' w fo' g, Step S H fo S' H' (fo' ++ g) → Ow K S' H' (fo' ++ g) → PinR K S' H' args fe vs fo' → Rep K S' H' m v w g → Q w H') ∨
  ∃ x fe, cl f args = .exc x fe ∧ ∀ C S' H', PySem.W.nsIn K.K mainGlobals x = some (some (.ref C)) → Step S H fo S' H' [] → Ow K S' H' [] → E (.ref C) none H')
/-- what was lent lies aside -/
inductive BkR (K : KK) (S : AS) (H : Hp) (σ : Sl) : List Bk → List DA → List V → List Addr → Prop
  | nil : BkR K S H σ [] [] [] []
  | no {a bs as w ws L} : a.pin = false → BkR K S H σ bs as ws L → BkR K S H σ (.no :: bs) (a :: as) (w :: ws) L
  | lent {i p m v w0 g a bs as w ws L} : a.pin = false → σ[i]? = some (some w0) → Rep K S H m v w0 g → lendOk m v = true → BkR K S H σ bs as ws L → BkR K S H σ (.lent i (.val p m v) :: bs) (a :: as) (w :: ws) (g ++ L)
  | chg {i p a bs as w ws L} : a.pin = true → σ[i]? = some (some w) → BkR K S H σ bs as ws L → BkR K S H σ (.chg i p :: bs) (a :: as) (w :: ws) L

theorem lend_lst {K : KK} {S : AS} {H : Hp} : ∀ {m : Mk} {v : Val} {w : V} {f : List Addr}, Rep K S H m v w f → lendOk m v = true → ∀ a ∈ f, ∃ ws, H a = some (.lst ws) := by
  intro m
  induction m with
  | st => intro v w f h _; rw [h.st_nil]; simp
  | tn => intro v w f h e; cases v <;> simp [lendOk] at e
  | pr => intro v w f h e; cases v <;> simp [lendOk] at e
  | tc m r _ _ => intro v w f h e; cases v <;> simp [lendOk] at e
  | l m ih =>
    intro v w f h e
    cases v with
    | lst xs =>
      simp only [lendOk, Bool.or_eq_true, decide_eq_true_eq] at e
      rcases Rep.inv_lst h with ⟨m', a, ws, g, hm, rfl, rfl, hl, r⟩ | ⟨a, ws, hm, _⟩
      · cases hm
        have rest : ∀ b ∈ g, ∃ ws, H b = some (.lst ws) := by
          rcases e with rfl | e
          · rw [(r.ofL).st_nil rfl]; simp
          · clear h hl
            induction xs generalizing ws g with
            | nil => obtain ⟨_, rfl⟩ := r.nil_inv; simp
            | cons x xs ihx =>
              obtain ⟨v, ws', fp, fr, rfl, rfl, r1, r2⟩ := r.uncons
              simp only [List.all_cons, Bool.and_eq_true] at e
              intro b hb
              rcases List.mem_append.mp hb with hb | hb
              · exact ih r1 e.1 b hb
              · exact ihx (ws := ws') (g := fr) r2 e.2 b hb
        intro b hb
        rcases List.mem_cons.mp hb with rfl | hb
        · exact ⟨ws, hl⟩
        · exact rest b hb
      · cases hm
    | _ => simp [lendOk] at e
/-- the sets of what is taken -/
structure Tk (K : KK) (S : AS) (H : Hp) (σ : Sl) (fo g : List Addr) (e' : En) (S' : AS) (fo' h : List Addr) : Prop where
  stab : ∀ a, S a → S' a
  nd : (fo' ++ h).Nodup
  mem : ∀ a ∈ fo' ++ h, a ∈ fo ++ g
  new : ∀ a, S' a → S a ∨ (a ∈ fo ++ g ∧ a ∉ fo' ++ h)
  es : ES K S' H e' σ fo'
section
variable {K : KK} {S S1 S2 S' : AS} {H : Hp} {e e1 e2 e' : En} {σ : Sl} {fo fo1 fo2 fo' f g g1 g' gs gr h h1 h2 : List Addr} {w : V} {ws : List V} {a : Arg} {as : List Arg} {m : Mk} {v : Val} {mv : MV}
theorem Took.tk (t : Took K S H σ fo g e' m v w S' fo' g') : Tk K S H σ fo g e' S' fo' g' := ⟨t.stab, t.nd, t.mem, t.new, t.es⟩
theorem Tk.ow (t : Tk K S H σ fo g e' S' fo' h) (o : Ow K S H (fo ++ g)) (hf : ∀ a ∈ fo ++ g, H a ≠ Option.none) : Ow K S' H (fo' ++ h) :=
  ⟨t.nd, fun a ha s => (t.new a s).elim (fun z => o.ds a (t.mem a ha) z) fun z => z.2 ha, live_of o.live hf t.new t.stab⟩
theorem Tk.perm (t : Tk K S H σ fo g e' S' fo' h) (p : h.Perm h1) : Tk K S H σ fo g e' S' fo' h1 := by
  have q : (fo' ++ h).Perm (fo' ++ h1) := List.Perm.append_left _ p
  exact ⟨t.stab, q.nodup_iff.mp t.nd, fun a ha => t.mem a (q.mem_iff.mpr ha), fun a s => (t.new a s).imp_right fun z => ⟨z.1, fun hm => z.2 (q.mem_iff.mpr hm)⟩, t.es⟩
theorem Tk.aside (t : Tk K S H σ fo g e' S' fo' h) (o : Ow K S H (fo ++ (g ++ gr))) (hf : ∀ a ∈ fo ++ g, H a ≠ Option.none) : Ow K S' H (fo' ++ (h ++ gr)) ∧ (∀ a ∈ gr, a ∉ fo ++ g) := by
  have o1 : Ow K S H ((fo ++ g) ++ gr) := by rw [List.append_assoc]; exact o
  have dj : ∀ a ∈ gr, a ∉ fo ++ g := o1.ne'
  refine ⟨?_, dj⟩
  rw [← List.append_assoc]
  refine ⟨List.nodup_append.mpr ⟨t.nd, o1.right.nd, fun a ha b hb e => ?_⟩, fun a ha s => ?_, live_of o.live hf t.new t.stab⟩
  · subst e; exact dj a hb (t.mem a ha)
  · rcases t.new a s with z | z
    · rcases List.mem_append.mp ha with ha | ha
      · exact o1.ds a (List.mem_append_left _ (t.mem a ha)) z
      · exact o1.ds a (List.mem_append_right _ ha) z
    · rcases List.mem_append.mp ha with ha | ha
      · exact z.2 ha
      · exact dj a ha z.1
theorem Tk.seq (t : Tk K S H σ fo g e1 S1 fo1 h1) (o : Ow K S H (fo ++ (g ++ gs))) (hf : ∀ a ∈ fo ++ g, H a ≠ Option.none) (t2 : Tk K S1 H σ fo1 gs e2 S2 fo2 h2) : Tk K S H σ fo (g ++ gs) e2 S2 fo2 (h1 ++ h2) := by
  obtain ⟨o2, dj⟩ := t.aside o hf
  have dj1 : ∀ a ∈ h1, a ∉ fo1 ++ gs := fun a ha hb => by
    have o2' : Ow K S1 H ((fo1 ++ gs) ++ h1) := o2.perm (by rw [List.append_assoc]; exact List.Perm.append_left _ List.perm_append_comm)
    exact o2'.ne' a ha hb
  have m1 : ∀ a ∈ fo1 ++ gs, a ∈ fo ++ (g ++ gs) := fun a ha => by
    rw [← List.append_assoc]
    rcases List.mem_append.mp ha with z | z
    · exact List.mem_append_left _ (t.mem a (List.mem_append_left _ z))
    · exact List.mem_append_right _ z
  refine ⟨fun a s => t2.stab a (t.stab a s), ?_, ?_, ?_, t2.es⟩
  · have p : (h1 ++ (fo2 ++ h2)).Perm (fo2 ++ (h1 ++ h2)) := by
      rw [← List.append_assoc, ← List.append_assoc]
      exact List.perm_append_comm.append_right _
    refine p.nodup_iff.mp (List.nodup_append.mpr ⟨(List.nodup_append.mp t.nd).2.1, t2.nd, fun a ha b hb e => ?_⟩)
    subst e
    exact dj1 a ha (t2.mem a hb)
  · intro a ha
    simp only [List.mem_append] at ha
    rcases ha with z | z | z
    · exact m1 a (t2.mem a (List.mem_append_left _ z))
    · have := t.mem a (List.mem_append_right _ z)
      rw [← List.append_assoc]
      exact List.mem_append_left _ this
    · exact m1 a (t2.mem a (List.mem_append_right _ z))
  · intro a s
    rcases t2.new a s with z | ⟨z1, z2⟩
    · rcases t.new a z with z | ⟨z1, z2⟩
      · exact .inl z
      · refine .inr ⟨by rw [← List.append_assoc]; exact List.mem_append_left _ z1, fun h => ?_⟩
        have h3 : a ∈ fo2 ++ h2 → False := fun h => by
          rcases List.mem_append.mp (t2.mem a h) with y | y
          · exact z2 (List.mem_append_left _ y)
          · exact dj a y z1
        simp only [List.mem_append] at h h3 z2
        rcases h with y | y | y
        · exact h3 (.inl y)
        · exact z2 (.inr y)
        · exact h3 (.inr y)
    · refine .inr ⟨m1 a z1, fun h => ?_⟩
      simp only [List.mem_append] at h z2
      rcases h with y | y | y
      · exact z2 (.inl y)
      · exact dj1 a y z1
      · exact z2 (.inr y)
/-- one argument handed over -/
theorem pass1_snd {md : Md} {pb : DA × Bk} (r : pass1 md a e = .ok pb e') (E : ES K S H e σ fo) (o : Ow K S H (fo ++ g)) (A : ArgR K S H e σ a w g) :
    ∃ S' fo' g' L, Tk K S H σ fo g e' S' fo' (g' ++ L) ∧ Rep K (fun x => S' x ∨ x ∈ L) H pb.1.m pb.1.v w g' ∧
      (∀ {bs as ws M}, BkR K S' H σ bs as ws M → BkR K S' H σ (pb.2 :: bs) (pb.1 :: as) (w :: ws) (L ++ M)) ∧ ((match pb.2 with | .lent _ _ => true | _ => false) = false → L = []) := by
  have lent : ∀ {i : Nat} {p : Bool} {m : Mk} {v u : Val} {w0 : V}, e[i]? = some (.val p m v) → lendOk m v = true → σ[i]? = some (some w0) → pb = (⟨false, .st, u⟩, .lent i (.val p m v)) → e' = e.set i .emp → g = [] →
      (∀ fp, Rep K S H m v w0 fp → Rep K (fun x => S x ∨ x ∈ fp) H .st u w []) → ∃ S' fo' g' L, Tk K S H σ fo g e' S' fo' (g' ++ L) ∧ Rep K (fun x => S' x ∨ x ∈ L) H pb.1.m pb.1.v w g' ∧
      (∀ {bs as ws M}, BkR K S' H σ bs as ws M → BkR K S' H σ (pb.2 :: bs) (pb.1 :: as) (w :: ws) (L ++ M)) ∧ ((match pb.2 with | .lent _ _ => true | _ => false) = false → L = []) := by
    intro i p m v u w0 ei hlo hw hp he hg hR
    obtain ⟨w', fl, fp, fr, e1, rfl, R1, _, R3⟩ := E.get ei
    rw [hw] at e1; cases e1
    subst hp he hg
    have pm : ((fl ++ fr) ++ ([] ++ fp)).Perm ((fl ++ (fp ++ fr)) ++ []) := by
      rw [List.append_nil, List.nil_append, List.append_assoc]
      exact List.Perm.append_left _ List.perm_append_comm
    exact ⟨S, fl ++ fr, [], fp, ⟨fun a s => s, pm.nodup_iff.mpr o.nd, fun a ha => pm.mem_iff.mp ha, fun a s => .inl s, R3⟩, hR fp R1, fun B => .lent rfl hw R1 hlo B, fun q => nomatch q⟩
  have froz : ∀ {u : Val}, frzA a e = .ok u e' → pb = (⟨false, .st, u⟩, .no) → ∃ S' fo' g' L, Tk K S H σ fo g e' S' fo' (g' ++ L) ∧ Rep K (fun x => S' x ∨ x ∈ L) H pb.1.m pb.1.v w g' ∧
      (∀ {bs as ws M}, BkR K S' H σ bs as ws M → BkR K S' H σ (pb.2 :: bs) (pb.1 :: as) (w :: ws) (L ++ M)) ∧ ((match pb.2 with | .lent _ _ => true | _ => false) = false → L = []) := by
    intro u r1 hp
    subst hp
    obtain ⟨S', fo', t⟩ := frzA_snd r1 E o A
    exact ⟨S', fo', [], [], t.tk, t.rep.growS fun x s => .inl s, fun B => .no rfl B, fun _ => rfl⟩
  cases md with
  | frz =>
    obtain ⟨u, e1, r1, r2⟩ := Res.bind_ok r
    cases r2
    exact froz r1 rfl
  | bor =>
    cases a with
    | tmp m v' =>
      obtain ⟨u, e1, r1, r2⟩ := Res.bind_ok (show ((frzA (.tmp m v') e).bind fun v e => Res.ok (DA.mk false .st v, Bk.no) e) = .ok pb e' from r)
      cases r2
      exact froz r1 rfl
    | slot i =>
      simp only [pass1] at r
      split at r
      · rename_i ei
        split at r
        · rename_i hlo; cases r
          obtain ⟨rfl, hw⟩ := A
          exact lent ei hlo hw rfl rfl rfl fun fp R => Rep.st_of R (fun a s => .inl s) fun a ha => .inr ha
        · cases r
      · cases r
    | part i low m v' =>
      simp only [pass1] at r
      split at r
      · rename_i ei
        split at r
        · rename_i hlo; cases r
          obtain ⟨rfl, p', m0', v0', w0, f0, e1, hw, h3, ⟨gl, gp, gr, e5, h5⟩, _⟩ := A
          rw [ei] at e1; cases e1
          refine lent ei hlo hw rfl rfl rfl fun fp R => ?_
          have := RS.func h3 R
          subst this
          exact Rep.st_of h5 (fun a s => .inl s) fun a ha => .inr (by rw [e5]; simp [ha])
        · cases r
      · cases r
  | ino =>
    cases a with
    | tmp m v' => cases r
    | slot i =>
      simp only [pass1] at r
      split at r
      · rename_i ei; cases r
        obtain ⟨rfl, hw⟩ := A
        obtain ⟨w', fl, fp, fr, e1, rfl, R1, _, R3⟩ := E.get ei
        rw [hw] at e1; cases e1
        have pm : ((fl ++ fr) ++ (fp ++ [])).Perm ((fl ++ (fp ++ fr)) ++ []) := by
          rw [List.append_nil, List.append_nil, List.append_assoc]
          exact List.Perm.append_left _ List.perm_append_comm
        exact ⟨S, fl ++ fr, fp, [], ⟨fun a s => s, pm.nodup_iff.mpr o.nd, fun a ha => pm.mem_iff.mp ha, fun a s => .inl s, R3⟩, R1.growS fun x s => .inl s, fun B => .chg rfl hw B, fun _ => rfl⟩
      · cases r
    | part i low m v' => cases r
  | mov =>
    obtain ⟨u, e1, r1, r2⟩ := Res.bind_ok (show ((takeA a e).bind fun v e => Res.ok (DA.mk false v.1 v.2, Bk.no) e) = .ok pb e' from r)
    cases r2
    obtain ⟨S', fo', g', t⟩ := takeA_snd r1 E o A
    exact ⟨S', fo', g', [], by rw [List.append_nil]; exact t.tk, t.rep.growS fun x s => .inl s, fun B => .no rfl B, fun _ => rfl⟩
theorem pass1_tmp {md : Md} {pb : DA × Bk} (h : isTmp a = true) (r : pass1 md a e = .ok pb e') : e' = e := by
  cases a with
  | tmp m v => cases md <;> cases r <;> rfl
  | slot i => cases h
  | part i low m v => cases h
theorem passN_fl : ∀ {ms : List Md} {as : List Arg} {fl : Bool} {e e' : En} {ps : List (DA × Bk)}, passN fl ms as e = .ok ps e' → ∀ a ∈ as, isPart a = true → fl = true
  | _, [], _, _, _, _, _, a, ha, _ => absurd ha (by simp)
  | [], b :: as, _, _, _, _, r, _, _, _ => by simp [passN] at r
  | m :: ms, b :: as, fl, e, e', ps, r, a, ha, hp => by
    simp only [passN] at r
    split at r
    · cases r
    · rename_i hfl
      obtain ⟨v, e1, r1, r⟩ := Res.bind_ok r
      obtain ⟨vs', e2, r2, r⟩ := Res.bind_ok r
      rcases List.mem_cons.mp ha with rfl | ha
      · simpa [hp] using hfl
      · have := passN_fl r2 a ha hp
        rw [Bool.and_eq_true] at this
        exact this.1
theorem BkR.grow {bs : List Bk} {das : List DA} {L : List Addr} (h : BkR K S H σ bs das ws L) (hs : ∀ a, S a → S' a) : BkR K S' H σ bs das ws L := by
  induction h with
  | nil => exact .nil
  | no p _ ih => exact .no p ih
  | lent p q r ho _ ih => exact .lent p q (RS.growS r hs) ho ih
  | chg p q _ ih => exact .chg p q ih
theorem passN_snd : ∀ {ms : List Md} {as : List Arg} {fl : Bool} {e : En} {S : AS} {fo : List Addr} {ps : List (DA × Bk)} {ws : List V} {g : List Addr}, passN fl ms as e = .ok ps e' → ES K S H e σ fo → Ow K S H (fo ++ g) → ArgsR K S H e σ as ws g →
    ∃ S' fo' g' L, Tk K S H σ fo g e' S' fo' (g' ++ L) ∧ RA K (fun x => S' x ∨ x ∈ L) H ((ps.map (·.1)).map DA.mv) ws g' ∧ BkR K S' H σ (ps.map (·.2)) (ps.map (·.1)) ws L ∧ (anyLent (ps.map (·.2)) = false → L = [])
  | [], [], fl, e, S, fo, ps, ws, g, r, E, o, A => by
    cases r; cases A
    exact ⟨S, fo, [], [], ⟨fun a s => s, o.nd, fun a ha => ha, fun a s => .inl s, E⟩, .nil _, .nil, fun _ => rfl⟩
  | [], _ :: _, _, _, _, _, _, _, _, r, _, _, _ => by simp [passN] at r
  | _ :: _, [], _, _, _, _, _, _, _, r, _, _, _ => by simp [passN] at r
  | m :: ms, a :: as, fl, e, S, fo, ps, ws, g, r, E, o, A => by
    simp only [passN] at r
    split at r
    · cases r
    · rename_i hfl
      obtain ⟨pb, e1, r1, r⟩ := Res.bind_ok r
      obtain ⟨ps', e2, r2, r⟩ := Res.bind_ok r
      cases r
      cases A with
      | @cons _ w ga _ ws gs A1 A2 =>
        have o1 : Ow K S H (fo ++ ga) := o.sub (List.Sublist.append (List.Sublist.refl _) (List.sublist_append_left _ _))
        obtain ⟨S1, fo1, g1, L1, t1, R1, B1, n1⟩ := pass1_snd r1 E o1 A1
        have hf1 : ∀ a ∈ fo ++ ga, H a ≠ Option.none := fun a ha => (List.mem_append.mp ha).elim (fun z => (E.own a z).some) fun z => (A1.own a z).some
        obtain ⟨o2, dj⟩ := t1.aside o hf1
        have o3 : Ow K S1 H (fo1 ++ gs) := o2.sub (List.Sublist.append (List.Sublist.refl _) (List.sublist_append_right _ _))
        have A2' : ArgsR K S1 H e1 σ as ws gs := A2.growS t1.stab fun a' ha hp => by
          have := passN_fl r2 a' ha hp
          rw [Bool.and_eq_true] at this
          exact pass1_tmp this.2 r1
        obtain ⟨S2, fo2, g2, L2, t2, R2, B2, n2⟩ := passN_snd r2 t1.es o3 A2'
        refine ⟨S2, fo2, g1 ++ g2, L1 ++ L2, (t1.seq o hf1 t2).perm ?_, ?_, ?_, ?_⟩
        · rw [List.append_assoc, List.append_assoc]
          refine List.Perm.append_left _ ?_
          rw [← List.append_assoc, ← List.append_assoc]
          exact List.perm_append_comm.append_right _
        · have R1' : Rep K (fun x => S2 x ∨ x ∈ L1 ++ L2) H pb.1.m pb.1.v w g1 := RS.growS R1 fun x s => s.imp (t2.stab x) fun z => List.mem_append_left _ z
          have R2' : RS K (fun x => S2 x ∨ x ∈ L1 ++ L2) H (mkc ((ps'.map (·.1)).map DA.mv)) (((ps'.map (·.1)).map DA.mv).map (·.2)) ws g2 := RS.growS (show RS K _ H _ _ _ _ from R2) fun x s => s.imp_right fun z => List.mem_append_right _ z
          exact RS.cons (mk := .tc pb.1.m (mkc ((ps'.map (fun p : DA × Bk => p.1)).map DA.mv))) R1' R2'
        · have B1' : ∀ {bs as ws M}, BkR K S2 H σ bs as ws M → BkR K S2 H σ (pb.2 :: bs) (pb.1 :: as) (w :: ws) (L1 ++ M) := by
            intro bs as' ws' M BM
            obtain ⟨pa, b⟩ := pb
            have b0 := (B1 .nil).grow t2.stab
            cases b with
            | no =>
              cases b0 with
              | no hp hn =>
                cases L1 with
                | nil => exact .no hp BM
                | cons => simp at *
            | lent i s =>
              generalize hL : L1 ++ [] = M1 at b0
              rw [List.append_nil] at hL
              subst hL
              cases b0 with
              | lent hpA hσA hRA hoA hn =>
                cases hn
                rw [List.append_nil]
                exact .lent hpA hσA hRA hoA BM
            | chg i p =>
              cases b0 with
              | chg hp hw hn =>
                cases L1 with
                | nil => exact .chg hp hw BM
                | cons => simp at *
          exact B1' B2
        · intro hl
          simp only [anyLent, List.map_cons, List.any_cons, Bool.or_eq_false_iff] at hl
          rw [n1 hl.1, n2 hl.2]; rfl
/-! ### behind a call -/
theorem pure_noL {S S' : AS} {mk : Mk} {xs : List Val} {ws : List V} {f : List Addr} {H : Hp} (h : RS K S H mk xs ws f) : noL.noLs xs = true → RS K S' H mk xs ws f := by
  induction h with
  | nil mk => exact fun _ => .nil mk
  | non _ ih => exact fun e => .non (ih (by simpa [noL.noLs, noL] using e))
  | bl _ ih => exact fun e => .bl (ih (by simpa [noL.noLs, noL] using e))
  | int _ ih => exact fun e => .int (ih (by simpa [noL.noLs, noL] using e))
  | str _ ih => exact fun e => .str (ih (by simpa [noL.noLs, noL] using e))
  | tup a b _ _ ih1 ih2 =>
    intro e
    simp only [noL.noLs, noL, Bool.and_eq_true] at e
    exact .tup a b (ih1 e.1) (ih2 e.2)
  | _ => intro e; simp [noL.noLs, noL] at e
theorem Rep.noLs {S S' : AS} {H : Hp} (h : Rep K S H m v w f) (e : noL v = true) : Rep K S' H m v w f := pure_noL h (by simp [noL.noLs, e])
theorem pure_snd {S S' : AS} {H : Hp} : ∀ {m : Mk} {v : Val} {w : V} {f : List Addr}, Rep K S H m v w f → pureAt m v = true → Rep K S' H m v w f := by
  intro m
  induction m with
  | st => intro v w f h e; simp only [pureAt] at e; exact h.noLs e
  | tn => intro v w f h e; simp only [pureAt] at e; exact h.noLs e
  | pr => intro v w f h e; simp only [pureAt] at e; exact h.noLs e
  | tc m r _ _ => intro v w f h e; simp only [pureAt] at e; exact h.noLs e
  | l m ih =>
    intro v w f h e
    have all : ∀ {xs : List Val} {ws : List V} {g : List Addr}, RS K S H (.l m) xs ws g → xs.all (pureAt m) = true → RS K S' H (.l m) xs ws g := by
      intro xs
      induction xs with
      | nil => intro ws g r _; obtain ⟨rfl, rfl⟩ := r.nil_inv; exact .nil _
      | cons x xs ihx =>
        intro ws g r e
        obtain ⟨v, ws', fp, fr, rfl, rfl, r1, r2⟩ := r.uncons
        simp only [List.all_cons, Bool.and_eq_true] at e
        exact RS.cons (mk := .l m) (ih r1 e.1) (ihx r2 e.2)
    cases v with
    | lst xs =>
      simp only [pureAt] at e
      rcases Rep.inv_lst h with ⟨m', a, ws, g, hm, rfl, rfl, hl, r⟩ | ⟨a, ws, hm, _⟩
      · cases hm; exact Rep.lstO hl (all r e)
      · cases hm
    | dk kvs =>
      simp only [pureAt] at e
      cases h with
      | @dkO _ m' _ ks a ws g _ _ f' hm hl ek r rn =>
        cases hm
        cases rn
        have := RS.dkO (mk := .tc (.l m) .tn) (S := S') rfl hl ek (all r (by simpa [List.all_map] using e)) (.nil _)
        exact this
      | dkS hm => cases hm
    | dt kvs =>
      simp only [pureAt] at e
      cases h with
      | @dtO _ m' _ ks a ws g _ _ f' hm hl ek r rn =>
        cases hm
        cases rn
        have := RS.dtO (mk := .tc (.l m) .tn) (S := S') rfl hl ek (all r (by simpa [List.all_map] using e)) (.nil _)
        exact this
      | dtS hm => cases hm
    | _ => simp only [pureAt] at e; exact h.noLs e
theorem PinR.pure {S S' : AS} {H : Hp} {bs : List Bk} {das : List DA} {L : List Addr} {σ : Sl} {S0 : AS} {H0 : Hp} {fe : En} (b : BkR K S0 H0 σ bs das ws L) (h : PinR K S H das fe ws f) : chgPure bs fe = true → PinR K S' H das fe ws f := by
  induction b generalizing fe f with
  | nil => intro _; cases h; exact .nil _
  | no hp _ ih =>
    intro e
    cases h with
    | no _ h => exact .no hp (ih h e)
    | yes hq => rw [hp] at hq; cases hq
  | lent hp _ _ _ _ ih =>
    intro e
    cases h with
    | no _ h => exact .no hp (ih h e)
    | yes hq => rw [hp] at hq; cases hq
  | chg hp _ _ ih =>
    intro e
    cases h with
    | no hq => rw [hp] at hq; cases hq
    | yes _ hf r h =>
      simp only [chgPure, hf, Bool.and_eq_true] at e
      exact .yes hp hf (pure_snd r e.1) (ih h e.2)
/-- one slot put back -/
theorem ES.back {S : AS} {H : Hp} {i : Nat} {p : Bool} (E : ES K S H e σ fo) (hw : σ[i]? = some (some w)) (R : Rep K S H m v w g) : ∃ fl fr, (fl ++ fr).Sublist fo ∧ ES K S H (e.set i (.val p m v)) σ (fl ++ (g ++ fr)) := by
  obtain ⟨f1, sb, E1⟩ := E.drop (i := i)
  have il : i < e.length := by rw [← E.length]; exact (List.getElem?_eq_some_iff.mp hw).1
  obtain ⟨fl, fr, rfl, E2⟩ := E1.put (p := p) (i := i) (by rw [List.getElem?_set_self il]) R
  rw [List.set_set, set_self hw] at E2
  exact ⟨fl, fr, sb, E2⟩
theorem putBack_snd {S : AS} {H : Hp} {bs : List Bk} {das : List DA} {L : List Addr} (b : BkR K S H σ bs das ws L) : ∀ {fe e' : En} {f : List Addr}, putBack bs fe e = some e' → ES K S H e σ fo → PinR K S H das fe ws f → (fo ++ (f ++ L)).Nodup →
    ∃ fo', ES K S H e' σ fo' ∧ fo'.Nodup ∧ ∀ a ∈ fo', a ∈ fo ++ (f ++ L) := by
  -- a slot's own part comes on top
  have top : ∀ {i : Nat} {p : Bool} {m : Mk} {v : Val} {w0 : V} {e4 : En} {fo4 g r : List Addr}, ES K S H e4 σ fo4 → σ[i]? = some (some w0) → Rep K S H m v w0 g → fo4.Nodup → (∀ a ∈ fo4, a ∈ r) → g.Nodup → (∀ a ∈ g, a ∉ r) → ∀ {t : List Addr}, (∀ a ∈ r, a ∈ t) → (∀ a ∈ g, a ∈ t) →
      ∃ fo', ES K S H (e4.set i (.val p m v)) σ fo' ∧ fo'.Nodup ∧ ∀ a ∈ fo', a ∈ t := by
    intro i p m v w0 e4 fo4 g r E4 hw R nd4 m4 ndg dj t tr tg
    obtain ⟨fl, fr, sb, E5⟩ := E4.back (p := p) hw R
    refine ⟨_, E5, ?_, fun a ha => ?_⟩
    · have pm : (g ++ (fl ++ fr)).Perm (fl ++ (g ++ fr)) := by
        rw [← List.append_assoc, ← List.append_assoc]
        exact List.perm_append_comm.append_right _
      refine pm.nodup_iff.mp (List.nodup_append.mpr ⟨ndg, nd4.sublist sb, fun a ha b hb e => ?_⟩)
      subst e
      exact dj a ha (m4 a (sb.subset hb))
    · simp only [List.mem_append] at ha
      rcases ha with z | z | z
      · exact tr a (m4 a (sb.subset (List.mem_append_left _ z)))
      · exact tg a z
      · exact tr a (m4 a (sb.subset (List.mem_append_right _ z)))
  induction b with
  | nil =>
    intro fe e' f r E P nd
    cases r
    exact ⟨fo, E, (List.nodup_append.mp nd).1, fun a ha => List.mem_append_left _ ha⟩
  | no hp _ ih =>
    intro fe e' f r E P nd
    cases P with
    | no _ P => exact ih r E P nd
    | yes hq => rw [hp] at hq; cases hq
  | @lent i p m v w0 g a bs as w ws L hp hw R _ _ ih =>
    intro fe e' f r E P nd
    simp only [putBack, Option.map_eq_some_iff] at r
    obtain ⟨e4, r4, rfl⟩ := r
    cases P with
    | no _ P =>
      have pm : (fo ++ (f ++ (g ++ L))).Perm (g ++ (fo ++ (f ++ L))) := by
        have : (f ++ (g ++ L)).Perm (g ++ (f ++ L)) := by
          rw [← List.append_assoc, ← List.append_assoc]; exact List.perm_append_comm.append_right _
        refine (List.Perm.append_left fo this).trans ?_
        have := (List.perm_append_comm (l₁ := fo) (l₂ := g)).append_right (f ++ L)
        simpa only [List.append_assoc] using this
      have nd' := pm.nodup_iff.mp nd
      obtain ⟨n1, n2, n3⟩ := List.nodup_append.mp nd'
      obtain ⟨fo4, E4, nd4, m4⟩ := ih r4 E P n2
      exact top E4 hw R nd4 m4 n1 (fun a ha hb => n3 a ha a hb rfl) (fun a ha => pm.mem_iff.mpr (List.mem_append_right _ ha)) fun a ha => pm.mem_iff.mpr (List.mem_append_left _ ha)
    | yes hq => rw [hp] at hq; cases hq
  | @chg i p a bs as w ws L hp hw _ ih =>
    intro fe e' f r E P nd
    cases P with
    | no hq => rw [hp] at hq; cases hq
    | @yes _ _ _ p' m v _ _ g f _ hf R P =>
      simp only [putBack, hf, Option.map_eq_some_iff] at r
      obtain ⟨e4, r4, rfl⟩ := r
      have pm : (fo ++ ((g ++ f) ++ L)).Perm (g ++ (fo ++ (f ++ L))) := by
        have := (List.perm_append_comm (l₁ := fo) (l₂ := g)).append_right (f ++ L)
        simpa only [List.append_assoc] using this
      have nd' := pm.nodup_iff.mp nd
      obtain ⟨n1, n2, n3⟩ := List.nodup_append.mp nd'
      obtain ⟨fo4, E4, nd4, m4⟩ := ih r4 E P n2
      exact top E4 hw R nd4 m4 n1 (fun a ha hb => n3 a ha a hb rfl) (fun a ha => pm.mem_iff.mpr (List.mem_append_right _ ha)) fun a ha => pm.mem_iff.mpr (List.mem_append_left _ ha)
theorem BkR.step {H1 : Hp} {bs : List Bk} {das : List DA} {L : List Addr} (h : BkR K S H σ bs das ws L) (a : Step S H fo S1 H1 fo1) (d : ∀ x ∈ L, x ∉ fo) (ds : ∀ x, S x → x ∉ fo) (dn : ∀ x ∈ L, ¬ S x) : BkR K S1 H1 σ bs das ws L := by
  induction h with
  | nil => exact .nil
  | no p _ ih => exact .no p (ih d dn)
  | lent p q r ho _ ih => exact .lent p q (RS.step r a (fun x hx => d x (List.mem_append_left _ hx)) ds fun x hx => dn x (List.mem_append_left _ hx)) ho (ih (fun x hx => d x (List.mem_append_right _ hx)) fun x hx => dn x (List.mem_append_right _ hx))
  | chg p q _ ih => exact .chg p q (ih d dn)
theorem BkR.lsts {bs : List Bk} {das : List DA} {L : List Addr} (h : BkR K S H σ bs das ws L) : ∀ a ∈ L, ∃ us, H a = some (.lst us) := by
  induction h with
  | nil => simp
  | no p _ ih => exact ih
  | lent p q r ho _ ih =>
    intro a ha
    rcases List.mem_append.mp ha with ha | ha
    · exact lend_lst r ho a ha
    · exact ih a ha
  | chg p q _ ih => exact ih
theorem BkR.own {bs : List Bk} {das : List DA} {L : List Addr} (h : BkR K S H σ bs das ws L) : ∀ a ∈ L, Own (H a) := by
  induction h with
  | nil => simp
  | no p _ ih => exact ih
  | lent p q r _ _ ih =>
    intro a ha
    rcases List.mem_append.mp ha with ha | ha
    · exact RS.own r a ha
    · exact ih a ha
  | chg p q _ ih => exact ih
theorem s_call {c : Calls} {XE : XK} {fi : Nat} {md : List Md} {es : Sh.E} {σ : Sl} {H : Hp} {Q : VK} (h : tEv K c (.call fi md es) σ H Q) : tCall (spF K c fi) [] XE (tAr K c es) σ H Q := by
  obtain ⟨S, e, fo, z, e', E, O, r, h⟩ := h
  obtain ⟨as, e1, r1, r⟩ := Res.bind_ok r
  refine ⟨S, e, fo, as, e1, E, O, r1, fun S1 H1 fo1 ws g1 st1 o1 E1 A1 => ?_⟩
  show spF K c fi (ws ++ []) H1 Q XE
  rw [List.append_nil]
  obtain ⟨ps, e2, r2, r⟩ := Res.bind_ok r
  obtain ⟨S2, fo2, g2, L, t, R2, B2, nL⟩ := passN_snd r2 E1 o1 A1
  have hf : ∀ a ∈ fo1 ++ g1, H1 a ≠ Option.none := fun a ha => (List.mem_append.mp ha).elim (fun z => (E1.own a z).some) fun z => (A1.own a z).some
  have o2 := t.ow o1 hf
  have hf2 : ∀ a ∈ fo2 ++ (g2 ++ L), H1 a ≠ Option.none := fun a ha => hf a (t.mem a ha)
  have og : Ow K S2 H1 (g2 ++ (fo2 ++ L)) := o2.perm (by
    rw [← List.append_assoc, ← List.append_assoc]; exact List.perm_append_comm.append_right _)
  split at r
  · rename_i m v fe hc
    split at r
    · rename_i hpure
      split at r
      · rename_i e4 hb
        cases r
        refine ⟨fun x => S2 x ∨ x ∈ L, g2, ps.map (·.1), ⟨og.left.nd, fun a ha s => ?_, og.live.to (fun a s => ?_) (fun _ s => .inl s) fun _ _ _ => .inl rfl⟩, R2, .inl ⟨m, v, fe, hc, fun S3 H3 w f3 g3 st3 o3 P3 W3 => ?_⟩⟩
        · exact s.elim (og.left.ds a ha) fun z => og.ne a ha (List.mem_append_right _ z)
        · exact s.elim (og.live.1 a) fun z => hf2 a (List.mem_append_right _ (List.mem_append_right _ z))
        · have key : ∃ S4, Step S2 H1 g2 S4 H3 (f3 ++ g3) ∧ Ow K S4 H3 (f3 ++ g3) ∧ PinR K S4 H3 (ps.map (·.1)) fe ws f3 ∧ Rep K S4 H3 m v w g3 := by
            cases hl : anyLent (ps.map (·.2)) with
            | false =>
              have hL := nL hl
              subst hL
              have e : (fun x => S2 x ∨ x ∈ ([] : List Addr)) = S2 := by funext x; simp
              rw [e] at st3
              exact ⟨S3, st3, o3, P3, W3⟩
            | true =>
              have frS : ∀ a, S2 a → H1 a ≠ Option.none → H3 a = H1 a ∨ FO H1 H3 a := fun a s n => (st3.frame a n fun hm => og.left.ds a hm s).imp_right (·.2)
              rw [hl] at hpure
              simp only [Bool.not_true, Bool.false_or, Bool.and_eq_true] at hpure
              refine ⟨S2, ⟨fun a h1 h2 => (st3.frame a h1 h2).imp_right fun z => z.1.elim (fun s => ⟨s, z.2⟩) fun hL => (by
                obtain ⟨us, hu⟩ := B2.lsts a hL
                rcases z.2 with ⟨o, kvs, hk, _⟩ | ⟨p1, p2, hk, _⟩
                · rw [hu] at hk; cases hk
                · rw [hu] at hk; cases hk), st3.tups, st3.frzs, st3.grow, fun a s => s, fun a s => .inl s, st3.own, fun l => l.to (fun a s => st3.grow a (l.1 a s)) (fun _ s => s) frS⟩, ⟨o3.nd, fun a ha s => o3.ds a ha (st3.stab a (.inl s)), og.live.to (fun a s => st3.grow a (og.live.1 a s)) (fun _ s => s) frS⟩, P3.pure B2 hpure.2, pure_snd W3 hpure.1⟩
          obtain ⟨S4, st4, o4, P4, W4⟩ := key
          have ds2 : ∀ x, S2 x → x ∉ g2 := fun x s hx => og.left.ds x hx s
          have E4 : ES K S4 H3 e2 σ fo2 := t.es.step st4 (fun x hx hy => og.ne x hy (List.mem_append_left _ hx)) ds2 fun x hx => o2.ds x (List.mem_append_left _ hx)
          have B4 := B2.step st4 (fun x hx hy => og.ne x hy (List.mem_append_right _ hx)) ds2 fun x hx => o2.ds x (List.mem_append_right _ (List.mem_append_right _ hx))
          have oA : Ow K S4 H3 ((fo2 ++ L) ++ (f3 ++ g3)) := Ow.step og st4 o4 fun x hx => hf2 x (by
            rcases List.mem_append.mp hx with z | z
            · exact List.mem_append_left _ z
            · exact List.mem_append_right _ (List.mem_append_right _ z))
          have pm : ((fo2 ++ L) ++ (f3 ++ g3)).Perm ((fo2 ++ (f3 ++ L)) ++ g3) := by
            rw [← List.append_assoc ((fo2 ++ L)), List.append_assoc fo2 L f3]
            exact (List.Perm.append_left fo2 List.perm_append_comm).append_right _
          have oB := oA.perm pm
          obtain ⟨fo5, E5, nd5, m5⟩ := putBack_snd B4 hb E4 P4 oB.left.nd
          have sA : Step S H fo S2 H1 (g2 ++ (fo2 ++ L)) := (Step.trans0 st1.full (step_of hf t.stab t.new t.mem)).perm fun x hx => by
            simp only [List.mem_append] at hx ⊢
            rcases hx with z | z | z
            · exact .inr (.inl z)
            · exact .inl z
            · exact .inr (.inr z)
          have sB : Step S H fo S4 H3 ((fo2 ++ L) ++ (f3 ++ g3)) := Step.trans sA st4
          refine h S4 H3 fo5 w g3 (.of (sB.perm fun x hx => pm.mem_iff.mpr ?_)) ⟨List.nodup_append.mpr ⟨nd5, oB.right.nd, fun a ha b hb e => ?_⟩, fun a ha => oB.ds a ?_, oB.live⟩ E5 W4
          · rcases List.mem_append.mp hx with z | z
            · exact List.mem_append_left _ (m5 x z)
            · exact List.mem_append_right _ z
          · subst e; exact oB.ne a (m5 a ha) hb
          · rcases List.mem_append.mp ha with z | z
            · exact List.mem_append_left _ (m5 a z)
            · exact List.mem_append_right _ z
      · cases r
    · cases r
  · cases r
end
end Sh

/-! ShL: methods of lists -/
namespace Sh
open PySem PySem.Spec PyProof.Rows L2
section
variable {K : KK} {S S1 S' : AS} {H : Hp} {e e1 e' : En} {σ : Sl} {fo fo1 f g g1 g4 : List Addr} {w : V} {ws : List V} {m : Mk} {v : Val} {mv : MV} {xs ys : List Val} {mt : Mt} {vs : List MV} {r : MV} {Q : VK}
theorem RS.split : ∀ {xs : List Val} {ws : List V} {f : List Addr}, RS K S H (.l m) (xs ++ ys) ws f → ∃ ws1 ws2 f1 f2, ws = ws1 ++ ws2 ∧ f = f1 ++ f2 ∧ RS K S H (.l m) xs ws1 f1 ∧ RS K S H (.l m) ys ws2 f2
  | [], ws, f, h => ⟨[], ws, [], f, rfl, rfl, .nil _, h⟩
  | x :: xs, ws, f, h => by
    obtain ⟨v, ws', fp, fr, rfl, rfl, h1, h2⟩ := RS.uncons (show RS K S H (.l m) (x :: (xs ++ ys)) ws f from h)
    obtain ⟨a, b, c, d, rfl, rfl, h3, h4⟩ := RS.split h2
    exact ⟨v :: a, b, fp ++ c, d, rfl, by rw [List.append_assoc], RS.cons (mk := .l m) h1 h3, h4⟩
theorem RS.one (h : Rep K S H m v w f) : RS K S H (.l m) [v] [w] f := by
  have := RS.cons (mk := .l m) h (.nil _)
  simpa using this
theorem RS.rev : ∀ {xs : List Val} {ws : List V} {f : List Addr}, RS K S H (.l m) xs ws f → ∃ f', RS K S H (.l m) xs.reverse ws.reverse f' ∧ f'.Perm f
  | [], ws, f, h => by obtain ⟨rfl, rfl⟩ := h.nil_inv; exact ⟨[], .nil _, .refl _⟩
  | x :: xs, ws, f, h => by
    obtain ⟨v, ws', fp, fr, rfl, rfl, h1, h2⟩ := h.uncons
    obtain ⟨f', h3, p⟩ := RS.rev h2
    refine ⟨f' ++ fp, ?_, (p.append_right fp).trans List.perm_append_comm⟩
    rw [List.reverse_cons, List.reverse_cons]
    exact h3.append (RS.one h1)
/-- a value goes into a list -/
theorem fit_snd {y : Val} (hv : fit m mv = some y) (R : Rep K S H mv.1 mv.2 w g) : ∃ (S' : AS) (g' : List Addr), (∀ a, S a → S' a) ∧ g'.Sublist g ∧ (∀ a, S' a → S a ∨ (a ∈ g ∧ (g.Nodup → a ∉ g'))) ∧ Rep K S' H m y w g' := by
  unfold fit at hv
  split at hv
  · rename_i hm
    cases hv
    by_cases e1 : mv.1 = m
    · exact ⟨S, g, fun _ s => s, List.Sublist.refl _, fun a s => .inl s, by rw [← e1]; exact R⟩
    · obtain rfl := hm.resolve_left e1
      exact ⟨fun a => S a ∨ a ∈ g, [], fun a s => .inl s, List.nil_sublist _, fun a s => s.imp_right fun z => ⟨z, fun _ h => absurd h (by simp)⟩, Rep.st_of R (fun a s => .inl s) fun a ha => .inr ha⟩
  · cases hv
/-- more stays: what is ours shrinks -/
theorem grow_step (o : Ow K S H (fo ++ g)) (E : ∀ a ∈ fo ++ g, H a ≠ Option.none) {g' : List Addr} (h1 : ∀ a, S a → S' a) (h2 : g'.Sublist g) (h3 : ∀ a, S' a → S a ∨ (a ∈ g ∧ (g.Nodup → a ∉ g'))) : Step S H (fo ++ g) S' H (fo ++ g') ∧ Ow K S' H (fo ++ g') := by
  have sb : (fo ++ g').Sublist (fo ++ g) := (List.Sublist.refl _).append h2
  have ndg := o.right.nd
  have new : ∀ a, S' a → S a ∨ (a ∈ fo ++ g ∧ a ∉ fo ++ g') := fun a s => (h3 a s).imp_right fun ⟨z1, z2⟩ => ⟨List.mem_append_right _ z1, fun hm => by
    rcases List.mem_append.mp hm with y | y
    · exact o.ne a y z1
    · exact z2 ndg y⟩
  exact ⟨step_of E h1 new fun a ha => sb.subset ha, o.nd.sublist sb, fun a ha s => (new a s).elim (o.ds a (sb.subset ha)) fun z => z.2 ha, live_of o.live E new h1⟩
/-- a list of ours written -/
theorem wr_list {i : Nat} {p : Bool} (E : ES K S H e σ fo) (ei : e[i]? = some (.val p (.l m) (.lst xs))) (o : Ow K S H (fo ++ g4)) (hg4 : ∀ a ∈ g4, H a ≠ Option.none) :
    ∃ a ws0 g, σ[i]? = some (some (.ref a)) ∧ H a = some (.lst ws0) ∧ RS K S H (.l m) xs ws0 g ∧ (g ++ g4).Nodup ∧ ∀ {ys wsY gY mr vr wr gr}, RS K S H (.l m) ys wsY gY → Rep K S H mr vr wr gr → (gY ++ gr).Nodup → (∀ x ∈ gY ++ gr, x ∈ g ++ g4) →
      ∃ fo', Step S H (fo ++ g4) S (upd H a (.lst wsY)) (fo' ++ gr) ∧ Ow K S (upd H a (.lst wsY)) (fo' ++ gr) ∧ ES K S (upd H a (.lst wsY)) (e.set i (.val p (.l m) (.lst ys))) σ fo' ∧ Rep K S (upd H a (.lst wsY)) mr vr wr gr := by
  obtain ⟨w, fl, fp, fr, hw, rfl, R, put, _⟩ := E.get ei
  rcases Rep.inv_lst R with ⟨m', a, ws0, g, hm, rfl, rfl, hl, r⟩ | ⟨a, ws, hm, _⟩
  · cases hm
    have pm : ((fl ++ ((a :: g) ++ fr)) ++ g4).Perm (a :: ((fl ++ fr) ++ (g ++ g4))) := by
      have h1 : (fl ++ ((a :: g) ++ fr)).Perm (a :: (g ++ (fl ++ fr))) := by
        have : (fl ++ ((a :: g) ++ fr)).Perm ((a :: g) ++ (fl ++ fr)) := by
          rw [← List.append_assoc, ← List.append_assoc]; exact List.perm_append_comm.append_right _
        simpa using this
      refine (h1.append_right g4).trans ?_
      simp only [List.cons_append]
      refine List.Perm.cons a ?_
      have : ((g ++ (fl ++ fr)) ++ g4).Perm (((fl ++ fr) ++ g) ++ g4) := (List.perm_append_comm).append_right g4
      simpa only [List.append_assoc] using this
    have ndA := pm.nodup_iff.mp o.nd
    obtain ⟨na, nd1⟩ := List.nodup_cons.mp ndA
    obtain ⟨nlr, ngg, dj⟩ := List.nodup_append.mp nd1
    refine ⟨a, ws0, g, hw, hl, r, ngg, fun {ys wsY gY mr vr wr gr} RY Rr nd sub => ?_⟩
    have dsA : ∀ x, S x → x ∉ [a] := fun x s hx => by
      have : x = a := by simpa using hx
      subst this
      exact o.ds x (pm.mem_iff.mpr List.mem_cons_self) s
    have sW : Step S H [a] S (upd H a (.lst wsY)) [a] := Step.write (by simp) (by rw [hl]; trivial)
    have nx : ∀ x ∈ (fl ++ fr) ++ (g ++ g4), x ∉ [a] := fun x hx h => by
      have : x = a := by simpa using h
      subst this; exact na hx
    have hds : ∀ x ∈ (fl ++ fr) ++ (g ++ g4), ¬ S x := fun x hx => o.ds x (pm.mem_iff.mpr (List.mem_cons_of_mem _ hx))
    have RY' : RS K S (upd H a (.lst wsY)) (.l m) ys wsY gY := RS.step RY sW (fun x hx => nx x (List.mem_append_right _ (sub x (List.mem_append_left _ hx)))) dsA fun x hx => hds x (List.mem_append_right _ (sub x (List.mem_append_left _ hx)))
    have Rr' : Rep K S (upd H a (.lst wsY)) mr vr wr gr := RS.step Rr sW (fun x hx => nx x (List.mem_append_right _ (sub x (List.mem_append_right _ hx)))) dsA fun x hx => hds x (List.mem_append_right _ (sub x (List.mem_append_right _ hx)))
    have EN := put (p' := p) (Rep.lstO upd_same RY') fun {m2 ys2 ws2 g2} hg R2 => RS.step R2 sW (fun x hx => nx x (List.mem_append_left _ (hg x hx))) dsA fun x hx => hds x (List.mem_append_left _ (hg x hx))
    rw [set_self hw] at EN
    have pm2 : ((fl ++ ((a :: gY) ++ fr)) ++ gr).Perm (a :: ((fl ++ fr) ++ (gY ++ gr))) := by
      have h1 : (fl ++ ((a :: gY) ++ fr)).Perm (a :: (gY ++ (fl ++ fr))) := by
        have : (fl ++ ((a :: gY) ++ fr)).Perm ((a :: gY) ++ (fl ++ fr)) := by
          rw [← List.append_assoc, ← List.append_assoc]; exact List.perm_append_comm.append_right _
        simpa using this
      refine (h1.append_right gr).trans ?_
      simp only [List.cons_append]
      refine List.Perm.cons a ?_
      have : ((gY ++ (fl ++ fr)) ++ gr).Perm (((fl ++ fr) ++ gY) ++ gr) := (List.perm_append_comm).append_right gr
      simpa only [List.append_assoc] using this
    have mem : ∀ x ∈ (fl ++ ((a :: gY) ++ fr)) ++ gr, x ∈ (fl ++ ((a :: g) ++ fr)) ++ g4 := fun x hx => by
      refine pm.mem_iff.mpr ?_
      rcases List.mem_cons.mp (pm2.mem_iff.mp hx) with rfl | h
      · exact List.mem_cons_self
      · refine List.mem_cons_of_mem _ ?_
        rcases List.mem_append.mp h with h | h
        · exact List.mem_append_left _ h
        · exact List.mem_append_right _ (sub x h)
    have sF : Step S H ((fl ++ ((a :: g) ++ fr)) ++ g4) S (upd H a (.lst wsY)) ((fl ++ ((a :: g) ++ fr)) ++ g4) := Step.write (pm.mem_iff.mpr List.mem_cons_self) (by rw [hl]; trivial)
    refine ⟨fl ++ ((a :: gY) ++ fr), sF.perm mem, ⟨pm2.nodup_iff.mpr (List.nodup_cons.mpr ⟨fun h => na ?_, List.nodup_append.mpr ⟨nlr, nd, fun x hx y hy => dj x hx y (sub y hy)⟩⟩), fun x hx => o.ds x (mem x hx), sF.live o.live⟩, EN, Rr'⟩
    rcases List.mem_append.mp h with h | h
    · exact List.mem_append_left _ h
    · exact List.mem_append_right _ (sub _ h)
  · cases hm
def rM (K : PySem.W.Frag) : Mt → V → List V → Hp → VK → Prop
  | .append => rAppend
  | .pop => rPop
  | .reverse => rReverse
  | .clear => rClear
  | .insert => fun x vs H Q => ∃ (l : Addr) (xs : List V) (i : Int) (y : V), x = .ref l ∧ vs = [.int i, y] ∧ H l = some (.lst xs) ∧ xs.length < sizeLine ∧ 0 ≤ i ∧ i < 2 ^ 63 ∧ Q .non (upd H l (.lst (xs.take i.toNat ++ [y] ++ xs.drop i.toNat)))
  | .extend => rExtend
  | .index => rIndexD K
def Mt.id : Mt → String
  | .append => "list.append" | .pop => "list.pop" | .reverse => "list.reverse" | .clear => "list.clear" | .insert => "list.insert" | .extend => "list.extend" | .index => "list.index"
def Mt.nm : Mt → Str
  | .append => "append" | .pop => "pop" | .reverse => "reverse" | .clear => "clear" | .insert => "insert" | .extend => "extend" | .index => "index"
theorem mt_all {X : Cx} (hu : X.A.units + 66 < cLine) : ∀ mt : Mt, MtR X mt.id (rM X.K mt)
  | .append => mt_append
  | .pop => mt_pop
  | .reverse => mt_reverse
  | .clear => mt_clear
  | .insert => mt_insert
  | .extend => mt_extend
  | .index => mt_indexD (by omega)
theorem mt_slot : ∀ mt : Mt, PySem.Slot "list" mt.nm mt.id
  | .append => PySem.F.slot_list_append
  | .pop => PySem.F.slot_list_pop
  | .reverse => PySem.F.slot_list_reverse
  | .clear => PySem.F.slot_list_clear
  | .insert => PySem.F.slot_list_insert
  | .extend => PySem.F.slot_list_extend
  | .index => PySem.F.slot_list_index
theorem mt_ty : ∀ mt : Mt, typeOf (.builtin mt.id) = pure (.type "method_descriptor")
  | .append => PySem.F.type_list_append
  | .pop => PySem.F.type_list_pop
  | .reverse => PySem.F.type_list_reverse
  | .clear => PySem.F.type_list_clear
  | .insert => PySem.F.type_list_insert
  | .extend => PySem.F.type_list_extend
  | .index => PySem.F.type_list_index
/-- what a method changes -/
theorem mutV_snd {i : Nat} {p : Bool} (hm : mutV m xs mt vs = some (ys, r)) (E : ES K S H e σ fo) (ei : e[i]? = some (.val p (.l m) (.lst xs))) (o : Ow K S H (fo ++ g)) (R : RA K S H vs ws g)
    (hw : σ[i]? = some (some w)) (k : ∀ S' H' fo' w g', Step S H (fo ++ g) S' H' (fo' ++ g') → Ow K S' H' (fo' ++ g') → ES K S' H' (e.set i (.val p (.l m) (.lst ys))) σ fo' → Rep K S' H' r.1 r.2 w g' → Q w H') : rM K.K mt w ws H Q := by
  have hfo : ∀ a ∈ fo ++ g, H a ≠ Option.none := fun a ha => (List.mem_append.mp ha).elim (fun z => (E.own a z).some) fun z => (RS.own R a z).some
  have hg : ∀ a ∈ g, H a ≠ Option.none := fun a ha => hfo a (List.mem_append_right _ ha)
  unfold mutV at hm
  split at hm
  · -- append
    rename_i v
    split at hm
    · rename_i hl
      simp only [Option.map_eq_some_iff, Prod.mk.injEq] at hm
      obtain ⟨y, hy, rfl, rfl⟩ := hm
      obtain ⟨w1, rfl, R1⟩ := RA.one R
      obtain ⟨S3, g3, a1, a2, a3, R3⟩ := fit_snd hy R1
      obtain ⟨st3, o3⟩ := grow_step o hfo a1 a2 a3
      have E3 : ES K S3 H e σ fo := E.keep fun _ q => q.growS a1
      obtain ⟨a, ws0, g0, hσ, ha, R0, nd0, wr⟩ := wr_list E3 ei o3 fun a ha => hg a (a2.subset ha)
      rw [hw] at hσ; cases hσ
      obtain ⟨fo', st', o', E', Rr⟩ := wr (mr := .st) (vr := .non) (wr := .non) (gr := []) (R0.append (RS.one R3)) Rep.non (by simpa using nd0) (by simp)
      exact ⟨a, ws0, w1, rfl, rfl, ha, by rw [R0.length]; exact hl, k _ _ _ _ _ (st3.trans0 st') o' E' Rr⟩
    · cases hm
  · -- pop
    split at hm
    · rename_i y hy
      cases hm
      obtain ⟨rfl, rfl⟩ := RS.nil_inv (show RS K S H _ [] ws g from R)
      obtain ⟨a, ws0, g0, hσ, ha, R0, nd0, wr⟩ := wr_list E ei o hg
      rw [hw] at hσ; cases hσ
      have hx : xs = xs.dropLast ++ [y] := by
        have hne : xs ≠ [] := fun h => by subst h; simp at hy
        rw [List.getElem?_eq_some_iff] at hy
        obtain ⟨hlt, hy⟩ := hy
        rw [← hy, ← List.getLast_eq_getElem hne, List.dropLast_concat_getLast]
      rw [hx] at R0
      obtain ⟨ws1, ws2, f1, f2, rfl, rfl, R1, R2⟩ := RS.split R0
      obtain ⟨w2, ws2', fp, fr, rfl, rfl, R3, R4⟩ := R2.uncons
      obtain ⟨rfl, rfl⟩ := R4.nil_inv
      obtain ⟨fo', st', o', E', Rr⟩ := wr (ys := xs.dropLast) R1 R3 (by simpa using nd0) (by simp)
      refine ⟨a, ws1 ++ [w2], w2, rfl, rfl, ha, by simp, ?_⟩
      rw [List.dropLast_concat]
      exact k _ _ _ _ _ st' o' E' Rr
    · cases hm
  · -- reverse
    cases hm
    obtain ⟨rfl, rfl⟩ := RS.nil_inv (show RS K S H _ [] ws g from R)
    obtain ⟨a, ws0, g0, hσ, ha, R0, nd0, wr⟩ := wr_list E ei o hg
    rw [hw] at hσ; cases hσ
    obtain ⟨f', R1, pm⟩ := R0.rev
    rw [List.append_nil] at nd0
    obtain ⟨fo', st', o', E', Rr⟩ := wr (mr := .st) (vr := .non) (wr := .non) (gr := []) R1 Rep.non (by rw [List.append_nil]; exact pm.nodup_iff.mpr nd0) (fun x hx => by
      rw [List.append_nil] at hx ⊢; exact pm.mem_iff.mp hx)
    exact ⟨a, ws0, rfl, rfl, ha, k _ _ _ _ _ st' o' E' Rr⟩
  · -- clear
    cases hm
    obtain ⟨rfl, rfl⟩ := RS.nil_inv (show RS K S H _ [] ws g from R)
    obtain ⟨a, ws0, g0, hσ, ha, R0, nd0, wr⟩ := wr_list E ei o hg
    rw [hw] at hσ; cases hσ
    obtain ⟨fo', st', o', E', Rr⟩ := wr (ys := []) (mr := .st) (vr := .non) (wr := .non) (gr := []) (.nil _) Rep.non (by simp) (by simp)
    exact ⟨a, ws0, rfl, rfl, ha, k _ _ _ _ _ st' o' E' Rr⟩
  · -- insert
    rename_i m1 j v
    split at hm
    · rename_i hl
      simp only [Option.map_eq_some_iff, Prod.mk.injEq] at hm
      obtain ⟨y, hy, rfl, rfl⟩ := hm
      obtain ⟨w1, w2, f1, f2, rfl, rfl, R1, R2⟩ := RA.two R
      obtain ⟨rfl, rfl⟩ := Rep.inv_int R1
      rw [List.nil_append] at o hfo hg k R
      obtain ⟨S3, g3, a1, a2, a3, R3⟩ := fit_snd hy R2
      obtain ⟨st3, o3⟩ := grow_step o hfo a1 a2 a3
      have E3 : ES K S3 H e σ fo := E.keep fun _ q => q.growS a1
      obtain ⟨a, ws0, g0, hσ, ha, R0, nd0, wr⟩ := wr_list E3 ei o3 fun a ha => hg a (a2.subset ha)
      rw [hw] at hσ; cases hσ
      have hx : xs = xs.take j.toNat ++ xs.drop j.toNat := (List.take_append_drop _ _).symm
      rw [hx] at R0
      obtain ⟨ws1, ws2, h1, h2, rfl, rfl, R4, R5⟩ := RS.split R0
      have l1 : ws1.length = (xs.take j.toNat).length := R4.length
      have l2 : ws2.length = (xs.drop j.toNat).length := R5.length
      obtain ⟨fo', st', o', E', Rr⟩ := wr (ys := xs.take j.toNat ++ [y] ++ xs.drop j.toNat) (mr := .st) (vr := .non) (wr := .non) (gr := []) ((R4.append (RS.one R3)).append R5) Rep.non (by
        rw [List.append_nil]
        have pm : ((h1 ++ h2) ++ g3).Perm ((h1 ++ g3) ++ h2) := by
          rw [List.append_assoc, List.append_assoc]; exact List.Perm.append_left _ List.perm_append_comm
        exact pm.nodup_iff.mp nd0) (fun x hx => by
          simp only [List.mem_append, List.append_nil] at hx ⊢
          rcases hx with (h | h) | h
          · exact .inl (.inl h)
          · exact .inr h
          · exact .inl (.inr h))
      have t1 : (ws1 ++ ws2).take j.toNat = ws1 ∧ (ws1 ++ ws2).drop j.toNat = ws2 := by
        simp only [List.length_take, List.length_drop] at l1 l2
        by_cases hj : j.toNat ≤ xs.length
        · have : ws1.length = j.toNat := by omega
          rw [← this]; simp
        · have h3 : ws2 = [] := List.length_eq_zero_iff.mp (by omega)
          subst h3
          rw [List.append_nil, List.take_of_length_le (by omega), List.drop_eq_nil_of_le (by omega)]
          exact ⟨rfl, rfl⟩
      refine ⟨a, ws1 ++ ws2, j, w2, rfl, rfl, ha, ?_, hl.2.1, hl.2.2, ?_⟩
      · have : (ws1 ++ ws2).length = xs.length := by
          rw [List.length_append, l1, l2, List.length_take, List.length_drop]; omega
        rw [this]; exact hl.1
      · rw [t1.1, t1.2]
        exact k _ _ _ _ _ (st3.trans0 st') o' E' Rr
    · cases hm
  · -- extend
    rename_i m' ys'
    split at hm
    · rename_i hl
      cases hm
      obtain ⟨rfl, rfl, hl⟩ := hl
      obtain ⟨w1, rfl, R1⟩ := RA.one R
      obtain ⟨a, ws0, g0, hσ, ha, R0, nd0, wr⟩ := wr_list E ei o hg
      rw [hw] at hσ; cases hσ
      rcases Rep.inv_lst R1 with ⟨m2, b, ws1, g1, hm, rfl, rfl, hb, R2⟩ | ⟨b, ws1, hm, _⟩
      · cases hm
        obtain ⟨fo', st', o', E', Rr⟩ := wr (mr := .st) (vr := .non) (wr := .non) (gr := []) (R0.append R2) Rep.non (by
          rw [List.append_nil]
          exact nd0.sublist ((List.Sublist.refl _).append (List.sublist_cons_self _ _))) (fun x hx => by
            simp only [List.mem_append, List.append_nil, List.mem_cons] at hx ⊢
            rcases hx with h | h
            · exact .inl h
            · exact .inr (.inr h))
        exact ⟨a, b, ws0, ws1, rfl, rfl, ha, hb, by rw [R0.length, R2.length]; exact hl, k _ _ _ _ _ st' o' E' Rr⟩
      · cases hm
    · cases hm
  · cases hm
theorem s_meth {c : Calls} {x es : Sh.E} {σ : Sl} {H : Hp} {Q : VK} (hi : mt ≠ .index) (h : tEv K c (.meth mt x es) σ H Q) : tBM K.K "list" (rM K.K mt) (tEv K c x) (tAr K c es) σ H Q := by
  obtain ⟨S, e, fo, z, e', E, O, r, h⟩ := h
  have r' : ((ev K.kt c x e).bind fun x e => match x with
        | .slot i => if !isLS e i then .bad else (evs K.kt c es e).bind fun as e => (takeAs true as e).bind fun vs e => match e[i]? with
          | some (.val p (.l m) (.lst xs)) => match mutV m xs mt vs with
            | some (ys, r) => Res.ok (Arg.tmp r.1 r.2) (e.set i (.val p (.l m) (.lst ys)))
            | none => .bad
          | _ => .bad
        | _ => .bad) = .ok z e' := by
    cases mt <;> first | exact absurd rfl hi | exact r
  obtain ⟨a, e1, r1, r⟩ := Res.bind_ok r'
  split at r
  · rename_i i
    split at r
    · cases r
    · rename_i hls
      obtain ⟨as, e2, r2, r⟩ := Res.bind_ok r
      obtain ⟨vs, e3, r3, r⟩ := Res.bind_ok r
      split at r
      · rename_i p m xs ei
        split at r
        · rename_i ys rr hm
          cases r
          refine ⟨S, e, fo, _, e1, E, O, r1, fun S1 H1 fo1 w1 g1 st1 o1 E1 A1 => ⟨?_, S1, e1, fo1, as, e2, E1, o1.left, r2, fun S2 H2 fo2 ws g2 st2 o2 E2 A2 => ?_⟩⟩
          · -- a list at this time
            unfold isLS at hls
            split at hls
            · rename_i p0 m0 xs0 ei0
              obtain ⟨w0, fl, fp, fr, hw, rfl, R0, _⟩ := E1.get ei0
              rw [A1.2] at hw; cases hw
              rcases Rep.inv_lst R0 with ⟨m', a, ws0, g, hm, rfl, rfl, hl, r⟩ | ⟨a, ws, hm, _⟩
              · exact .inl ⟨rfl, ws0, SqL.of hl⟩
              · cases hm
            · simp at hls
          · obtain ⟨rfl, hw⟩ := A1
            rw [List.append_nil] at o1
            obtain ⟨S3, fo3, g3, t⟩ := takeAs_snd r3 E2 o2 A2
            have hf : ∀ a ∈ fo2 ++ g2, H2 a ≠ Option.none := fun a ha => (List.mem_append.mp ha).elim (fun z => (E2.own a z).some) fun z => (A2.own a z).some
            obtain ⟨st3, o3⟩ := t.stp (st1.nog.trans st2) (by simpa using o2) (by simpa using hf)
            refine mutV_snd hm t.es ei o3 t.rep hw fun S' H' fo' w g' st' o' E' R' => ?_
            exact h S' H' fo' w g' (.of (Step.trans0 st3.full st')) o' E' R'
        · cases r
      · cases r
  · cases r
end
end Sh

/-! ShM: targets, what loops walk -/
namespace Sh
open PySem PySem.Spec PyProof.Rows L2
/-! ### index -/
theorem Ds_get : ∀ {xs : List Val} {j : Nat}, (Val.Ds xs)[j]? = (xs[j]?).map Val.D
  | [], j => by simp [Val.Ds]
  | x :: xs, 0 => by simp [Val.Ds]
  | x :: xs, j + 1 => by simp only [Val.Ds, List.getElem?_cons_succ]; exact Ds_get
theorem s_index {K : KK} {c : Calls} {x es : Sh.E} {σ : Sl} {H : Hp} {Q : VK} (h : tEv K c (.meth .index x es) σ H Q) : tBM K.K "list" (rM K.K .index) (tEv K c x) (tAr K c es) σ H Q := by
  obtain ⟨S, e, fo, z, e', E, O, r, h⟩ := h
  obtain ⟨a, e1, r1, r⟩ := Res.bind_ok r
  split at r
  · cases r
  · rename_i hq
    have hq : quiet es = true := by simpa using hq
    obtain ⟨as, e2, r2, rq⟩ := Res.bind_ok r
    have he := evs_quiet r2 hq
    subst he
    split at rq
    · rename_i m0 xs v hx hv
      obtain ⟨rfl, rr⟩ := optR_ok rq
      obtain ⟨k, hk, rfl⟩ := Option.map_eq_some_iff.mp rr
      unfold indexV at hk
      split at hk
      · rename_i hok
        rw [Bool.and_eq_true] at hok
        obtain ⟨j, hj, rfl⟩ := Option.map_eq_some_iff.mp hk
        refine ⟨S, e, fo, _, _, E, O, r1, fun S1 H1 fo1 w1 g1 st1 o1 E1 A1 => ⟨?_, S1, _, fo1, as, _, E1, o1.left, r2, fun S2 H2 fo2 ws g2 st2 o2 E2 A2 => ?_⟩⟩
        · obtain ⟨f, R⟩ := readA_snd hx E1 A1
          obtain ⟨a, ws, g, rfl, q, _⟩ := Rep.seqL R
          exact .inl ⟨rfl, ws, q⟩
        · obtain ⟨s, o, A⟩ := s_next st1 o1 A1 (fun _ => ⟨hq, rfl⟩) st2 o2
          obtain ⟨f1, R1⟩ := readA_snd hx E2 A
          obtain ⟨f2, R2⟩ := readAs_snd hv E2 A2
          obtain ⟨w2, rfl, R3⟩ := RA.one R2
          obtain ⟨a, ws, g, rfl, q, _⟩ := Rep.seqL R1
          have dx : Dp K.K H2 w2 v.2.D := R3.dp hok.1
          have dl : Dp K.K H2 (.ref a) (Val.lst xs).D := R1.dp hok.2
          obtain ⟨hlt, hp, hn⟩ := List.findIdx?_eq_some_iff_getElem.mp hj
          have dl' : Dp K.K H2 (.ref a) (.list (Val.Ds xs)) := by simpa [Val.D] using dl
          refine ⟨a, w2, v.2.D, Val.Ds xs, j, (xs[j]).D, rfl, rfl, dl', dx, by simpa [okV, Val.D] using hok.2, hok.1, ?_, hp, fun m z' hm hz => ?_, (h.give s.weak o.left E2).int o.left⟩
          · rw [Ds_get, List.getElem?_eq_getElem hlt]; rfl
          · rw [Ds_get, List.getElem?_eq_getElem (by omega)] at hz
            cases hz
            simpa using hn m hm
      · cases hk
    · cases rq
/-! ### targets -/
mutual
def tIdx : T → List Nat
  | .nm i => [i]
  | .tp ts => tIdxs ts
  | .nil => [] | .cons _ _ => []
def tIdxs : T → List Nat
  | .cons t ts => tIdx t ++ tIdxs ts
  | .nil => [] | .nm _ => [] | .tp _ => []
end
/-- the same but at is -/
structure Agr (is : List Nat) (σ σ' : Sl) : Prop where
  len : σ'.length = σ.length
  eq : ∀ (j : Nat), j ∉ is → σ'[j]? = σ[j]?
theorem Agr.refl (is : List Nat) (σ : Sl) : Agr is σ σ := ⟨rfl, fun _ _ => rfl⟩
theorem Agr.trans {is js : List Nat} {a b c : Sl} (h : Agr is a b) (k : Agr js b c) : Agr (is ++ js) a c := ⟨k.len.trans h.len, fun j hj => by
  simp only [List.mem_append, not_or] at hj
  exact (k.eq j hj.2).trans (h.eq j hj.1)⟩
section
variable (K : KK)
def KG (is : List Nat) (S : AS) (H : Hp) (fo : List Addr) (e' : En) (σ : Sl) (Q : Sl → Hp → Prop) : Prop :=
  ∀ S' H' fo' σ', Step S H fo S' H' fo' → Ow K S' H' fo' → ES K S' H' e' σ' fo' → Agr is σ σ' → Q σ' H'
/-- a value, or a pair that a walk has just made -/
def RepI (K : KK) (S : AS) (H : Hp) (m : Mk) (v : Val) (w : V) (f : List Addr) : Prop := Rep K S H m v w f ∨ (m = .pr ∧ f = [] ∧ ∃ xs a ws, v = .tup xs ∧ w = .ref a ∧ H a = some (.tup ws) ∧ RS K S H .pr xs ws [])
def gT (t : T) : TG := fun v σ H Q => ∃ S e fo mv f e', ES K S H e σ fo ∧ Ow K S H (fo ++ f) ∧ RepI K S H mv.1 mv.2 v f ∧ asgT t mv e = some e' ∧ KG K (tIdx t) S H (fo ++ f) e' σ Q
def gTs (t : T) : TGs := fun vs σ H Q => ∃ S e fo m xs f e', ES K S H e σ fo ∧ Ow K S H (fo ++ f) ∧ RS K S H m xs vs f ∧ asgTs t m xs e = some e' ∧ KG K (tIdxs t) S H (fo ++ f) e' σ Q
end
section
variable {K : KK} {S S1 S' : AS} {H H1 : Hp} {e e1 e' : En} {σ : Sl} {fo fo1 f g g1 g4 : List Addr} {w v : V} {ws vs : List V} {m : Mk} {Q : Sl → Hp → Prop}
/-- any slot filled anew -/
theorem ES.fill {i : Nat} {p : Bool} {v : Val} (E : ES K S H e σ fo) (hi : i < e.length) (R : Rep K S H m v w g) : ∃ fl fr, (fl ++ fr).Sublist fo ∧ ES K S H (e.set i (.val p m v)) (σ.set i (some w)) (fl ++ (g ++ fr)) := by
  obtain ⟨f1, sb, E1⟩ := E.drop (i := i)
  obtain ⟨fl, fr, rfl, E2⟩ := E1.put (p := p) (i := i) (by rw [List.getElem?_set_self hi]) R
  rw [List.set_set] at E2
  exact ⟨fl, fr, sb, E2⟩
theorem ins_nodup {fl fr : List Addr} (o : (fo ++ g).Nodup) (sb : (fl ++ fr).Sublist fo) : (fl ++ (g ++ fr)).Nodup ∧ ∀ x ∈ fl ++ (g ++ fr), x ∈ fo ++ g := by
  have pm : ((fl ++ fr) ++ g).Perm (fl ++ (g ++ fr)) := by
    rw [List.append_assoc]; exact List.Perm.append_left _ List.perm_append_comm
  have sb2 : ((fl ++ fr) ++ g).Sublist (fo ++ g) := sb.append (List.Sublist.refl _)
  exact ⟨pm.nodup_iff.mp (o.sublist sb2), fun x hx => sb2.subset (pm.mem_iff.mpr hx)⟩
theorem Ow.less {fo' : List Addr} (o : Ow K S H fo) (nd : fo'.Nodup) (m : ∀ x ∈ fo', x ∈ fo) : Ow K S H fo' := ⟨nd, fun a ha => o.ds a (m a ha), o.live⟩
theorem s_nm {i : Nat} (h : gT K (.nm i) v σ H Q) : gName i v σ H Q := by
  obtain ⟨S, e, fo, mv, f, e', E, o, R, r, h⟩ := h
  simp only [asgT] at r
  split at r
  · cases r
  rename_i hpr
  have R := R.resolve_right fun z => hpr z.1
  split at r
  · cases r
  · rename_i s hn ei
    cases r
    obtain ⟨fl, fr, sb, E2⟩ := E.fill (p := false) (List.getElem?_eq_some_iff.mp ei).1 R
    obtain ⟨nd, mm⟩ := ins_nodup o.nd sb
    refine h S H _ _ (Step.refl.perm mm) (o.less nd mm) E2 ⟨by simp, fun j hj => ?_⟩
    exact List.getElem?_set_ne fun q => hj (by simp [tIdx, q])
  · cases r
theorem s_tnil (h : gTs K .nil vs σ H Q) : gNil vs σ H Q := by
  obtain ⟨S, e, fo, m, xs, f, e', E, o, R, r, h⟩ := h
  cases xs with
  | nil =>
    simp only [asgTs] at r; cases r
    obtain ⟨rfl, rfl⟩ := R.nil_inv
    rw [List.append_nil] at o h
    exact ⟨rfl, h S H fo σ .refl o E (.refl _ _)⟩
  | cons x xs => simp [asgTs] at r
theorem s_tcons {t ts : T} (h : gTs K (.cons t ts) vs σ H Q) : gCons (gT K t) (gTs K ts) vs σ H Q := by
  obtain ⟨S, e, fo, m, xs, f, e', E, o, R, r, h⟩ := h
  cases xs with
  | nil => simp [asgTs] at r
  | cons x xs =>
    simp only [asgTs] at r
    split at r
    · rename_i e1 r1
      obtain ⟨w, ws, fp, fr, rfl, rfl, R1, R2⟩ := R.uncons
      have o1 : Ow K S H ((fo ++ fp) ++ fr) := by rw [List.append_assoc]; exact o
      have hfr : ∀ x ∈ fr, H x ≠ Option.none := fun x hx => (RS.own R2 x hx).some
      refine ⟨w, ws, rfl, S, e, fo, (m.hd, x), fp, e1, E, o1.left, .inl R1, r1, fun S1 H1 fo1 σ1 st1 ow1 E1 a1 => ?_⟩
      have R2' : RS K S1 H1 m.tl xs ws fr := RS.step R2 st1 o1.ne' o1.left.sd o1.right.ds
      have o2 : Ow K S1 H1 (fo1 ++ fr) := (Ow.step o1 st1 ow1 hfr).perm List.perm_append_comm
      refine ⟨S1, e1, fo1, m.tl, xs, fr, e', E1, o2, R2', r, fun S2 H2 fo2 σ2 st2 ow2 E2 a2 => ?_⟩
      have st : Step S H (fo ++ (fp ++ fr)) S1 H1 (fo1 ++ fr) := by
        have z := Step.more st1 (fo2 := fo ++ (fp ++ fr)) fun x hx => by
          rw [← List.append_assoc]; exact List.mem_append_left _ hx
        exact ⟨z.frame, z.tups, z.frzs, z.grow, z.stab, z.stabN, fun x hx => by
          rcases List.mem_append.mp hx with hx | hx
          · exact z.own x hx
          · exact .inl (by simp [hx]), z.live⟩
      exact h S2 H2 fo2 σ2 (st.trans0 st2) ow2 E2 (a1.trans a2)
    · cases r
def tlen : T → Nat
  | .cons _ ts => tlen ts + 1
  | _ => 0
theorem asgTs_len : ∀ {ts : T} {m : Mk} {xs : List Val} {e e' : En}, asgTs ts m xs e = some e' → xs.length = tlen ts
  | .nil, m, [], e, e', h => rfl
  | .nil, m, x :: xs, e, e', h => by simp [asgTs] at h
  | .cons t ts, m, [], e, e', h => by simp [asgTs] at h
  | .cons t ts, m, x :: xs, e, e', h => by
    simp only [asgTs] at h
    split at h
    · simp [tlen, asgTs_len h]
    · cases h
  | .nm _, m, xs, e, e', h => by cases xs <;> simp [asgTs] at h
  | .tp _, m, xs, e, e', h => by cases xs <;> simp [asgTs] at h
theorem s_ttp {ts : T} (h : gT K (.tp ts) v σ H Q) : gTup K.K (tlen ts) (gTs K ts) v σ H Q := by
  obtain ⟨S, e, fo, mv, f, e', E, o, R, r, h⟩ := h
  obtain ⟨m, x⟩ := mv
  simp only [asgT] at r
  split at r
  · rename_i xs
    split at r
    · cases r
    · rcases R with R | ⟨rfl, rfl, _, a, ws, ex, rfl, ta, R1⟩
      case inr =>
        cases ex
        exact ⟨a, ws, rfl, .inl (.inl ta), by rw [R1.length]; exact asgTs_len r, S, e, fo, .pr, xs, [], e', E, o, R1, r, h⟩
      obtain ⟨a, ws, rfl, hl, ta, R1⟩ := Rep.inv_tup R
      exact ⟨a, ws, rfl, ta.sq, by rw [R1.length]; exact asgTs_len r, S, e, fo, m, xs, f, e', E, o, R1, r, h⟩
  · cases r
end
/-! ### what a loop walks -/
/-- J yields xs, as long as what stays stays -/
def Walks (K : KK) (J : It) (m : Mk) (xs : List Val) (S : AS) (H : Hp) : Prop := ∀ S' H', (∀ {mk ys ws}, RS K S H mk ys ws [] → RS K S' H' mk ys ws []) → (∀ a o u, H a = some (.frz o u) → H' a = some (.frz o u)) → ∀ i : Nat,
  (∀ v, xs[i]? = some v → J.go i H' ∧ ∀ w H'', J.yld i H' w H'' → Step S' H' [] S' H'' [] ∧ RepI K S' H'' m v w []) ∧ (xs.length ≤ i → J.stop i H')
section
variable {K : KK} {S S' : AS} {H H' : Hp} {σ : Sl} {w : V} {xs ys : List Val}
theorem RS.getS {ws : List V} {i : Nat} {x : Val} (h : RS K S H .st xs ws []) (e : xs[i]? = some x) : ∃ w, ws[i]? = some w ∧ Rep K S H .st x w [] := by
  obtain ⟨v, fl, fp, fr, h1, h2, h3, _⟩ := RS.get h e
  have : fp = [] := by
    have := h2.symm
    simp only [List.append_eq_nil_iff] at this
    exact this.2.1
  subst this
  rw [Mk.at_st] at h3
  exact ⟨v, h1, h3⟩
theorem walks_list (R : Rep K S H .st (.lst xs) w []) : ∃ a ws, w = .ref a ∧ SqL K.K H a ws ∧ Walks K (Itl K.K a) .st xs S H := by
  obtain ⟨a, ws, g, rfl, q, _⟩ := Rep.seqL R
  refine ⟨a, ws, rfl, q, fun S' H' keep _ i => ?_⟩
  have R' : Rep K S' H' .st (.lst xs) (.ref a) [] := keep R
  obtain ⟨a', ws', g', e1, q', rs, hg⟩ := Rep.seqL R'
  cases e1
  obtain rfl := hg rfl
  refine ⟨fun v hv => ?_, fun hl => ⟨ws', q', by rw [rs.length]; exact hl⟩⟩
  obtain ⟨w, hw, rw'⟩ := rs.getS hv
  refine ⟨⟨ws', w, q', hw⟩, fun w2 H'' hy => ?_⟩
  obtain ⟨rfl, hy⟩ := hy
  have := hy ws' q'
  rw [hw] at this; cases this
  exact ⟨.refl, .inl rw'⟩
theorem walks_tup (R : Rep K S H .st (.tup xs) w []) : ∃ a ws, w = .ref a ∧ SqT K.K H a ws ∧ Walks K (Itt K.K a) .st xs S H := by
  obtain ⟨a, ws, rfl, _, q, rs0⟩ := Rep.inv_tup R
  refine ⟨a, ws, rfl, q.sq, fun S' H' keep _ i => ?_⟩
  have R' : Rep K S' H' .st (.tup xs) (.ref a) [] := keep R
  obtain ⟨a', ws', e1, _, q', rs⟩ := Rep.inv_tup R'
  cases e1
  refine ⟨fun v hv => ?_, fun hl => ⟨ws', q'.sq, by rw [rs.length]; exact hl⟩⟩
  obtain ⟨w, hw, rw'⟩ := rs.getS hv
  refine ⟨⟨ws', w, q'.sq, hw⟩, fun w2 H'' hy => ?_⟩
  obtain ⟨rfl, hy⟩ := hy
  have := hy ws' q'.sq
  rw [hw] at this; cases this
  exact ⟨.refl, .inl rw'⟩
theorem walks_str {x : Str} : Walks K (Its x) .st (x.cps.toList.map fun c => .str ⟨#[c]⟩) S H := fun S' H' keep _ i => by
  refine ⟨fun v hv => ?_, fun hl => by
    have : x.cps.toList.length ≤ i := by simpa using hl
    show x.cps.size ≤ i
    simpa using this⟩
  rw [List.getElem?_map] at hv
  obtain ⟨c, hc, rfl⟩ := Option.map_eq_some_iff.mp hv
  have hc' : x.cps[i]? = some c := by simpa using hc
  refine ⟨by
    have := (Array.getElem?_eq_some_iff.mp hc').1
    exact this, fun w2 H'' hy => ?_⟩
  obtain ⟨rfl, c', h1, rfl⟩ := hy
  rw [hc'] at h1; cases h1
  exact ⟨.refl, .inl Rep.str⟩
theorem walks_range {lo hi : Int} : Walks K (Itr lo (hi - lo).toNat) .st (rangeL lo hi) S H := fun S' H' keep _ i => by
  unfold rangeL
  refine ⟨fun v hv => ?_, fun hl => show _ ≤ i by simpa only [List.length_map, List.length_range] using hl⟩
  rw [List.getElem?_map] at hv
  obtain ⟨c, hc, rfl⟩ := Option.map_eq_some_iff.mp hv
  obtain ⟨hlt, hc⟩ := List.getElem?_eq_some_iff.mp hc
  rw [List.getElem_range] at hc
  subst hc
  rw [List.length_range] at hlt
  refine ⟨hlt, fun w2 H'' hy => ?_⟩
  obtain ⟨rfl, rfl⟩ := hy
  exact ⟨.refl, .inl Rep.int⟩
theorem walks_rangeC {lo c : Int} {n : Nat} : Walks K (Itc lo c n) .st (rangeC lo c n) S H := fun S' H' keep _ i => by
  unfold rangeC
  refine ⟨fun v hv => ?_, fun hl => show _ ≤ i by simpa only [List.length_map, List.length_range] using hl⟩
  rw [List.getElem?_map] at hv
  obtain ⟨k, hc, rfl⟩ := Option.map_eq_some_iff.mp hv
  obtain ⟨hlt, hc⟩ := List.getElem?_eq_some_iff.mp hc
  rw [List.getElem_range] at hc
  subst hc
  rw [List.length_range] at hlt
  refine ⟨hlt, fun w2 H'' hy => ?_⟩
  obtain ⟨rfl, rfl⟩ := hy
  exact ⟨.refl, .inl Rep.int⟩
theorem step_new {T : Addr} {o : HO} (hT : H' T = none) : Step S' H' [] S' (upd H' T o) [] := Step.newS hT
theorem walks_enum (R : Rep K S H .st (.lst xs) w []) : ∃ a ws, w = .ref a ∧ SqL K.K H a ws ∧ Walks K (Ite K.K a) .pr (enumL xs) S H := by
  obtain ⟨a, ws, g, rfl, q, _⟩ := Rep.seqL R
  refine ⟨a, ws, rfl, q, fun S' H' keep _ i => ?_⟩
  have R' : Rep K S' H' .st (.lst xs) (.ref a) [] := keep R
  obtain ⟨a', ws', g', e1, q', rs, hg⟩ := Rep.seqL R'
  cases e1
  obtain rfl := hg rfl
  unfold enumL
  refine ⟨fun v hv => ?_, fun hl => ⟨ws', q', by rw [rs.length]; simpa using hl⟩⟩
  rw [List.getElem?_map, List.getElem?_zipIdx] at hv
  obtain ⟨p, hp, rfl⟩ := Option.map_eq_some_iff.mp hv
  obtain ⟨x, hx, rfl⟩ := Option.map_eq_some_iff.mp hp
  obtain ⟨w, hw, rw'⟩ := rs.getS hx
  refine ⟨⟨ws', w, q', hw⟩, fun w2 H'' hy => ?_⟩
  obtain ⟨T, x', rfl, hT, rfl, hy⟩ := hy
  have := hy ws' q'
  rw [hw] at this; cases this
  refine ⟨step_new hT, .inr ⟨rfl, rfl, _, _, _, rfl, rfl, upd_same, RS.laid ?_ hT⟩⟩
  have := RS.cons (mk := .pr) (Rep.int (K := K) (S := S') (H := H') (m := .st) (i := ((0 + i : Nat) : Int))) (RS.cons (mk := .st) rw' (.nil _))
  simpa using this
theorem walks_enumT (R : Rep K S H .st (.tup xs) w []) : ∃ a ws, w = .ref a ∧ SqT K.K H a ws ∧ Walks K (IteT K.K a) .pr (enumL xs) S H := by
  obtain ⟨a, ws, rfl, _, q, _⟩ := Rep.inv_tup R
  refine ⟨a, ws, rfl, q.sq, fun S' H' keep _ i => ?_⟩
  have R' : Rep K S' H' .st (.tup xs) (.ref a) [] := keep R
  obtain ⟨a', ws', e1, _, q', rs⟩ := Rep.inv_tup R'
  cases e1
  unfold enumL
  refine ⟨fun v hv => ?_, fun hl => ⟨ws', q'.sq, by rw [rs.length]; simpa using hl⟩⟩
  rw [List.getElem?_map, List.getElem?_zipIdx] at hv
  obtain ⟨p, hp, rfl⟩ := Option.map_eq_some_iff.mp hv
  obtain ⟨x, hx, rfl⟩ := Option.map_eq_some_iff.mp hp
  obtain ⟨w, hw, rw'⟩ := rs.getS hx
  refine ⟨⟨ws', w, q'.sq, hw⟩, fun w2 H'' hy => ?_⟩
  obtain ⟨T, x', rfl, hT, rfl, hy⟩ := hy
  have := hy ws' q'.sq
  rw [hw] at this; cases this
  refine ⟨step_new hT, .inr ⟨rfl, rfl, _, _, _, rfl, rfl, upd_same, RS.laid ?_ hT⟩⟩
  have := RS.cons (mk := .pr) (Rep.int (K := K) (S := S') (H := H') (m := .st) (i := ((0 + i : Nat) : Int))) (RS.cons (mk := .st) rw' (.nil _))
  simpa using this
theorem walks_zipL {w2 : V} (R : Rep K S H .st (.lst xs) w []) (R2 : Rep K S H .st (.lst ys) w2 []) : ∃ a b ws zs, w = .ref a ∧ w2 = .ref b ∧ SqL K.K H a ws ∧ SqL K.K H b zs ∧ Walks K (Itz K.K a b) .pr (zipL xs ys) S H := by
  obtain ⟨a, ws, g, rfl, q, _⟩ := Rep.seqL R
  obtain ⟨b, zs, g2, rfl, q2, _⟩ := Rep.seqL R2
  refine ⟨a, b, ws, zs, rfl, rfl, q, q2, fun S' H' keep _ i => ?_⟩
  obtain ⟨a', ws', g', e1, q', rs, hg⟩ := Rep.seqL (show Rep K S' H' .st (.lst xs) (.ref a) [] from keep R)
  cases e1
  obtain rfl := hg rfl
  obtain ⟨b', zs', g2', e2, q2', rs2, hg2⟩ := Rep.seqL (show Rep K S' H' .st (.lst ys) (.ref b) [] from keep R2)
  cases e2
  obtain rfl := hg2 rfl
  unfold zipL
  refine ⟨fun v hv => ?_, fun hl => ⟨ws', zs', q', q2', by rw [rs.length, rs2.length]; simp only [List.length_map, List.length_zip] at hl; omega⟩⟩
  rw [List.getElem?_map] at hv
  obtain ⟨p, hp, rfl⟩ := Option.map_eq_some_iff.mp hv
  obtain ⟨h1, h2⟩ := List.getElem?_zip_eq_some.mp hp
  obtain ⟨w, hw, rw'⟩ := rs.getS h1
  obtain ⟨z, hz, rz'⟩ := rs2.getS h2
  refine ⟨⟨ws', zs', w, z, q', q2', hw, hz⟩, fun w2 H'' hy => ?_⟩
  obtain ⟨T, x', y', rfl, hT, rfl, hy, hy2⟩ := hy
  have := hy ws' q'
  rw [hw] at this; cases this
  have := hy2 zs' q2'
  rw [hz] at this; cases this
  refine ⟨step_new hT, .inr ⟨rfl, rfl, _, _, _, rfl, rfl, upd_same, RS.laid ?_ hT⟩⟩
  have := RS.cons (mk := .pr) rw' (RS.cons (mk := .st) rz' (.nil _))
  simpa using this
theorem walks_zipT {w2 : V} (R : Rep K S H .st (.tup xs) w []) (R2 : Rep K S H .st (.tup ys) w2 []) : ∃ a b ws zs, w = .ref a ∧ w2 = .ref b ∧ SqT K.K H a ws ∧ SqT K.K H b zs ∧ Walks K (RZ.ItzT K.K a b) .pr (zipL xs ys) S H := by
  obtain ⟨a, ws, rfl, _, q, _⟩ := Rep.inv_tup R
  obtain ⟨b, zs, rfl, _, q2, _⟩ := Rep.inv_tup R2
  refine ⟨a, b, ws, zs, rfl, rfl, q.sq, q2.sq, fun S' H' keep _ i => ?_⟩
  obtain ⟨a', ws', e1, _, q', rs⟩ := Rep.inv_tup (show Rep K S' H' .st (.tup xs) (.ref a) [] from keep R)
  cases e1
  obtain ⟨b', zs', e2, _, q2', rs2⟩ := Rep.inv_tup (show Rep K S' H' .st (.tup ys) (.ref b) [] from keep R2)
  cases e2
  unfold zipL
  refine ⟨fun v hv => ?_, fun hl => ⟨ws', zs', q'.sq, q2'.sq, by rw [rs.length, rs2.length]; simp only [List.length_map, List.length_zip] at hl; omega⟩⟩
  rw [List.getElem?_map] at hv
  obtain ⟨p, hp, rfl⟩ := Option.map_eq_some_iff.mp hv
  obtain ⟨h1, h2⟩ := List.getElem?_zip_eq_some.mp hp
  obtain ⟨w, hw, rw'⟩ := rs.getS h1
  obtain ⟨z, hz, rz'⟩ := rs2.getS h2
  refine ⟨⟨ws', zs', w, z, q'.sq, q2'.sq, hw, hz⟩, fun w2 H'' hy => ?_⟩
  obtain ⟨T, x', y', rfl, hT, rfl, hy, hy2⟩ := hy
  have := hy ws' q'.sq
  rw [hw] at this; cases this
  have := hy2 zs' q2'.sq
  rw [hz] at this; cases this
  refine ⟨step_new hT, .inr ⟨rfl, rfl, _, _, _, rfl, rfl, upd_same, RS.laid ?_ hT⟩⟩
  have := RS.cons (mk := .pr) rw' (RS.cons (mk := .st) rz' (.nil _))
  simpa using this
end
end Sh

/-! ShN: what loops walk, comprehensions -/
namespace Sh
open PySem PySem.Spec PyProof.Rows L2
def tWlk (K : KK) (c : Calls) (x : Sh.E) : TI := fun σ H R => ∃ S e fo ms e', ES K S H e σ fo ∧ Ow K S H fo ∧ evW K.kt c x e = .ok ms e' ∧
  ∀ S' H' fo' J, Step S H fo S' H' fo' → Ow K S' H' fo' → ES K S' H' e' σ fo' → Walks K J ms.1 ms.2 S' H' → R J H'
section
variable {K : KK} {c : Calls} {S S1 S' : AS} {H H1 : Hp} {e e1 e2 e' : En} {σ : Sl} {fo fo1 f g g1 g4 : List Addr} {w v : V} {ws vs : List V} {m : Mk} {x : Arg} {u : Val} {a b es : Sh.E} {R : It → Hp → Prop}
theorem Stp.full0 {q : Bool} {S' : AS} {H' : Hp} {fo' : List Addr} (h : Stp q S H fo S' H' fo' g) : Step S H fo S' H' fo' := by
  have := h.nog.full
  rwa [List.append_nil] at this
theorem RA.uncons {a : MV} {as : List MV} (h : RA K S H (a :: as) ws f) : ∃ w ws' f1 f2, ws = w :: ws' ∧ f = f1 ++ f2 ∧ Rep K S H a.1 a.2 w f1 ∧ RA K S H as ws' f2 := by
  obtain ⟨v, ws', fp, fr, rfl, rfl, h1, h2⟩ := RS.uncons h
  exact ⟨v, ws', fp, fr, rfl, rfl, h1, h2⟩
theorem walks_revL {xs : List Val} (R : Rep K S H .st (.lst xs) w []) : ∃ a ws, w = .ref a ∧ SqL K.K H a ws ∧ Walks K (Itv K.K a ws.length) .st xs.reverse S H := by
  obtain ⟨a, ws, g, rfl, q, rs0, _⟩ := Rep.seqL R
  refine ⟨a, ws, rfl, q, fun S' H' keep _ i => ?_⟩
  obtain ⟨a', ws', g', e1, q', rs, hg⟩ := Rep.seqL (show Rep K S' H' .st (.lst xs) (.ref a) [] from keep R)
  cases e1
  obtain rfl := hg rfl
  have l1 : ws.length = xs.length := rs0.length
  refine ⟨fun v hv => ?_, fun hl => show ws.length ≤ i by rw [l1]; simpa using hl⟩
  have hlt : i < xs.length := by have := (List.getElem?_eq_some_iff.mp hv).1; simpa using this
  rw [List.getElem?_reverse hlt] at hv
  obtain ⟨w, hw, rw'⟩ := rs.getS hv
  refine ⟨⟨by omega, ws', w, q', by rw [l1]; exact hw⟩, fun w2 H'' hy => ?_⟩
  obtain ⟨rfl, hy⟩ := hy
  have := hy ws' q'
  rw [l1, hw] at this; cases this
  exact ⟨.refl, .inl rw'⟩
theorem walks_revT {xs : List Val} (R : Rep K S H .st (.tup xs) w []) : ∃ a ws, w = .ref a ∧ SqT K.K H a ws ∧ Walks K (RT.ItvT K.K a ws.length) .st xs.reverse S H := by
  obtain ⟨a, ws, rfl, _, q, rs0⟩ := Rep.inv_tup R
  refine ⟨a, ws, rfl, q.sq, fun S' H' keep _ i => ?_⟩
  obtain ⟨a', ws', e1, _, q', rs⟩ := Rep.inv_tup (show Rep K S' H' .st (.tup xs) (.ref a) [] from keep R)
  cases e1
  have l1 : ws.length = xs.length := rs0.length
  refine ⟨fun v hv => ?_, fun hl => show ws.length ≤ i by rw [l1]; simpa using hl⟩
  have hlt : i < xs.length := by have := (List.getElem?_eq_some_iff.mp hv).1; simpa using this
  rw [List.getElem?_reverse hlt] at hv
  obtain ⟨w, hw, rw'⟩ := rs.getS hv
  refine ⟨⟨by omega, ws', w, q'.sq, by rw [l1]; exact hw⟩, fun w2 H'' hy => ?_⟩
  obtain ⟨rfl, hy⟩ := hy
  have := hy ws' q'.sq
  rw [l1, hw] at this; cases this
  exact ⟨.refl, .inl rw'⟩
theorem frz_now (r : frzA x e1 = .ok u e2) (E : ES K S1 H1 e1 σ fo1) (o : Ow K S1 H1 (fo1 ++ g1)) (A : ArgR K S1 H1 e1 σ x w g1) : ∃ S2 fo2, Step S1 H1 (fo1 ++ g1) S2 H1 fo2 ∧ Ow K S2 H1 fo2 ∧ ES K S2 H1 e2 σ fo2 ∧ Rep K S2 H1 .st u w [] := by
  obtain ⟨S2, fo2, t⟩ := frzA_snd r E o A
  have hf : ∀ a ∈ fo1 ++ g1, H1 a ≠ Option.none := fun a ha => (List.mem_append.mp ha).elim (fun z => (E.own a z).some) fun z => (A.own a z).some
  have ow := t.ow o hf
  rw [List.append_nil] at ow
  refine ⟨S2, fo2, ?_, ow, t.es, t.rep⟩
  have := step_of hf t.stab t.new t.mem
  rw [List.append_nil] at this
  exact this
/-- a name whose list stays as it is from now on -/
theorem s_fz {i : Nat} {σ : Sl} {H : Hp} {Q : VK} (h : tEv K c (.fz i) σ H Q) : tEv K c (.var i) σ H Q := by
  obtain ⟨S, e, fo, a, e', E, O, r, h⟩ := h
  simp only [ev] at r
  obtain ⟨x, e1, r1, r⟩ := Res.bind_ok r
  obtain ⟨u, e2, r2, r⟩ := Res.bind_ok r
  cases r
  refine ⟨S, e, fo, x, e1, E, O, by simp only [ev]; exact r1, fun S1 H1 fo1 w1 g1 st1 o1 E1 A1 => ?_⟩
  obtain ⟨S2, fo2, st2, o2, E2, R2⟩ := frz_now r2 E1 o1 A1
  have st := st1.full.trans0 st2
  exact h S2 H1 fo2 w1 [] (.of (by rw [List.append_nil]; exact st)) (by rw [List.append_nil]; exact o2) E2 R2
theorem w_one {σ : Sl} {H : Hp} (h : tWlk K c (.one a) σ H R) : (iList K.K (tEv K c a) σ H R ∨ iTup K.K (tEv K c a) σ H R) ∨ iStr (tEv K c a) σ H R := by
  obtain ⟨S, e, fo, ms, e', E, O, r, h⟩ := h
  obtain ⟨x, e1, r1, r⟩ := Res.bind_ok r
  obtain ⟨u, e2, r2, r⟩ := Res.bind_ok r
  split at r
  · rename_i xs hx
    cases r
    cases u with
    | lst ys =>
      cases hx
      refine .inl (.inl ⟨S, e, fo, x, e1, E, O, r1, fun S1 H1 fo1 w1 g1 st1 o1 E1 A1 => ?_⟩)
      obtain ⟨S2, fo2, st2, o2, E2, R2⟩ := frz_now r2 E1 o1 A1
      obtain ⟨b, ws, rfl, q, wk⟩ := walks_list R2
      exact ⟨b, rfl, ⟨ws, q⟩, h S2 H1 fo2 _ (st1.full.trans0 st2) o2 E2 wk⟩
    | tup ys =>
      cases hx
      refine .inl (.inr ⟨S, e, fo, x, e1, E, O, r1, fun S1 H1 fo1 w1 g1 st1 o1 E1 A1 => ?_⟩)
      obtain ⟨S2, fo2, st2, o2, E2, R2⟩ := frz_now r2 E1 o1 A1
      obtain ⟨b, ws, rfl, q, wk⟩ := walks_tup R2
      exact ⟨b, rfl, ⟨ws, q⟩, h S2 H1 fo2 _ (st1.full.trans0 st2) o2 E2 wk⟩
    | str z =>
      cases hx
      refine .inr ⟨S, e, fo, x, e1, E, O, r1, fun S1 H1 fo1 w1 g1 st1 o1 E1 A1 => ?_⟩
      obtain ⟨S2, fo2, st2, o2, E2, R2⟩ := frz_now r2 E1 o1 A1
      obtain ⟨rfl, _⟩ := Rep.inv_str R2
      exact ⟨z, rfl, h S2 H1 fo2 _ (st1.full.trans0 st2) o2 E2 walks_str⟩
    | _ => cases hx
  · cases r
def elen : Sh.E → Nat
  | .cons _ es => elen es + 1
  | _ => 0
theorem evs_len {kt : Bool} : ∀ {es : Sh.E} {e e' : En} {as : List Arg}, evs kt c es e = .ok as e' → as.length = elen es
  | .nil, e, e', as, r => by simp only [evs] at r; cases r; rfl
  | .cons a es, e, e', as, r => by
    simp only [evs] at r
    obtain ⟨x, e1, r1, r⟩ := Res.bind_ok r
    split at r
    · cases r
    · obtain ⟨xs, e2, r2, r⟩ := Res.bind_ok r
      cases r
      simp [elen, evs_len r2]
  | .var _, _, _, _, r | .int _, _, _, _, r | .bl _, _, _, _, r | .non, _, _, _, r | .str _, _, _, _, r | .bin _ _ _, _, _, _, r | .neg _, _, _, _, r | .cmp _ _ _, _, _, _, r | .chn _ _ _ _ _, _, _, _, r | .and _ _, _, _, _, r | .or _ _, _, _, _, r | .one _, _, _, _, r | .not _, _, _, _, r | .ite _ _ _, _, _, _, r | .tup _, _, _, _, r | .lst _ _, _, _, _, r
  | .dnk _, _, _, _, r | .dnt _, _, _, _, r | .idx _ _, _, _, _, r | .slc _ _ _, _, _, _, r | .nop, _, _, _, r | .blt _ _, _, _, _, r | .isi _ _, _, _, _, r | .call _ _ _, _, _, _, r | .meth _ _ _, _, _, _, r | .pm _ _ _, _, _, _, r | .comp _ _ _ _ _ _, _, _, _, r | .kcomp _ _ _ _ _ _, _, _, _, r | .rng _, _, _, _, r | .enum _, _, _, _, r | .zip _ _, _, _, _, r | .rev _, _, _, _, r | .wk _ _, _, _, _, r | .sp _ _, _, _, _, r | .con _ _, _, _, _, r | .fz _, _, _, _, r | .lrg1 _ _, _, _, _, r | .lrg2 _ _ _, _, _, _, r => by simp [evs] at r
theorem readAs_len : ∀ {as : List Arg} {vs : List MV}, readAs e as = some vs → vs.length = as.length
  | [], vs, r => by cases r; rfl
  | a :: as, vs, r => by
    simp only [readAs] at r
    split at r
    · rename_i h1 h2
      cases r
      simp [readAs_len h2]
    · cases r
theorem sm62_ok {i : Int} (h : sm62 i = true) : -(2 ^ 62) ≤ i ∧ i < 2 ^ 62 := of_decide_eq_true h
theorem w_rng {σ : Sl} {H : Hp} (h : tWlk K c (.rng es) σ H R) : (elen es = 1 ∧ iRng1 (tAr K c es) σ H R) ∨ (elen es = 2 ∧ iRng2 (tAr K c es) σ H R) ∨ (elen es = 3 ∧ iRng3 (tAr K c es) σ H R) := by
  obtain ⟨S, e, fo, ms, e', E, O, r, h⟩ := h
  obtain ⟨as, e1, r1, r⟩ := Res.bind_ok r
  split at r
  · rename_i vs hvs
    obtain ⟨rfl, rr⟩ := optR_ok r
    obtain ⟨xs, hx, rfl⟩ := Option.map_eq_some_iff.mp rr
    have len : vs.length = elen es := (readAs_len hvs).trans (evs_len r1)
    unfold rngV at hx
    split at hx
    · rename_i m0 n
      split at hx
      · rename_i hn
        cases hx
        refine .inl ⟨len.symm, S, e, fo, as, _, E, O, r1, fun S1 H1 fo1 ws g1 st1 o1 E1 A1 => ?_⟩
        obtain ⟨f, RR⟩ := readAs_snd hvs E1 A1
        obtain ⟨w1, rfl, R1⟩ := RA.one RR
        obtain ⟨rfl, _⟩ := Rep.inv_int R1
        have hh := h S1 H1 fo1 (Itr 0 (n - 0).toNat) st1.full0 o1.left E1 walks_range
        rw [Int.sub_zero] at hh
        exact ⟨n, rfl, (sm62_ok hn).1, (sm62_ok hn).2, hh⟩
      · cases hx
    · rename_i m0 p m1 q
      split at hx
      · rename_i hn
        cases hx
        rw [Bool.and_eq_true] at hn
        refine .inr (.inl ⟨len.symm, S, e, fo, as, _, E, O, r1, fun S1 H1 fo1 ws g1 st1 o1 E1 A1 => ?_⟩)
        obtain ⟨f, RR⟩ := readAs_snd hvs E1 A1
        obtain ⟨w1, w2, f1, f2, rfl, rfl, R1, R2⟩ := RA.two RR
        obtain ⟨rfl, _⟩ := Rep.inv_int R1
        obtain ⟨rfl, _⟩ := Rep.inv_int R2
        exact ⟨p, q, rfl, ⟨(sm62_ok hn.1).1, (sm62_ok hn.1).2, (sm62_ok hn.2).1, (sm62_ok hn.2).2⟩, h S1 H1 fo1 _ st1.full0 o1.left E1 walks_range⟩
      · cases hx
    · rename_i m0 p m1 q m2
      split at hx
      · rename_i hn
        cases hx
        rw [Bool.and_eq_true] at hn
        refine .inr (.inr ⟨len.symm, S, e, fo, as, _, E, O, r1, fun S1 H1 fo1 ws g1 st1 o1 E1 A1 => ?_⟩)
        obtain ⟨f, RR⟩ := readAs_snd hvs E1 A1
        obtain ⟨w1, ws1, f1, f2, rfl, rfl, R1, RR⟩ := RA.uncons RR
        obtain ⟨w2, w3, f3, f4, rfl, rfl, R2, R3⟩ := RA.two RR
        obtain ⟨rfl, _⟩ := Rep.inv_int R1
        obtain ⟨rfl, _⟩ := Rep.inv_int R2
        obtain ⟨rfl, _⟩ := Rep.inv_int R3
        exact ⟨p, q, -1, (p - q).toNat, rfl, RgC.neg (sm62_ok hn.1).1 (sm62_ok hn.1).2 (sm62_ok hn.2).1 (sm62_ok hn.2).2, h S1 H1 fo1 _ st1.full0 o1.left E1 walks_rangeC⟩
      · cases hx
    · cases hx
  · cases r
theorem w_enum {σ : Sl} {H : Hp} (h : tWlk K c (.enum a) σ H R) : iEnumA K.K (tCons (tEv K c a) tNil) σ H R := by
  obtain ⟨S, e, fo, ms, e', E, O, r, h⟩ := h
  obtain ⟨x, e1, r1, r⟩ := Res.bind_ok r
  obtain ⟨u, e2, r2, r⟩ := Res.bind_ok r
  split at r
  · cases r
    refine ⟨S, e, fo, x, e1, E, O, r1, fun S1 H1 fo1 w1 g1 st1 o1 E1 A1 => ?_⟩
    obtain ⟨S2, fo2, st2, o2, E2, R2⟩ := frz_now r2 E1 o1 A1
    obtain ⟨b, ws, rfl, q, wk⟩ := walks_enum R2
    exact ⟨b, ws, rfl, .inl ⟨q, h S2 H1 fo2 _ (st1.full.trans0 st2) o2 E2 wk⟩⟩
  · cases r
    refine ⟨S, e, fo, x, e1, E, O, r1, fun S1 H1 fo1 w1 g1 st1 o1 E1 A1 => ?_⟩
    obtain ⟨S2, fo2, st2, o2, E2, R2⟩ := frz_now r2 E1 o1 A1
    obtain ⟨b, ws, rfl, q, wk⟩ := walks_enumT R2
    exact ⟨b, ws, rfl, .inr ⟨q, h S2 H1 fo2 _ (st1.full.trans0 st2) o2 E2 wk⟩⟩
  · cases r
/-- the dict's own thing becomes one that stays as it is -/
theorem frz_dict {d : Addr} {kvs : List (Key × V)} {o : Obj} (hs : S d) (h : H d = some (.dK kvs)) : Step S H fo S (upd H d (.frz o (.dK kvs))) fo where
  frame := fun a ha n => by
    by_cases e : a = d
    · subst e; exact .inr ⟨hs, .inl ⟨o, kvs, h, upd_same⟩⟩
    · exact .inl (upd_ne e)
  tups := fun a xs q => by rw [upd_ne fun e => by rw [e, h] at q; cases q]; exact q
  frzs := fun a o u q => by rw [upd_ne fun e => by rw [e, h] at q; cases q]; exact q
  grow := fun a q => by
    by_cases e : a = d
    · rw [e, upd_same]; simp
    · rw [upd_ne e]; exact q
  stab := fun _ h => h
  stabN := fun _ h => .inl h
  own := fun _ h => .inl h
  live := fun hl => ⟨fun a s => by
    by_cases e : a = d
    · rw [e, upd_same]; simp
    · rw [upd_ne e]; exact hl.1 a s, fun P hP => by
    obtain ⟨s, ps, e, t⟩ := hl.2 P hP
    exact ⟨s, ps, (upd_ne fun q => by rw [q, h] at e; cases e).trans e, t⟩⟩
/-- what the walk of a dict yields -/
def WkJ : Wk → Addr → Obj → List (Key × V) → It
  | .keys => Itk | .dict => Itk | .vals => Itd | .items => Iti
theorem dk_inv {kvs : List (Key × Val)} {w : V} {f : List Addr} (R : Rep K S H .st (.dk kvs) w f) : ∃ a ws, w = .ref a ∧ StD S H a (.dK ((kvs.map (·.1)).zip ws)) ∧ RS K S H .st (kvs.map (·.2)) ws [] := by
  cases R with
  | dkO a b c d h => cases a
  | dkS a b c d h =>
    subst c
    exact ⟨_, _, rfl, b, d⟩
theorem walks_dict {k : Wk} {ms : Mk × List Val} {a : Addr} {ws : List V} {o : Obj} {kvs : List (Key × Val)} (hk : wkV k (.dk kvs) = some ms) (hd : H a = some (.frz o (.dK ((kvs.map (·.1)).zip ws)))) (rs : RS K S H .st (kvs.map (·.2)) ws []) : Walks K (WkJ k a o ((kvs.map (·.1)).zip ws)) ms.1 ms.2 S H := by
  intro S' H' keep fk i
  have hd' := fk _ _ _ hd
  have hl : ws.length = kvs.length := by have := rs.length; simpa using this
  have hz : ((kvs.map (·.1)).zip ws).length = kvs.length := by rw [List.length_zip, List.length_map]; omega
  have rs' := keep rs
  have at_ : ∀ (p : Key × Val), kvs[i]? = some p → ∃ w, ws[i]? = some w ∧ ((kvs.map (·.1)).zip ws)[i]? = some (p.1, w) ∧ Rep K S' H' .st p.2 w [] := fun p hp => by
    obtain ⟨w, hw, rw'⟩ := rs'.getS (show (kvs.map (·.2))[i]? = some p.2 by rw [List.getElem?_map, hp]; rfl)
    exact ⟨w, hw, by rw [List.getElem?_zip_eq_some]; exact ⟨by rw [List.getElem?_map, hp]; rfl, hw⟩, rw'⟩
  cases k with
  | keys =>
    cases hk
    refine ⟨fun v hv => ?_, fun hle => ⟨hd', by rw [hz]; simpa using hle⟩⟩
    rw [List.getElem?_map] at hv
    obtain ⟨p, hp, rfl⟩ := Option.map_eq_some_iff.mp hv
    obtain ⟨w, hw, hzw, rw'⟩ := at_ p hp
    refine ⟨⟨hd', (List.getElem?_eq_some_iff.mp hzw).1⟩, fun w2 H'' hy => ?_⟩
    obtain ⟨rfl, k', v', h1, rfl⟩ := hy
    rw [hzw] at h1; cases h1
    exact ⟨.refl, .inl key_rep⟩
  | dict =>
    cases hk
    refine ⟨fun v hv => ?_, fun hle => ⟨hd', by rw [hz]; simpa using hle⟩⟩
    rw [List.getElem?_map] at hv
    obtain ⟨p, hp, rfl⟩ := Option.map_eq_some_iff.mp hv
    obtain ⟨w, hw, hzw, rw'⟩ := at_ p hp
    refine ⟨⟨hd', (List.getElem?_eq_some_iff.mp hzw).1⟩, fun w2 H'' hy => ?_⟩
    obtain ⟨rfl, k', v', h1, rfl⟩ := hy
    rw [hzw] at h1; cases h1
    exact ⟨.refl, .inl key_rep⟩
  | vals =>
    cases hk
    refine ⟨fun v hv => ?_, fun hle => ⟨hd', by rw [hz]; simpa using hle⟩⟩
    rw [List.getElem?_map] at hv
    obtain ⟨p, hp, rfl⟩ := Option.map_eq_some_iff.mp hv
    obtain ⟨w, hw, hzw, rw'⟩ := at_ p hp
    refine ⟨⟨hd', (List.getElem?_eq_some_iff.mp hzw).1⟩, fun w2 H'' hy => ?_⟩
    obtain ⟨rfl, k', h1⟩ := hy
    rw [hzw] at h1; cases h1
    exact ⟨.refl, .inl rw'⟩
  | items =>
    cases hk
    refine ⟨fun v hv => ?_, fun hle => ⟨hd', by rw [hz]; simpa using hle⟩⟩
    rw [List.getElem?_map] at hv
    obtain ⟨p, hp, rfl⟩ := Option.map_eq_some_iff.mp hv
    obtain ⟨w, hw, hzw, rw'⟩ := at_ p hp
    refine ⟨⟨hd', (List.getElem?_eq_some_iff.mp hzw).1⟩, fun w2 H'' hy => ?_⟩
    obtain ⟨T, k', v', h1, rfl, hT, rfl⟩ := hy
    rw [hzw] at h1; cases h1
    refine ⟨step_new hT, .inr ⟨rfl, rfl, _, _, _, rfl, rfl, upd_same, RS.laid ?_ hT⟩⟩
    have := RS.cons (mk := .pr) (f := []) (key_rep (K := K) (S := S') (H := H') (k := p.1)) (RS.cons (mk := .st) rw' (.nil _))
    simpa using this
theorem w_wk {k : Wk} {σ : Sl} {H : Hp} (h : tWlk K c (.wk k a) σ H R) : iKF (WkJ k) (tEv K c a) σ H R := by
  obtain ⟨S, e, fo, ms, e', E, O, r, h⟩ := h
  obtain ⟨x, e1, r1, r⟩ := Res.bind_ok r
  obtain ⟨u, e2, r2, r⟩ := Res.bind_ok r
  obtain ⟨rfl, rr⟩ := optR_ok r
  refine ⟨S, e, fo, x, e1, E, O, r1, fun S1 H1 fo1 w1 g1 st1 o1 E1 A1 => ?_⟩
  obtain ⟨S2, fo2, st2, o2, E2, R2⟩ := frz_now r2 E1 o1 A1
  obtain ⟨kvs, rfl⟩ : ∃ kvs, u = .dk kvs := by
    cases k <;> cases u <;> first | exact ⟨_, rfl⟩ | cases rr
  obtain ⟨b, ws, rfl, sd, rs⟩ := dk_inv R2
  refine ⟨b, (kvs.map (·.1)).zip ws, rfl, ?_⟩
  rcases sd with ⟨hs, hd⟩ | ⟨o, hd⟩
  · refine .inr ⟨hd, fun o => ?_⟩
    have st3 : Step S2 H1 fo2 S2 (upd H1 b (.frz o (.dK ((kvs.map (·.1)).zip ws)))) fo2 := frz_dict hs hd
    have st30 : Step S2 H1 [] S2 (upd H1 b (.frz o (.dK ((kvs.map (·.1)).zip ws)))) [] := frz_dict hs hd
    have E3 := E2.step st30 (by simp) (by simp) o2.ds
    have rs3 := RS.step rs st30 (by simp) (by simp) (by simp)
    exact h S2 _ fo2 _ ((st1.full.trans0 st2).trans0 st3) ⟨o2.nd, o2.ds, st3.live o2.live⟩ E3 (walks_dict rr upd_same rs3)
  · exact .inl ⟨o, hd, h S2 H1 fo2 _ (st1.full.trans0 st2) o2 E2 (walks_dict rr hd rs)⟩
theorem w_rev {σ : Sl} {H : Hp} (h : tWlk K c (.rev a) σ H R) : RT.iRevA K.K (tEv K c a) σ H R := by
  obtain ⟨S, e, fo, ms, e', E, O, r, h⟩ := h
  obtain ⟨x, e1, r1, r⟩ := Res.bind_ok r
  obtain ⟨u, e2, r2, r⟩ := Res.bind_ok r
  split at r
  · cases r
    refine ⟨S, e, fo, x, e1, E, O, r1, fun S1 H1 fo1 w1 g1 st1 o1 E1 A1 => ?_⟩
    obtain ⟨S2, fo2, st2, o2, E2, R2⟩ := frz_now r2 E1 o1 A1
    obtain ⟨b, ws, rfl, q, wk⟩ := walks_revL R2
    exact ⟨b, ws, rfl, .inl ⟨q, h S2 H1 fo2 _ (st1.full.trans0 st2) o2 E2 wk⟩⟩
  · cases r
    refine ⟨S, e, fo, x, e1, E, O, r1, fun S1 H1 fo1 w1 g1 st1 o1 E1 A1 => ?_⟩
    obtain ⟨S2, fo2, st2, o2, E2, R2⟩ := frz_now r2 E1 o1 A1
    obtain ⟨b, ws, rfl, q, wk⟩ := walks_revT R2
    exact ⟨b, ws, rfl, .inr ⟨q, h S2 H1 fo2 _ (st1.full.trans0 st2) o2 E2 wk⟩⟩
  · cases r
theorem w_zip {σ : Sl} {H : Hp} (h : tWlk K c (.zip a b) σ H R) : RZ.iZipA K.K (tCons (tEv K c a) (tCons (tEv K c b) tNil)) σ H R := by
  obtain ⟨S, e, fo, ms, e', E, O, r, h⟩ := h
  obtain ⟨x, e1, r1, r⟩ := Res.bind_ok r
  obtain ⟨u, e2, r2, r⟩ := Res.bind_ok r
  obtain ⟨y, e3, r3, r⟩ := Res.bind_ok r
  obtain ⟨v, e4, r4, r⟩ := Res.bind_ok r
  refine ⟨S, e, fo, x, e1, E, O, r1, fun S1 H1 fo1 w1 g1 st1 o1 E1 A1 => ?_⟩
  obtain ⟨S2, fo2, st2, o2, E2, R2⟩ := frz_now r2 E1 o1 A1
  refine ⟨S2, e2, fo2, y, e3, E2, o2, r3, fun S3 H3 fo3 w3 g3 st3 o3 E3 A3 => ?_⟩
  obtain ⟨S4, fo4, st4, o4, E4, R4⟩ := frz_now r4 E3 o3 A3
  have s24 := st3.full.trans0 st4
  have R2' := RS.step R2 s24 (by simp) o2.sd (by simp)
  have sA := (st1.full.trans0 st2).trans0 s24
  split at r
  · cases r
    obtain ⟨p, q, ws, zs, rfl, rfl, h1, h2, wk⟩ := walks_zipL R2' R4
    exact ⟨p, q, ws, zs, rfl, .inl ⟨h1, h2, h S4 H3 fo4 _ sA o4 E4 wk⟩⟩
  · cases r
    obtain ⟨p, q, ws, zs, rfl, rfl, h1, h2, wk⟩ := walks_zipT R2' R4
    exact ⟨p, q, ws, zs, rfl, .inr ⟨h1, h2, h S4 H3 fo4 _ sA o4 E4 wk⟩⟩
  · cases r
end
end Sh

/-! ShO: comprehensions -/
namespace Sh
open PySem PySem.Spec PyProof.Rows L2
/-- what lies aside of the slots at own -/
inductive OwR (K : KK) (S : AS) (H : Hp) (σ : Sl) (e1 : En) : List Nat → List Addr → Prop
  | nil : OwR K S H σ e1 [] []
  | emp {i is L} : e1[i]? = some .emp → OwR K S H σ e1 is L → OwR K S H σ e1 (i :: is) L
  | val {i p m v w g is L} : e1[i]? = some (.val p m v) → σ[i]? = some (some w) → Rep K S H m v w g → OwR K S H σ e1 is L → OwR K S H σ e1 (i :: is) (g ++ L)
section
variable {K : KK} {c : Calls} {S S1 S' : AS} {H H1 : Hp} {e e1 e2 e' : En} {σ σ1 σ2 : Sl} {fo fo1 f g g1 L : List Addr} {w v : V} {own : List Nat} {m : Mk}
theorem OwR.ext (h : OwR K S H σ e1 own L) : (∀ j ∈ own, e1[j]? = e2[j]?) → OwR K S H σ e2 own L := by
  induction h with
  | nil => intro _; exact .nil
  | emp h1 _ ih => intro hj; exact .emp (by rw [← hj _ List.mem_cons_self]; exact h1) (ih fun j hm => hj j (List.mem_cons_of_mem _ hm))
  | val h1 h2 h3 _ ih => intro hj; exact .val (by rw [← hj _ List.mem_cons_self]; exact h1) h2 h3 (ih fun j hm => hj j (List.mem_cons_of_mem _ hm))
theorem OwR.step {H1 : Hp} (h : OwR K S H σ e own L) (a : Step S H fo S1 H1 fo1) (ds : ∀ x, S x → x ∉ fo) : (∀ x ∈ L, x ∉ fo) → (∀ x ∈ L, ¬ S x) → OwR K S1 H1 σ e own L := by
  induction h with
  | nil => intro _ _; exact .nil
  | emp h1 _ ih => intro d dn; exact .emp h1 (ih d dn)
  | val h1 h2 h3 _ ih => intro d dn; exact .val h1 h2 (RS.step h3 a (fun x hx => d x (List.mem_append_left _ hx)) ds fun x hx => dn x (List.mem_append_left _ hx)) (ih (fun x hx => d x (List.mem_append_right _ hx)) fun x hx => dn x (List.mem_append_right _ hx))
theorem OwR.mine (h : OwR K S H σ e own L) : ∀ a ∈ L, Own (H a) := by
  induction h with
  | nil => simp
  | emp _ _ ih => exact ih
  | val h1 h2 h3 _ ih =>
    intro a ha
    rcases List.mem_append.mp ha with ha | ha
    · exact RS.own h3 a ha
    · exact ih a ha
theorem OwR.split : ∀ {own : List Nat} {e : En} {fo : List Addr}, ES K S H e σ fo → own.Nodup → (∀ i ∈ own, i < e.length) → ∃ fo' L, ES K S H (setEmp e own) σ fo' ∧ OwR K S H σ e own L ∧ (fo' ++ L).Perm fo
  | [], e, fo, E, _, _ => ⟨fo, [], E, .nil, by simp⟩
  | i :: is, e, fo, E, nd, hi => by
    obtain ⟨ni, nd⟩ := List.nodup_cons.mp nd
    have il := hi i List.mem_cons_self
    have ext : ∀ j ∈ is, (e.set i .emp)[j]? = e[j]? := fun j hj => List.getElem?_set_ne fun q => ni (by rw [q]; exact hj)
    have hi' : ∀ j ∈ is, j < (e.set i .emp).length := fun j hj => by rw [List.length_set]; exact hi j (List.mem_cons_of_mem _ hj)
    cases ei : e[i]? with
    | none => rw [List.getElem?_eq_none_iff] at ei; omega
    | some s =>
      cases s with
      | emp =>
        have same : e.set i .emp = e := by
          obtain ⟨hl, e1⟩ := List.getElem?_eq_some_iff.mp ei
          rw [← e1]; exact List.set_getElem_self hl
        obtain ⟨fo', L, E2, O, p⟩ := OwR.split E nd fun j hj => hi j (List.mem_cons_of_mem _ hj)
        refine ⟨fo', L, ?_, .emp ei O, p⟩
        unfold setEmp
        rw [same]; exact E2
      | val p m v =>
        obtain ⟨w, fl, fp, fr, hw, rfl, R, _, E1⟩ := E.get ei
        obtain ⟨fo', L, E2, O, p⟩ := OwR.split E1 nd hi'
        refine ⟨fo', fp ++ L, E2, .val ei hw R (O.ext ext), ?_⟩
        have h1 : (fo' ++ (fp ++ L)).Perm (fp ++ (fo' ++ L)) := by
          rw [← List.append_assoc, ← List.append_assoc]; exact List.perm_append_comm.append_right _
        have h2 : (fp ++ (fl ++ fr)).Perm (fl ++ (fp ++ fr)) := by
          rw [← List.append_assoc, ← List.append_assoc]; exact List.perm_append_comm.append_right _
        exact (h1.trans (List.Perm.append_left fp p)).trans h2
theorem OwR.back (h : OwR K S H σ e1 own L) : ∀ {e : En} {σ2 : Sl} {fo : List Addr}, own.Nodup → ES K S H e σ2 fo → σ.length = e.length → e1.length = e.length → (fo ++ L).Nodup →
    ∃ σ3 fo', ES K S H (backS e1 own e) σ3 fo' ∧ fo'.Nodup ∧ (∀ a ∈ fo', a ∈ fo ++ L) ∧ σ3.length = σ2.length ∧ (∀ j ∈ own, σ3[j]? = σ[j]?) ∧ ∀ j, j ∉ own → σ3[j]? = σ2[j]? := by
  induction h with
  | nil => intro e σ2 fo _ E _ _ nd; exact ⟨σ2, fo, E, (List.nodup_append.mp nd).1, fun a ha => List.mem_append_left _ ha, rfl, fun j hj => absurd hj (by simp), fun j _ => rfl⟩
  | @emp i is L h1 _ ih =>
    intro e σ2 fo ndo E hl hl1 nd
    obtain ⟨ni, ndo⟩ := List.nodup_cons.mp ndo
    have il : i < e.length := by rw [← hl1]; exact (List.getElem?_eq_some_iff.mp h1).1
    obtain ⟨f1, sb, E1⟩ := E.drop (i := i)
    have E2 := E1.forget (x := σ[i]'(by omega)) (show (e.set i .emp)[i]? = some .emp by rw [List.getElem?_set_self il])
    obtain ⟨σ3, fo', E3, nd3, m3, l3, q3, r3⟩ := ih ndo E2 (by simpa using hl) (by simpa using hl1) (nd.sublist (sb.append (List.Sublist.refl _)))
    refine ⟨σ3, fo', ?_, nd3, fun a ha => (sb.append (List.Sublist.refl L)).subset (m3 a ha), by simpa using l3, fun j hj => ?_, fun j hj => ?_⟩
    · unfold backS; rw [h1]; exact E3
    · rcases List.mem_cons.mp hj with rfl | hj
      · rw [r3 j ni, List.getElem?_set_self (by rw [E.length]; exact il), List.getElem?_eq_getElem (by omega)]
      · exact q3 j hj
    · simp only [List.mem_cons, not_or] at hj
      rw [r3 j hj.2, List.getElem?_set_ne fun q => hj.1 q.symm]
  | @val i p m v w g is L h1 h2 R _ ih =>
    intro e σ2 fo ndo E hl hl1 nd
    obtain ⟨ni, ndo⟩ := List.nodup_cons.mp ndo
    have il : i < e.length := by rw [← hl1]; exact (List.getElem?_eq_some_iff.mp h1).1
    obtain ⟨fl, fr, sb, E2⟩ := E.fill (p := p) il R
    have nd' : ((fo ++ g) ++ L).Nodup := by rw [List.append_assoc]; exact nd
    obtain ⟨n1, n2, n3⟩ := List.nodup_append.mp nd'
    obtain ⟨n4, m4⟩ := ins_nodup n1 sb
    obtain ⟨σ3, fo', E3, nd3, m3, l3, q3, r3⟩ := ih ndo E2 (by simpa using hl) (by simpa using hl1) (List.nodup_append.mpr ⟨n4, n2, fun a ha b hb => n3 a (m4 a ha) b hb⟩)
    refine ⟨σ3, fo', ?_, nd3, fun a ha => ?_, by simpa using l3, fun j hj => ?_, fun j hj => ?_⟩
    · unfold backS; rw [h1]; exact E3
    · rw [← List.append_assoc]
      rcases List.mem_append.mp (m3 a ha) with z | z
      · exact List.mem_append_left _ (m4 a z)
      · exact List.mem_append_right _ z
    · rcases List.mem_cons.mp hj with rfl | hj
      · rw [r3 j ni, List.getElem?_set_self (by rw [E.length]; exact il), h2]
      · exact q3 j hj
    · simp only [List.mem_cons, not_or] at hj
      rw [r3 j hj.2, List.getElem?_set_ne fun q => hj.1 q.symm]
theorem setEmp_emp {i : Nat} : ∀ {is : List Nat} {e : En}, e[i]? = some .emp → (setEmp e is)[i]? = some .emp
  | [], e, h => h
  | j :: is, e, h => by
    unfold setEmp
    refine setEmp_emp ?_
    by_cases q : j = i
    · subst q; rw [List.getElem?_set_self (List.getElem?_eq_some_iff.mp h).1]
    · rw [List.getElem?_set_ne q]; exact h
theorem ES.wipe : ∀ {own : List Nat} {e : En} {fo : List Addr}, ES K S H e σ fo → ∃ fo', fo'.Sublist fo ∧ ES K S H (setEmp e own) (L2.wipe σ own) fo'
  | [], e, fo, E => ⟨fo, List.Sublist.refl _, E⟩
  | i :: is, e, fo, E => by
    obtain ⟨f1, s1, E1⟩ := E.drop (i := i)
    obtain ⟨f2, s2, E2⟩ := ES.wipe (own := is) E1
    refine ⟨f2, s2.trans s1, ?_⟩
    show ES K S H (setEmp (e.set i .emp) is) ((L2.wipe σ is).set i none) f2
    by_cases il : i < e.length
    · exact E2.forget (setEmp_emp (by rw [List.getElem?_set_self il]))
    · have h1 : (L2.wipe σ is).set i none = L2.wipe σ is := List.set_eq_of_length_le (by rw [wipe_length, E.length]; omega)
      rw [h1]
      exact E2
theorem wipe_get {j : Nat} : ∀ {own : List Nat}, (L2.wipe σ own)[j]? = if j ∈ own then (σ[j]?).map fun _ => none else σ[j]?
  | [] => by simp [L2.wipe]
  | i :: is => by
    show ((L2.wipe σ is).set i none)[j]? = _
    by_cases q : i = j
    · subst q
      by_cases il : i < σ.length
      · rw [List.getElem?_set_self (by rw [wipe_length]; exact il), if_pos List.mem_cons_self, List.getElem?_eq_getElem il]; rfl
      · rw [List.getElem?_eq_none (by rw [List.length_set, wipe_length]; omega), if_pos List.mem_cons_self, List.getElem?_eq_none (by omega)]; rfl
    · rw [List.getElem?_set_ne q, wipe_get]
      have : (j ∈ i :: is) ↔ j ∈ is := by
        simp only [List.mem_cons]; exact ⟨fun h => h.resolve_left fun h => q h.symm, .inr⟩
      simp only [this]
theorem wipe_ext (h : ∀ j, j ∉ own → σ1[j]? = σ2[j]?) (hl : σ1.length = σ2.length) : L2.wipe σ1 own = L2.wipe σ2 own := by
  refine List.ext_getElem? fun j => ?_
  rw [wipe_get, wipe_get]
  split
  · by_cases il : j < σ1.length
    · rw [List.getElem?_eq_getElem il, List.getElem?_eq_getElem (by omega)]; rfl
    · rw [List.getElem?_eq_none (by omega), List.getElem?_eq_none (by omega)]
  · rename_i hn; exact h j hn
theorem wipe_wipe : L2.wipe (L2.wipe σ own) own = L2.wipe σ own := wipe_ext (fun j hj => by rw [wipe_get, if_neg hj]) (wipe_length _ _)
theorem Step.idle {H' : Hp} (a : Step S H [] S' H' []) : Step S H fo S' H' fo :=
  ⟨fun x h _ => a.frame x h (by simp), a.tups, a.frzs, a.grow, a.stab, fun x s => (a.stabN x s).imp_right fun z => z.imp_left fun y => absurd y (by simp), fun x h => .inl h, a.live⟩
theorem wipe_agr {t : T} (ht : ∀ j ∈ tIdx t, j ∈ own) (a : Agr (tIdx t) (L2.wipe σ own) σ2) : L2.wipe σ2 own = L2.wipe σ own := by
  have h := wipe_ext (own := own) (σ1 := σ2) (σ2 := L2.wipe σ own) (fun j hj => a.eq j fun q => hj (ht j q)) a.len
  rw [h, wipe_wipe]
theorem comp_core {t : T} {cd elt : Sh.E} {m1 : Mk} {xs acc : List Val} {eF : En} {J : It} {σ : Sl} {Q : VK} {D : Addr} (ht : ∀ j ∈ tIdx t, j ∈ own) (hown : ownOk e1 own = true)
    (r2 : compL own t m1 (fun e => (evC K.kt c cd e).bind fun k e => if k then (ev K.kt c elt e).bind fun x e => (takeA x e).bind fun v e => optR ((fit m v).map some) e else Res.ok none e) xs [] (setEmp e1 own) = .ok acc eF)
    (E1 : ES K S1 H1 e1 σ fo1) (o1 : Ow K S1 H1 fo1)
    (wk : ∀ {S2 : AS} {H2 : Hp} {fk fo2 : List Addr}, Step S1 H1 fk S2 H2 fo2 → (∀ x ∈ fk, x ∈ fo1) → (∀ {mk ys ws}, RS K S1 H1 mk ys ws [] → RS K S2 H2 mk ys ws []) → ∀ i : Nat, (∀ v, xs[i]? = some v → J.go i H2 ∧ ∀ w H'', J.yld i H2 w H'' → Step S2 H2 [] S2 H'' [] ∧ RepI K S2 H'' m1 v w []) ∧ (xs.length ≤ i → J.stop i H2))
    (h : ∀ {S2 : AS} {H2 : Hp} {fo5 g : List Addr} {w : V}, Step S1 H1 fo1 S2 H2 (fo5 ++ g) → Ow K S2 H2 (fo5 ++ g) → ES K S2 H2 (backS e1 own eF) σ fo5 → Rep K S2 H2 (.l m) (.lst acc) w g → Q w H2)
    (hD : H1 D = none) : ∃ W : Nat → Nat → Hp → Prop, (∃ m, W 0 m (upd H1 D (.lst []))) ∧ ∀ i m H, W i m H →
      (J.stop i H ∧ Q (.ref D) H) ∨ (J.go i H ∧ ∃ Nx : Hp → Prop, (∀ H', Nx H' → ∃ m', m' < m ∧ W (i + 1) m' H') ∧ ∀ x H', J.yld i H x H' → gT K t x (L2.wipe σ own) H' fun σ2 H2 => L2.wipe σ2 own = L2.wipe σ own ∧ tTsts K c cd σ2 H2 fun b H3 =>
        if b = true then tEv K c elt σ2 H3 fun y H4 => ∃ acc, H4 D = some (.lst acc) ∧ acc.length < sizeLine ∧ Nx (upd H4 D (.lst (acc ++ [y]))) else Nx H3) := by
  unfold ownOk at hown
  rw [Bool.and_eq_true] at hown
  have ndo : own.Nodup := of_decide_eq_true hown.1
  have hlen : ∀ i ∈ own, i < e1.length := fun i hi => by
    have := List.all_eq_true.mp hown.2 i hi
    split at this
    · cases this
    · rename_i ei; exact (List.getElem?_eq_some_iff.mp ei).1
    · cases this
  obtain ⟨fk, L, Ek, OR, pm⟩ := OwR.split E1 ndo hlen
  have o1p : Ow K S1 H1 (fk ++ L) := o1.perm pm.symm
  have hfL : ∀ x ∈ L, H1 x ≠ Option.none := fun x hx => (OR.mine x hx).some
  have nD : ∀ x ∈ fo1, x ≠ D := fun x hx q => by subst q; exact (E1.own x hx).some hD
  have nSD : ¬ S1 D := fun s => o1.live.1 D s hD
  have dkD : D ∉ fk := fun hx => nD D (pm.mem_iff.mp (List.mem_append_left _ hx)) rfl
  generalize hb : (fun e => (evC K.kt c cd e).bind fun k e => if k then (ev K.kt c elt e).bind fun x e => (takeA x e).bind fun v e => optR ((fit m v).map some) e else Res.ok none e) = b at r2
  refine ⟨fun i k H2 => k = xs.length - i ∧ i ≤ xs.length ∧ ∃ S2 fo2 σ2 e2 accV accW gA, Step S1 H1 fk S2 H2 (fo2 ++ (D :: gA)) ∧ Ow K S2 H2 (fo2 ++ (D :: gA)) ∧ ES K S2 H2 e2 σ2 fo2 ∧ L2.wipe σ2 own = L2.wipe σ own ∧ H2 D = some (.lst accW) ∧ RS K S2 H2 (.l m) accV accW gA ∧ compL own t m1 b (xs.drop i) accV e2 = .ok acc eF, ⟨xs.length, by simp, Nat.zero_le _, S1, fk, σ, setEmp e1 own, [], [], [], ?_, ?_, ?_, rfl, upd_same, .nil _, by simpa using r2⟩, ?_⟩
  · exact (Step.newO hD).perm fun x hx => by
      simp only [List.mem_append, List.mem_cons, List.not_mem_nil, or_false] at hx ⊢
      exact hx.symm
  · refine ⟨List.nodup_append.mpr ⟨o1p.left.nd, by simp, fun x hx y hy q => ?_⟩, fun x hx s => ?_, (Step.newO (fo := []) hD).live o1.live⟩
    · have : y = D := by simpa using hy
      subst this; subst q; exact dkD hx
    · rcases List.mem_append.mp hx with z | z
      · exact o1p.left.ds x z s
      · have : x = D := by simpa using z
        subst this; exact nSD s
  · exact Ek.keep fun _ r => RS.laid r hD
  · rintro i k H2 ⟨rfl, hi, S2, fo2, σ2, e2, accV, accW, gA, st2, o2, E2, hw, hDa, RA, rc⟩
    have keepF : ∀ {mk ys ws}, RS K S1 H1 mk ys ws [] → RS K S2 H2 mk ys ws [] := fun h => RS.step h st2 (by simp) o1p.left.sd (by simp)
    obtain ⟨wgo, wstop⟩ := wk st2 (fun x hx => pm.mem_iff.mp (List.mem_append_left _ hx)) keepF i
    by_cases hlt : i < xs.length
    · right
      obtain ⟨x, hx⟩ : ∃ x, xs[i]? = some x := ⟨xs[i], List.getElem?_eq_getElem hlt⟩
      have hdrop : xs.drop i = x :: xs.drop (i + 1) := by
        rw [List.drop_eq_getElem_cons hlt]
        rw [List.getElem?_eq_getElem hlt] at hx
        cases hx; rfl
      obtain ⟨go, yld⟩ := wgo x hx
      rw [hdrop] at rc
      unfold compL at rc
      split at rc
      · cases rc
      · rename_i e3 ha
        obtain ⟨vo, e5, rb, rc⟩ := Res.bind_ok rc
        refine ⟨go, _, fun H' hN => ⟨xs.length - (i + 1), by omega, rfl, hlt, hN⟩, fun xV H3 hy => ?_⟩
        obtain ⟨stY, RY⟩ := yld xV H3 hy
        have E2' : ES K S2 H3 e2 σ2 fo2 := E2.step stY (by simp) (by simp) o2.left.ds
        obtain ⟨fo3, sb3, E3⟩ := E2'.wipe (own := own)
        rw [hw] at E3
        have o2s : Ow K S2 H2 (fo3 ++ (D :: gA)) := o2.sub (sb3.append (List.Sublist.refl _))
        have hA : ∀ x ∈ D :: gA, H2 x ≠ Option.none := fun x hx => by
          rcases List.mem_cons.mp hx with rfl | hx
          · rw [hDa]; simp
          · exact (RS.own RA x hx).some
        have h3own : ∀ x ∈ fo3, H2 x ≠ Option.none := fun x hx => (E2.own x (sb3.subset hx)).some
        have o3 : Ow K S2 H3 (fo3 ++ (D :: gA)) := by
          have := Ow.step (fo := []) (g := fo3 ++ (D :: gA)) o2s stY ⟨List.nodup_nil, by simp, stY.live o2s.live⟩ fun x hx => (List.mem_append.mp hx).elim (h3own x) (hA x)
          rwa [List.append_nil] at this
        refine ⟨S2, setEmp e2 own, fo3, (m1, x), [], e3, E3, by rw [List.append_nil]; exact o3.left, RY, ha, fun S4 H4 fo4 σ4 st4 o4 E4 ag => ⟨wipe_agr ht ag, ?_⟩⟩
        rw [List.append_nil] at st4
        subst hb
        obtain ⟨k, e4, rk, rb⟩ := Res.bind_ok rb
        refine ⟨S4, e3, fo4, k, e4, E4, o4, rk, fun S5 H5 fo5 st5 o5 E5 => ?_⟩
        -- all since the item was there
        have aside : ∀ {S9 : AS} {H9 : Hp} {fo9 : List Addr}, Step S2 H3 fo3 S9 H9 fo9 → Ow K S9 H9 fo9 → H9 D = some (.lst accW) ∧ RS K S9 H9 (.l m) accV accW gA ∧ Ow K S9 H9 (fo9 ++ (D :: gA)) ∧ Step S1 H1 fk S9 H9 (fo9 ++ (D :: gA)) := fun {S9 H9 fo9} st9 o9 => by
          have hD3 : H3 D = some (.lst accW) := by rw [(stY.frame D (by rw [hDa]; simp) (by simp)).resolve_right fun z => o2.ds D (by simp) z.1]; exact hDa
          have RA3 : RS K S2 H3 (.l m) accV accW gA := RS.step RA stY (by simp) (by simp) fun x hx => o2.ds x (by simp [hx])
          refine ⟨?_, RS.step RA3 st9 (fun x hx => o3.ne' x (List.mem_cons_of_mem _ hx)) o3.left.sd (fun x hx => o3.ds x (by simp [hx])), ?_, ?_⟩
          · rw [(st9.frame D (by rw [hD3]; simp) (o3.ne' D List.mem_cons_self)).resolve_right fun z => o3.ds D (by simp) z.1]; exact hD3
          · exact (Ow.step o3 st9 o9 fun x hx => by
              rcases List.mem_cons.mp hx with rfl | hx
              · rw [hD3]; simp
              · exact (RS.own RA3 x hx).some).perm List.perm_append_comm
          · have sA : Step S1 H1 fk S2 H2 (fo3 ++ (D :: gA)) := st2.perm fun x hx => by
              rcases List.mem_append.mp hx with z | z
              · exact List.mem_append_left _ (sb3.subset z)
              · exact List.mem_append_right _ z
            have sB : Step S2 H2 fo3 S9 H9 fo9 := (stY.idle (fo := fo3)).trans0 st9
            exact (Step.trans sA sB).perm fun x hx => by
              rcases List.mem_append.mp hx with z | z
              · exact List.mem_append_right _ z
              · exact List.mem_append_left _ z
        have s25 : Step S2 H3 fo3 S5 H5 fo5 := st4.trans0 st5.full0
        split at rb
        · rename_i hk
          show (if k = true then _ else _)
          rw [if_pos hk]
          obtain ⟨a, e6, r6, rb⟩ := Res.bind_ok rb
          obtain ⟨mv, e7, r7, rb⟩ := Res.bind_ok rb
          obtain ⟨rfl, rb2⟩ := optR_ok rb
          obtain ⟨y, hy, rfl⟩ := Option.map_eq_some_iff.mp rb2
          have rc : (if accV.length < sizeLine then compL own t m1 _ (xs.drop (i + 1)) (accV ++ [y]) e5 else Res.bad) = Res.ok acc eF := rc
          split at rc
          · rename_i hsz
            refine ⟨S5, e4, fo5, a, e6, E5, o5, r6, fun S6 H6 fo6 wv gv st6 o6 E6 A6 => ?_⟩
            obtain ⟨S7, fo7, g7, tk⟩ := takeA_snd r7 E6 o6 A6
            have hf6 : ∀ a ∈ fo6 ++ gv, H6 a ≠ Option.none := fun a ha => (List.mem_append.mp ha).elim (fun z => (E6.own a z).some) fun z => (A6.own a z).some
            have o7 := tk.ow o6 hf6
            have hf7 : ∀ a ∈ fo7 ++ g7, H6 a ≠ Option.none := fun a ha => hf6 a (tk.mem a ha)
            obtain ⟨S8, g8, a1, a2, a3, R8⟩ := fit_snd hy tk.rep
            obtain ⟨st8, o8⟩ := grow_step o7 hf7 a1 a2 a3
            have E8 : ES K S8 H6 e5 σ4 fo7 := tk.es.keep fun _ r => RS.growS r a1
            have s28 : Step S2 H3 fo3 S8 H6 (fo7 ++ g8) := ((s25.trans0 st6.full).trans0 (step_of hf6 tk.stab tk.new tk.mem)).trans0 st8
            obtain ⟨hD9, RA9, o9, s9⟩ := aside s28 o8
            refine ⟨accW, hD9, by rw [RA9.length]; exact hsz, S8, fo7, σ4, e5, accV ++ [y], accW ++ [wv], gA ++ g8, ?_, ?_, ?_, wipe_agr ht ag, upd_same, ?_, rc⟩
            all_goals
              have pmX : ((fo7 ++ g8) ++ (D :: gA)).Perm (fo7 ++ (D :: (gA ++ g8))) := by
                rw [List.append_assoc]
                refine List.Perm.append_left fo7 ?_
                exact List.perm_append_comm
              have oX := o9.perm pmX
              have ownD : Own (H6 D) := by rw [hD9]; trivial
              have sW : Step S8 H6 [D] S8 (upd H6 D (.lst (accW ++ [wv]))) [D] := Step.write (by simp) ownD
              have dsW : ∀ x, S8 x → x ∉ [D] := fun x s hx => by
                have : x = D := by simpa using hx
                subst this
                exact oX.ds x (by simp) s
              have ndD : ∀ x ∈ fo7 ++ (gA ++ g8), x ∉ [D] := fun x hx hd => by
                have : x = D := by simpa using hd
                subst this
                have nd := oX.nd
                have pmY : (fo7 ++ (x :: (gA ++ g8))).Perm (x :: (fo7 ++ (gA ++ g8))) := List.perm_middle
                exact (List.nodup_cons.mp (pmY.nodup_iff.mp nd)).1 hx
              first
              | exact (s9.trans0 ((Step.write (o := .lst (accW ++ [wv])) (p := D) (by simp) ownD : Step S8 H6 ((fo7 ++ g8) ++ (D :: gA)) S8 (upd H6 D (.lst (accW ++ [wv]))) ((fo7 ++ g8) ++ (D :: gA))))).perm fun x hx => pmX.mem_iff.mpr hx
              | exact ⟨oX.nd, oX.ds, sW.live oX.live⟩
              | exact E8.step sW (fun x hx => ndD x (List.mem_append_left _ hx)) dsW fun x hx => oX.ds x (by simp [hx])
              | exact RS.step (RA9.append (RS.one R8)) sW (fun x hx => ndD x (List.mem_append_right _ hx)) dsW fun x hx => oX.ds x (List.mem_append_right _ (List.mem_cons_of_mem _ hx))
          · cases rc
        · rename_i hk
          show (if k = true then _ else _)
          rw [if_neg hk]
          cases rb
          obtain ⟨hD9, RA9, o9, s9⟩ := aside s25 o5
          exact ⟨S5, fo5, σ4, e5, accV, accW, gA, s9, o9, E5, wipe_agr ht ag, hD9, RA9, rc⟩
    · left
      have : i = xs.length := by omega
      subst this
      rw [List.drop_length] at rc
      cases rc
      refine ⟨wstop (Nat.le_refl _), ?_⟩
      have OR2 := OR.step st2 o1p.left.sd o1p.ne' o1p.right.ds
      have oAll : Ow K S2 H2 (L ++ (fo2 ++ (D :: gA))) := Ow.step o1p st2 o2 hfL
      have pmA : (L ++ (fo2 ++ (D :: gA))).Perm ((fo2 ++ L) ++ (D :: gA)) := by
        rw [← List.append_assoc]; exact List.perm_append_comm.append_right _
      have oB := oAll.perm pmA
      have l1 : σ.length = e1.length := E1.length
      have lw : σ2.length = σ.length := by
        have := congrArg List.length hw
        rwa [wipe_length, wipe_length] at this
      have l2 := E2.length
      obtain ⟨σ3, fo5, E5, nd5, m5, l5, q5, r5⟩ := OR2.back ndo E2 (by omega) (by omega) oB.left.nd
      have hσ : σ3 = σ := List.ext_getElem? fun j => by
        by_cases hj : j ∈ own
        · exact q5 j hj
        · rw [r5 j hj]
          have := congrArg (fun s => s[j]?) hw
          simp only [wipe_get, if_neg hj] at this
          exact this
      rw [hσ] at E5
      have sA : Step S1 H1 fo1 S1 H1 (fk ++ L) := (Step.refl (S := S1) (H := H1) (fo := fo1)).perm fun x hx => pm.mem_iff.mp hx
      have sB : Step S1 H1 fo1 S2 H2 (L ++ (fo2 ++ (D :: gA))) := Step.trans sA st2
      refine h (sB.perm fun x hx => pmA.mem_iff.mpr ?_) (oB.less ?_ fun x hx => ?_) E5 (Rep.lstO hDa RA)
      · rcases List.mem_append.mp hx with z | z
        · exact List.mem_append_left _ (m5 x z)
        · exact List.mem_append_right _ z
      · exact List.nodup_append.mpr ⟨nd5, oB.right.nd, fun x hx y hy q => by subst q; exact oB.ne x (m5 x hx) hy⟩
      · rcases List.mem_append.mp hx with z | z
        · exact List.mem_append_left _ (m5 x z)
        · exact List.mem_append_right _ z
theorem s_comp {t : T} {it cd elt : Sh.E} {σ : Sl} {H : Hp} {Q : VK} (ht : ∀ j ∈ tIdx t, j ∈ own) (h : tEv K c (.comp m own t it cd elt) σ H Q) : tLc (tWlk K c it) (gT K t) (tTsts K c cd) (tEv K c elt) own σ H Q := by
  obtain ⟨S, e, fo, z, e', E, O, r, h⟩ := h
  obtain ⟨ms, e1, r1, r⟩ := Res.bind_ok r
  split at r
  · cases r
  · rename_i hown
    obtain ⟨acc, eF, r2, r⟩ := Res.bind_ok r
    cases r
    have hown : ownOk e1 own = true := by simpa using hown
    exact ⟨S, e, fo, ms, e1, E, O, r1, fun S1 H1 fo1 J st1 o1 E1 wk D hD => comp_core ht hown r2 E1 o1 (fun st _ keep => wk _ _ keep st.frzs) (fun st o E R => h _ _ _ _ _ (.of (st1.trans0 st)) o E R) hD⟩
theorem s_kcomp {t : T} {it cd elt : Sh.E} {σ : Sl} {H : Hp} {Q : VK} (ht : ∀ j ∈ tIdx t, j ∈ own) (h : tEv K c (.kcomp m own t it cd elt) σ H Q) : tLc (iList K.K (tEv K c it)) (gT K t) (tTsts K c cd) (tEv K c elt) own σ H Q := by
  obtain ⟨S, e, fo, z, e', E, O, r, h⟩ := h
  obtain ⟨x, e1, r1, r⟩ := Res.bind_ok r
  split at r
  · rename_i i
    split at r
    · rename_i p xs hi
      split at r
      · cases r
      · rename_i hown
        obtain ⟨acc, eF, r2, r⟩ := Res.bind_ok r
        cases r
        have hown : ownOk (e1.set i .emp) own = true := by simpa using hown
        refine ⟨S, e, fo, .slot i, e1, E, O, r1, fun S1 H1 fo1 w1 g1 st1 o1 E1 A1 => ?_⟩
        obtain ⟨rfl, hσ⟩ := A1
        rw [List.append_nil] at o1
        obtain ⟨w, fl, fp, fr, hw, rfl, R, _, E2⟩ := E1.get hi
        have st1 := st1.nog.full
        rw [List.append_nil] at st1
        have ew : w = w1 := by rw [hw] at hσ; cases hσ; rfl
        subst ew
        rcases Rep.inv_lst R with ⟨m', a, ws, g, hm, rfl, rfl, hl, rs⟩ | ⟨a, ws, hm, _⟩
        · cases hm
          have rs1 : RS K S1 H1 .st xs ws [] := by
            have h1 := RS.ofL rs
            have h2 := h1.st_nil rfl
            rw [h2] at h1; exact h1
          have pm : ((fl ++ fr) ++ (a :: g)).Perm (fl ++ ((a :: g) ++ fr)) := by
            rw [List.append_assoc]
            exact List.Perm.append_left fl List.perm_append_comm
          have o1p : Ow K S1 H1 ((fl ++ fr) ++ (a :: g)) := o1.perm pm.symm
          have nk : ∀ x ∈ a :: g, x ∉ fl ++ fr := fun x hx hf => (List.nodup_append.mp o1p.nd).2.2 x hf x hx rfl
          refine ⟨a, rfl, ⟨ws, .of hl⟩, fun D hD => comp_core ht hown r2 E2 o1p.left (fun {S2 H2 fk fo2} st hk keep i => ?_) (fun {S2 H2 fo5 gg w} st o E3 R3 => ?_) hD⟩
          · have hl2 : H2 a = some (.lst ws) := by
              rw [(st.frame a (by rw [hl]; simp) fun q => nk a List.mem_cons_self (hk a q)).resolve_right fun q => o1p.ds a (by simp) q.1]; exact hl
            have rs2 := keep rs1
            have q' : SqL K.K H2 a ws := .of hl2
            refine ⟨fun v hv => ?_, fun hh => ⟨ws, q', by rw [rs2.length]; exact hh⟩⟩
            obtain ⟨w, hw, rw'⟩ := rs2.getS hv
            refine ⟨⟨ws, w, q', hw⟩, fun w2 H'' hy => ?_⟩
            obtain ⟨rfl, hy⟩ := hy
            have := hy ws q'
            rw [hw] at this; cases this
            exact ⟨.refl, .inl rw'⟩
          · have hfp : ∀ x ∈ a :: g, H1 x ≠ Option.none := fun x hx => (RS.own R x hx).some
            have R2 : Rep K S2 H2 (.l .st) (.lst xs) (.ref a) (a :: g) := RS.step R st nk o1p.left.sd fun x hx => o1p.ds x (List.mem_append_right _ hx)
            have il := (List.getElem?_eq_some_iff.mp hi).1
            have l3 : (backS (e1.set i .emp) own eF).length = σ.length := E3.length.symm
            have l1 : σ.length = e1.length := E1.length
            obtain ⟨fl2, fr2, sb, E4⟩ := E3.fill (p := p) (i := i) (by omega) R2
            have hset : σ.set i (some (.ref a)) = σ := by
              obtain ⟨hlt, he⟩ := List.getElem?_eq_some_iff.mp hw
              rw [← he]; exact List.set_getElem_self hlt
            rw [hset] at E4
            have sA : Step S H fo S1 H1 ((fl ++ fr) ++ (a :: g)) := st1.perm fun x hx => pm.mem_iff.mp hx
            have sB := Step.trans sA st
            have oAll : Ow K S2 H2 ((a :: g) ++ (fo5 ++ gg)) := Ow.step o1p st o hfp
            have ndA : ((fo5 ++ (a :: g)) ++ gg).Nodup := by
              have pmB : ((a :: g) ++ (fo5 ++ gg)).Perm ((fo5 ++ (a :: g)) ++ gg) := by
                rw [← List.append_assoc]; exact List.perm_append_comm.append_right _
              exact pmB.nodup_iff.mp oAll.nd
            obtain ⟨n1, n2, n3⟩ := List.nodup_append.mp ndA
            obtain ⟨n4, m4⟩ := ins_nodup n1 sb
            have mem : ∀ x ∈ (fl2 ++ ((a :: g) ++ fr2)) ++ gg, x ∈ (a :: g) ++ (fo5 ++ gg) := fun x hx => by
              rcases List.mem_append.mp hx with z | z
              · rcases List.mem_append.mp (m4 x z) with y | y
                · exact List.mem_append_right _ (List.mem_append_left _ y)
                · exact List.mem_append_left _ y
              · exact List.mem_append_right _ (List.mem_append_right _ z)
            exact h _ _ _ _ _ (.of (sB.perm mem)) (oAll.less (List.nodup_append.mpr ⟨n4, n2, fun x hx y hy => n3 x (m4 x hx) y hy⟩) mem) E4 R3
        · cases hm
    · cases r
  · cases r
end
end Sh

/-! ShGa: any, all of a generator expression (in the words of the hand layer) -/
namespace Sh
open PySem PySem.Spec PyProof.Rows L2
theorem over_comp {A : Around} {elt : Expr} {gs : List Comprehension} {scope : Scope} {pos : Pos} {it acc : Value} {env : Env} : A.over (.compLoop (.GeneratorExp elt gs scope pos) 0 it acc env) [] = A.deeper env := by
  first
    | rfl
    | (obtain ⟨hd, d, fr, gs, u⟩ := A; simp [Around.over, Around.deeper, marksOver, frameCount, unitsOf, envsOf, guardsOf, pushEnvs, pushGuards, Code.envs, Code.env?, Code.isFrame, Code.guards, Code.isGuard, Code.weight, Code.frames, Code.isCreation, Code.isCaller, Code.cUnits])
theorem over_start {A : Around} {elt : Expr} {gs : List Comprehension} {scope : Scope} {pos : Pos} {it acc : Value} {env : Env} : A.over (.compStart (.GeneratorExp elt gs scope pos) 0 it acc env) [] = A.deeper env := by
  first
    | rfl
    | (obtain ⟨hd, d, fr, gs, u⟩ := A; simp [Around.over, Around.deeper, marksOver, frameCount, unitsOf, envsOf, guardsOf, pushEnvs, pushGuards, Code.envs, Code.env?, Code.isFrame, Code.guards, Code.isGuard, Code.weight, Code.frames, Code.isCreation, Code.isCaller, Code.cUnits])
/-- the context of a generator's frame -/
abbrev gcx (X : Cx) (s : Shared) (H : Hp) (ce : Env) (fp : List Addr) (pn : List (Addr × Obj)) : Cx :=
  { X with s_0 := s, H_0 := H, env := ce, A := X.A.in1.in1.deeper ce, outer := X.stack, stack := ce :: X.stack, ex := fp, fn := fun _ => false, pn := pn, xe := fun _ _ => False }
section
variable {X : Cx} {pins : List (Addr × Obj)} {σ : L2.St} {H : Hp} {s : Shared}
/-- the table of generators alone has turned -/
theorem inv_gens (I : Inv X pins σ H s) {s' : Shared} (hh : s'.heap = s.heap) (ho : s'.os = s.os) (hb : AllBare s'.gens) : Inv X pins σ H s' := by
  obtain ⟨h', g', d', t', o'⟩ := s'
  dsimp only at hh ho hb
  subst hh
  subst ho
  exact ⟨I.ok, I.os, hb, I.base, I.loc, I.cell, I.free, I.freeC, I.pin, I.hok, I.len⟩
theorem gen_start {scope : Scope} {own : List (Str × Nat)} {fp : List Addr} {code : Value} {h' : Heap} {go fo : Obj} {m : Str → Option Value} {g' : Array GenState} {tk : Nat} (I : Inv X pins σ H s) (ok : BlkOk X.N X.env.scope scope own) (hnc : ∀ y ∈ scope.names, y.2 ≠ .cell) (hN : X.N.Nodup)
    (hfp : ∀ b ∈ fp, FpOk X pins H b ∧ b < s.heap.objs.size) (hn : h'.Ns s.heap.objs.size m) (hs : Heap.SameBut s.heap.objs.size (s.heap.push fo) h') (gd : ∀ v, go.data ≠ .cell v) (gp : (h'.push go).get? h'.objs.size = some go) (hb : AllBare g') :
    Inv (gcx X s H (genEnv scope (cloFrom X.env.cells scope.names []) s.heap.objs.size code builtinsNs X.env) fp [(h'.objs.size, go)]) [] (wipe σ (own.map (·.2))) H { s with gens := g', toks := tk, heap := h'.push go } := by
  have hfree : ∀ y ∈ scope.names, y.2 = .free → ∃ c, X.env.cells.lookup y.1 = some c := fun y hy e => by
    rcases ok.free y hy e with k | k
    · exact I.ok.has _ (.inl k)
    · exact I.ok.has _ (.inr k)
  have hsz : h'.objs.size = s.heap.objs.size + 1 := by rw [hs.1, Heap.size_push]
  have kp : ∀ b o, s.heap.get? b = some o → (h'.push go).get? b = some o := fun b o e => Heap.get?_push_of_some _ (hs.extBut b o (Nat.ne_of_lt (Heap.lt_size e)) (Heap.get?_push_of_some _ e))
  have cm : ∀ {y c}, (y, c) ∈ cloFrom X.env.cells scope.names [] → X.env.cells.lookup y = some c ∧ c < s.heap.objs.size := fun {y c} hm => by
    rcases cloFrom_mem hm with hm | ⟨h1, rfl⟩
    · cases hm
    · obtain ⟨c, hc⟩ := hfree _ h1 rfl
      rw [hc]
      obtain ⟨w, z⟩ := I.cell _ _ hc
      exact ⟨rfl, z.lt⟩
  have look : ∀ {y}, scope.names.lookup y = some .free → ∃ c, (cloFrom X.env.cells scope.names []).lookup y = some c ∧ X.env.cells.lookup y = some c := fun {y} hl => by
    have hy : (y, NameKind.free) ∈ scope.names := PySem.mem_of_lookup hl
    obtain ⟨c', e'⟩ := mem_lookup (cloFrom_has (cells := X.env.cells) (acc := []) hy)
    exact ⟨c', e', (cm (PySem.mem_of_lookup e')).1⟩
  have okB : (gcx X s H (genEnv scope (cloFrom X.env.cells scope.names []) s.heap.objs.size code builtinsNs X.env) fp [(h'.objs.size, go)]).Ok := by
    refine ⟨I.ok.mod, ok.kind, I.ok.glob, rfl, Nat.le_refl _, fun y z c e1 e2 => ?_, fun y hy => ?_, fun y c z e => ?_, I.ok.hd, Around.frames_deeper (A := X.A.in1.in1) I.ok.frames, .inr ⟨rfl, rfl⟩, fun b hb => ⟨?_, fun y c e z => ?_⟩, I.bs, Nat.le_trans I.ok.bsz I.sz, fun b o e hb => ?_, fun b hb z => ?_, I.stack, I.stkFree⟩
    · exact I.ok.inj y z c (cm (PySem.mem_of_lookup e1)).1 (cm (PySem.mem_of_lookup e2)).1
    · rcases hy with hy | hy
      · exact absurd rfl (hnc _ (PySem.mem_of_lookup hy))
      · obtain ⟨c, h1, _⟩ := look hy
        exact ⟨c, h1⟩
    · cases z
    · exact Nat.ne_of_lt (hfp b hb).2
    · exact (hfp b hb).1.2.2.2.2.1 y c (cm (PySem.mem_of_lookup e)).1 z
    · rcases (hfp b hb).1.2.2.2.1 with z | z
      · exact I.ok.noex b o e z
      · exact absurd (Nat.lt_of_lt_of_le (Heap.lt_size e) (Nat.le_trans I.ok.bsz z)) (Nat.lt_irrefl _)
    · rcases List.mem_cons.mp (I.stkSub b z) with z | z
      · exact (hfp b hb).1.2.1 z
      · exact (hfp b hb).1.2.2.1 z
  refine ⟨okB, rfl, hb, Un.kept kp, ⟨m, hn.push _, fun i y av e1 e2 e3 => ?_⟩, fun y c e => ?_, ?_, fun y c e => ?_, fun p hp => ?_, I.hok.kept kp, by rw [wipe_length]; exact I.len⟩
  · obtain ⟨e2, hne⟩ := wipe_some e2
    have no : ∀ k, scope.names.lookup y = some k → ¬ (k = .local ∨ k = .cell) := fun k e hh => by
      rcases ok.own _ (PySem.mem_of_lookup e) hh with e' | e'
      · obtain ⟨p, hp, hpy⟩ := List.mem_map.mp e'
        have e3 := ok.ix p hp
        have : p.1 = y := hpy
        rw [this] at e3
        exact hne (List.mem_map.mpr ⟨p, hp, nodup_ix hN e3 e1⟩)
      · exact e' (List.mem_of_getElem? e1)
    have hfr : scope.names.lookup y = some .free := by
      rcases e3 with e3 | e3 | e3
      · exact absurd (.inl rfl) (no _ e3)
      · exact absurd (.inr rfl) (no _ e3)
      · exact e3
    obtain ⟨m, hn, hl⟩ := I.loc
    have hvis : Vis X.env.scope y := (ok.free _ (PySem.mem_of_lookup hfr) rfl).elim (fun k => .inr (.inl k)) (fun k => .inr (.inr k))
    obtain ⟨w, r, q⟩ := hl i y av e1 e2 hvis
    refine ⟨w, r, .inr ⟨.inr hfr, ?_⟩⟩
    obtain ⟨c, h1, h2⟩ := look hfr
    rcases q with ⟨k, _⟩ | ⟨_, c', e', z⟩
    · have k : X.env.scope.names.lookup y = some .local := k
      rcases ok.free _ (PySem.mem_of_lookup hfr) rfl with k' | k' <;> rw [show X.env.scope.names.lookup y = _ from k'] at k <;> cases k
    · rw [h2] at e'; cases e'
      exact ⟨c, h1, z.keeps kp⟩
  · obtain ⟨w, z⟩ := I.cell y c (cm (PySem.mem_of_lookup e)).1
    exact ⟨w, z.keeps kp⟩
  · exact I.hok.fresh (Nat.le_refl _)
  · exact I.freeC y c (cm (PySem.mem_of_lookup e)).1
  · have hp : p ∈ [(h'.objs.size, go)] ++ ([] : List (Addr × Obj)) := hp
    have e : p = (h'.objs.size, go) := by simpa using hp
    subst e
    refine ⟨gp, I.hok.fresh (by rw [hsz]; exact Nat.le_succ _), by show h'.objs.size ≠ s.heap.objs.size; omega, fun z => ?_, gd⟩
    rcases List.mem_cons.mp (I.stkSub _ z) with z | z
    · have z1 : (h'.objs.size : Nat) < s.heap.objs.size := by
        have z : h'.objs.size = X.env.locals := z
        rw [z]; exact I.lt
      omega
    · exact I.nofs (by omega) z
/-- what a generator still hands out (al: all is asked; else any) -/
def GY (al : Bool) (Q : VK) (IE : Hp → Shared → Prop) : Protocol := fun _ _ v s kap => ∃ (b : Bool) (H : Hp), v = .bool b ∧ IE H s ∧
  (b = al → ∀ s' : Shared, s'.heap = s.heap → s'.os = s.os → AllBare s'.gens → kap (.send .none) s') ∧ (b = !al → Q (.bl (!al)) H)
def GP (al : Bool) (Q : VK) (IE : Hp → Shared → Prop) : Nat → Shared → Shared → Prop := fun _ _ s => ∃ H, Q (.bl al) H ∧ IE H s
/-- the turns of the generator's loop -/
def GTurn (J : It) (W : Nat → Nat → Hp → Prop) (al : Bool) (Q : VK) (g : TG) (te : TE) (σw : L2.St) (vs : List Nat) : Prop := ∀ i m H, W i m H → (J.stop i H ∧ Q (.bl al) H) ∨ (J.go i H ∧ ∃ Nx : Hp → Prop, (∀ H', Nx H' → ∃ m', m' < m ∧ W (i + 1) m' H') ∧
  ∀ x H', J.yld i H x H' → g x σw H' fun σ2 H2 => wipe σ2 vs = σw ∧ te σ2 H2 fun y H3 => ∃ b, y = .bl b ∧ if b = al then Nx H3 else Q (.bl (!al)) H3)
theorem gen_loop {s0 : Shared} {H0 : Hp} {ce : Env} {fp : List Addr} {pn : List (Addr × Obj)} {tg iter elt : Expr} {scope : Scope} {gpos : Pos} {it : Addr} {tn : Nat → Heap → Prop} {J : It} {vs : List Nat} {g : TG} {te : TE} {al : Bool} {Q : VK} {W : Nat → Nat → Hp → Prop}
    (hc : X.calm = true) (hco : ce.scope.isCoroutine = false) (T : Turn X.prog X.w X.K tg J fp it tn) (pg : PG (gcx X s0 H0 ce fp pn) tg g) (pe : PE (gcx X s0 H0 ce fp pn) elt te) (turn : GTurn J W al Q g te (wipe σ vs) vs)
    (fpn : ∀ b ∈ fp, ∀ p ∈ pn, p.1 ≠ b) :
    ∀ (n m i : Nat) (H : Hp) (s₀ s : Shared), m < n → W i m H → Inv (gcx X s0 H0 ce fp pn) [] (wipe σ vs) H s → tn i s.heap → (∀ b ∈ fp, H b = none) →
      Seg (model X.prog X.w) X.A.in1.in1 (fun n s₀ r s₁ => r = .ok .next ∧ GP al Q (Inv (gcx X s0 H0 ce fp pn) [] (wipe σ vs)) n s₀ s₁) (GY al Q (Inv (gcx X s0 H0 ce fp pn) [] (wipe σ vs))) n s₀
        (.compLoop (.GeneratorExp elt [⟨tg, iter, [], 0⟩] scope gpos) 0 (.ref it) .none ce) ((model X.prog X.w).den (.compLoop (.GeneratorExp elt [⟨tg, iter, [], 0⟩] scope gpos) 0 (.ref it) .none ce)) [] s := by
  have stat : ∀ {σ' : L2.St} {H' : Hp} {s' : Shared}, Inv (gcx X s0 H0 ce fp pn) [] σ' H' s' → (∀ b ∈ fp, H' b = none) → ∀ b ∈ fp, FpOk (gcx X s0 H0 ce fp pn) [] H' b := fun {σ' H' s'} I' hn b hb =>
    ⟨hn b hb, (I'.ok.exf b hb).1, I'.ok.exfs b hb, .inl hb, fun x c e => (I'.ok.exf b hb).2 x c e, fun p hp => fpn b hb p (by simpa using hp)⟩
  intro n
  induction n with
  | zero => intro m i H s₀ s hm; omega
  | succ n ih =>
    intro m i H s₀ s hm w I st hn
    show Seg _ _ _ _ _ s₀ _ ((compTurn (.GeneratorExp elt [⟨tg, iter, [], 0⟩] scope gpos) 0 (.ref it) .none ce).onRaise (leaving ce)) [] s
    rw [compTurn_gen, Sem.onRaise_eq_wrap]
    refine seg_bind_wrap (wpAny_standAt ?_)
    rcases turn i m H w with ⟨stop, qq⟩ | ⟨go, Nx, hNx, step⟩
    · have td := T.done (gcx X s0 H0 ce fp pn) rfl rfl rfl hc i [] s _ H (fun _ _ => False) I (stat I hn) st stop
      refine seg_bind_wrap ?_
      rw [over_comp]
      refine thnF td fun r s6 ⟨hr, I6⟩ => ?_
      subst hr
      exact seg_end (.ok .next) ⟨rfl, H, qq, I6⟩
    · have ti := T.item (gcx X s0 H0 ce fp pn) rfl rfl rfl hc i [] s _ H (fun _ _ => False) I (stat I hn) st go
      refine seg_bind_wrap ?_
      rw [over_comp]
      refine thnF ti fun r s6 ⟨u, hr, h6⟩ => ?_
      subst hr
      refine seg_bind_wrap ?_
      rw [over_comp]
      refine thnF h6 fun _ s7 ⟨x, H7, I7, r7, y7, st7, n7⟩ => ?_
      have I7' := I7.pinned (stat I7 n7) (T.obj _ _ st7)
      refine seg_bind_wrap ?_
      rw [over_comp]
      refine thnF (pg.run _ s7 _ H7 x u _ I7' r7 (step x H7 y7)) fun _ s8 ⟨σ8, H8, I8, hw8, q8⟩ => ?_
      refine seg_bind_wrap ?_
      simp only [List.forIn_nil]
      refine wpAny_pure ?_
      simp only [if_true]
      have hy : ∀ v, yieldOut ce v = yieldValue v := fun v => by simp only [yieldOut, hco, Bool.false_eq_true, if_false]
      simp only [hy]
      rw [Sem.bind_eq_wrap', Sem.bind_eq_wrap', Sem.wrap_wrap, Sem.wrap_wrap]
      refine seg_wrap ?_
      rw [over_comp]
      refine thnF (pe.run _ s8 σ8 H8 _ I8 q8) fun y s9 ⟨yv, H9, I9, r9, b, hyb, hif⟩ => ?_
      subst hyb
      have ey : y = .bool b := r9
      subst ey
      have pin' : ∀ b ∈ fp, ∀ o, s7.heap.get? b = some o → s9.heap.get? b = some o ∧ H9 b = none := fun b hb o e =>
        let z := I9.pin (b, o) (List.mem_append_right _ (List.mem_append_right _ (mem_pinsAt hb e)))
        ⟨z.1, z.2.1⟩
      have hl : (wipe σ vs).length = σ8.length := by rw [← hw8, wipe_length]
      have I10 : Inv (gcx X s0 H0 ce fp pn) [] (wipe σ vs) H9 s9 := (I9.unpinned (pins := [])).weak hl fun j v e => by
        rw [← hw8] at e
        exact (wipe_some e).1
      refine seg_at (seg_yield rfl rfl rfl ⟨b, H9, rfl, I10, fun hb s' eh eo eg => ?_, fun hb => ?_⟩)
      · rw [if_pos hb] at hif
        obtain ⟨m', hm', w'⟩ := hNx H9 hif
        refine seg_again rfl (ih m' (i + 1) H9 s' s' (by omega) w' (inv_gens I10 eh eo eg) ?_ fun b hb => ?_)
        · rw [eh]
          exact T.keep _ _ _ st7 fun b hb o e => (pin' b hb o e).1
        · obtain ⟨o, e, _⟩ := T.obj _ _ st7 b hb
          exact (pin' b hb o e).2
      · rw [if_neg (by rw [hb]; cases al <;> decide)] at hif
        exact hif
theorem bare_set {gens : Array GenState} {g : Nat} {x : GenState} (h : AllBare gens) (hx : x.bare = true) : AllBare (gens.setIfInBounds g x) := fun y hy => by
  rcases Array.mem_or_eq_of_mem_setIfInBounds hy with h1 | rfl
  · exact h y h1
  · exact hx
/-- a generator that may be asked -/
structure Rdy (X : Cx) (pins : List (Addr × Obj)) (σ : L2.St) (al : Bool) (Q : VK) (IE : Hp → Shared → Prop) (a : Addr) (gi : Nat) : Prop where
  at_ : ∀ H s, IE H s → s.heap.IsGen a gi ∧ s.heap.NoLimit ∧ AllBare s.gens ∧ Inv X pins σ H s
  gens : ∀ H s s', IE H s → s'.heap = s.heap → s'.os = s.os → AllBare s'.gens → IE H s'
  heap : ∀ H s (h' : Heap), IE H s → (∀ b o, s.heap.get? b = some o → h'.get? b = some o) → IE H { s with heap := h' }
/-- n items at most are to come -/
def GGo (X : Cx) (al : Bool) (Q : VK) (IE : Hp → Shared → Prop) (gi n : Nat) (s : Shared) : Prop := ∃ gs, s.gens[gi]? = some gs ∧
  ∀ s' : Shared, s'.heap = s.heap → s'.os = s.os → AllBare s'.gens → gs.Goes (model X.prog X.w) X.A.in1.in1 (fun n s₀ r s₁ => r = .ok .next ∧ GP al Q IE n s₀ s₁) (GY al Q IE) n (.send .none) s'
theorem any_loop {Q : VK} {IE : Hp → Shared → Prop} {a : Addr} {gi : Nat} {RR : Result → Shared → Prop} (hh : X.A.handled = none) (hroom : X.A.depth < recursionLimit) (R : Rdy X pins σ false Q IE a gi) (hR : ∀ b H s, IE H s → Q (.bl b) H → RR (.ok (.ret (.bool b))) s) :
    ∀ (n : Nat) (H : Hp) (s : Shared), IE H s → GGo X false Q IE gi n s → codeAny (model X.prog X.w) X.A (.builtin "any.loop" ⟨[.ref a], []⟩) RR s := by
  intro n
  induction n with
  | zero =>
    intro H s hI ⟨gs, hgs, hgo⟩
    obtain ⟨hg, hl, hb, I⟩ := R.at_ H s hI
    have hlt : gi < s.gens.size := (Array.getElem?_eq_some_iff.mp hgs).1
    refine codeAny_builtin F.entry_any_loop ?_
    rw [Around.under_plainId F.plain_any_loop _]
    show wpAny _ X.A.in1 (pyNext (.ref a) >>= _) _ _ s
    refine wpAny_bind (wpAny_pyNext_genexpQ (A := X.A.in1) (P := GP false Q IE) (Y := GY false Q IE) (n := 0) hh hl hroom hg hgs (hgo _ rfl rfl (bare_set hb rfl)) (fun v s₁ gs' hbare hv => ?_) fun s₁ hp h' hk => ?_)
    · obtain ⟨b, H1, rfl, hI1, hc, hs⟩ := hv
      obtain ⟨_, _, hb1, _⟩ := R.at_ H1 s₁ hI1
      refine wpAny_bind (wpAny_holding (wpAny_truthy_bool ?_))
      refine wpAny_bind (wpAny_letGo ?_)
      cases b with
      | false => exact False.elim (hc rfl s₁ rfl rfl hb1)
      | true =>
        simp only [if_true]
        exact wpAny_bind (wpAny_rule (wpAny_pure (hR true H1 _ (R.gens H1 s₁ _ hI1 rfl rfl (bare_set hb1 hbare)) (hs rfl))))
    · obtain ⟨H1, q, hI1⟩ := hp
      obtain ⟨_, _, hb1, _⟩ := R.at_ H1 s₁ hI1
      refine wpAny_bind (wpAny_rule (wpAny_pure ?_))
      exact hR false H1 _ (R.heap H1 _ h' (R.gens H1 s₁ (s₁.setGen gi .finished) hI1 rfl rfl (bare_set hb1 rfl)) hk) q
  | succ n ih =>
    intro H s hI ⟨gs, hgs, hgo⟩
    obtain ⟨hg, hl, hb, I⟩ := R.at_ H s hI
    have hlt : gi < s.gens.size := (Array.getElem?_eq_some_iff.mp hgs).1
    refine codeAny_builtin F.entry_any_loop ?_
    rw [Around.under_plainId F.plain_any_loop _]
    show wpAny _ X.A.in1 (pyNext (.ref a) >>= _) _ _ s
    refine wpAny_bind (GenW.wpAny_gsz (n := gi + 1) hlt (wpAny_pyNext_genexpQ (A := X.A.in1) (P := GP false Q IE) (Y := GY false Q IE) (n := n + 1) hh hl hroom hg hgs (hgo _ rfl rfl (bare_set hb rfl)) (fun v s₁ gs' hbare hv hsz => ?_) fun s₁ hp h' hk _ => ?_))
    · obtain ⟨b, H1, rfl, hI1, hc, hs⟩ := hv
      obtain ⟨_, _, hb1, _⟩ := R.at_ H1 s₁ hI1
      have hI2 := R.gens H1 s₁ (s₁.setGen gi gs') hI1 rfl rfl (bare_set hb1 hbare)
      refine wpAny_bind (wpAny_holding (wpAny_truthy_bool ?_))
      refine wpAny_bind (wpAny_letGo ?_)
      cases b with
      | false =>
        simp only [Bool.false_eq_true, if_false]
        refine wpAny_pure ⟨plainId_quiet F.plain_any_loop _, ih H1 _ hI2 ⟨gs', ?_, fun s' e1 e2 e3 => hc rfl s' e1 e2 e3⟩⟩
        rw [GenW.setGen_size] at hsz
        simp only [Shared.setGen]
        rw [Array.getElem?_setIfInBounds_self_of_lt hsz]
      | true =>
        simp only [if_true]
        exact wpAny_bind (wpAny_rule (wpAny_pure (hR true H1 _ hI2 (hs rfl))))
    · obtain ⟨H1, q, hI1⟩ := hp
      obtain ⟨_, _, hb1, _⟩ := R.at_ H1 s₁ hI1
      refine wpAny_bind (wpAny_rule (wpAny_pure ?_))
      exact hR false H1 _ (R.heap H1 _ h' (R.gens H1 s₁ (s₁.setGen gi .finished) hI1 rfl rfl (bare_set hb1 rfl)) hk) q
theorem all_loop {Q : VK} {IE : Hp → Shared → Prop} {a : Addr} {gi : Nat} {RR : Result → Shared → Prop} (hh : X.A.handled = none) (hroom : X.A.depth < recursionLimit) (R : Rdy X pins σ true Q IE a gi) (hR : ∀ b H s, IE H s → Q (.bl b) H → RR (.ok (.ret (.bool b))) s) :
    ∀ (n : Nat) (H : Hp) (s : Shared), IE H s → GGo X true Q IE gi n s → codeAny (model X.prog X.w) X.A (.builtin "all.loop" ⟨[.ref a], []⟩) RR s := by
  intro n
  induction n with
  | zero =>
    intro H s hI ⟨gs, hgs, hgo⟩
    obtain ⟨hg, hl, hb, I⟩ := R.at_ H s hI
    have hlt : gi < s.gens.size := (Array.getElem?_eq_some_iff.mp hgs).1
    refine codeAny_builtin F.entry_all_loop ?_
    rw [Around.under_plainId F.plain_all_loop _]
    show wpAny _ X.A.in1 (pyNext (.ref a) >>= _) _ _ s
    refine wpAny_bind (wpAny_pyNext_genexpQ (A := X.A.in1) (P := GP true Q IE) (Y := GY true Q IE) (n := 0) hh hl hroom hg hgs (hgo _ rfl rfl (bare_set hb rfl)) (fun v s₁ gs' hbare hv => ?_) fun s₁ hp h' hk => ?_)
    · obtain ⟨b, H1, rfl, hI1, hc, hs⟩ := hv
      obtain ⟨_, _, hb1, _⟩ := R.at_ H1 s₁ hI1
      refine wpAny_bind (wpAny_holding (wpAny_truthy_bool ?_))
      refine wpAny_bind (wpAny_letGo ?_)
      cases b with
      | true => exact False.elim (hc rfl s₁ rfl rfl hb1)
      | false =>
        simp only [Bool.false_eq_true, if_false]
        exact wpAny_bind (wpAny_rule (wpAny_pure (hR false H1 _ (R.gens H1 s₁ _ hI1 rfl rfl (bare_set hb1 hbare)) (hs rfl))))
    · obtain ⟨H1, q, hI1⟩ := hp
      obtain ⟨_, _, hb1, _⟩ := R.at_ H1 s₁ hI1
      refine wpAny_bind (wpAny_rule (wpAny_pure ?_))
      exact hR true H1 _ (R.heap H1 _ h' (R.gens H1 s₁ (s₁.setGen gi .finished) hI1 rfl rfl (bare_set hb1 rfl)) hk) q
  | succ n ih =>
    intro H s hI ⟨gs, hgs, hgo⟩
    obtain ⟨hg, hl, hb, I⟩ := R.at_ H s hI
    have hlt : gi < s.gens.size := (Array.getElem?_eq_some_iff.mp hgs).1
    refine codeAny_builtin F.entry_all_loop ?_
    rw [Around.under_plainId F.plain_all_loop _]
    show wpAny _ X.A.in1 (pyNext (.ref a) >>= _) _ _ s
    refine wpAny_bind (GenW.wpAny_gsz (n := gi + 1) hlt (wpAny_pyNext_genexpQ (A := X.A.in1) (P := GP true Q IE) (Y := GY true Q IE) (n := n + 1) hh hl hroom hg hgs (hgo _ rfl rfl (bare_set hb rfl)) (fun v s₁ gs' hbare hv hsz => ?_) fun s₁ hp h' hk _ => ?_))
    · obtain ⟨b, H1, rfl, hI1, hc, hs⟩ := hv
      obtain ⟨_, _, hb1, _⟩ := R.at_ H1 s₁ hI1
      have hI2 := R.gens H1 s₁ (s₁.setGen gi gs') hI1 rfl rfl (bare_set hb1 hbare)
      refine wpAny_bind (wpAny_holding (wpAny_truthy_bool ?_))
      refine wpAny_bind (wpAny_letGo ?_)
      cases b with
      | true =>
        simp only [if_true]
        refine wpAny_pure ⟨plainId_quiet F.plain_all_loop _, ih H1 _ hI2 ⟨gs', ?_, fun s' e1 e2 e3 => hc rfl s' e1 e2 e3⟩⟩
        rw [GenW.setGen_size] at hsz
        simp only [Shared.setGen]
        rw [Array.getElem?_setIfInBounds_self_of_lt hsz]
      | false =>
        simp only [Bool.false_eq_true, if_false]
        exact wpAny_bind (wpAny_rule (wpAny_pure (hR false H1 _ hI2 (hs rfl))))
    · obtain ⟨H1, q, hI1⟩ := hp
      obtain ⟨_, _, hb1, _⟩ := R.at_ H1 s₁ hI1
      refine wpAny_bind (wpAny_rule (wpAny_pure ?_))
      exact hR true H1 _ (R.heap H1 _ h' (R.gens H1 s₁ (s₁.setGen gi .finished) hI1 rfl rfl (bare_set hb1 rfl)) hk) q
/-- any, all (test for target in e); P: the def's table of code objects -/
def tGen (P : Addr) (wi : TI) (g : TG) (te : TE) (al : Bool) (vs : List Nat) : TE := fun σ H Q => wi σ H fun J H1 => ∃ ps : Array Value, H1 P = some (.tbl ps) ∧ TriplesOk ps.toList ∧ ∀ more : Array Value, TriplesOk (ps ++ more).toList →
  ∃ W : Nat → Nat → Hp → Prop, (∃ m, W 0 m (upd H1 P (.tbl (ps ++ more)))) ∧ GTurn J W al Q g te (wipe σ vs) vs
theorem gen_made {c P : Addr} {tg iter elt : Expr} {scope : Scope} {own : List (Str × Nat)} {gpos : Pos} {wi : TI} {g : TG} {te : TE} {al : Bool} {Q : VK} {Q' : Value → Shared → Prop}
    (hc : X.calm = true) (hN : X.N.Nodup) (hr : Room 1 X.A) (TB : GxR.TabB X.base X.mg c P) (hcode : X.env.code = .ref c) (hi : PI X tg iter wi) (ok : BlkOk X.N X.env.scope scope own) (hnc : ∀ y ∈ scope.names, y.2 ≠ .cell) (h0 : scope.names.lookup (".0" : Str) = some .local) (hco : scope.isCoroutine = false)
    (hg : ∀ (s : Shared) (H : Hp) (ce : Env) (fp : List Addr) (pn : List (Addr × Obj)), ce.scope = scope → PG (gcx X s H ce fp pn) tg g) (he : ∀ (s : Shared) (H : Hp) (ce : Env) (fp : List Addr) (pn : List (Addr × Obj)), ce.scope = scope → PE (gcx X s H ce fp pn) elt te)
    (hs : ∀ x, genFold iter X.env x = pure x) (I : Inv X pins σ H s) (h : tGen P wi g te al (own.map (·.2)) σ H Q)
    (hQ : ∀ (IE : Hp → Shared → Prop) (a : Addr) (gi n : Nat) (H5 : Hp) (s5 : Shared), Rdy X pins σ al Q IE a gi → IE H5 s5 → GGo X al Q IE gi n s5 → Q' (.ref a) s5) :
    wpAny (model X.prog X.w) X.A (eval (.GeneratorExp elt [⟨tg, iter, [], 0⟩] scope gpos) X.env) Q' X.xe s := by
  have hfree : ∀ y ∈ scope.names, y.2 = .free → ∃ c, X.env.cells.lookup y.1 = some c := fun y hy e => by
    rcases ok.free y hy e with k | k
    · exact I.ok.has _ (.inl k)
    · exact I.ok.has _ (.inr k)
  refine wpAny_GeneratorExp_make hco (closure_ok hfree) hnc h0 ok.kind (by have := hr.dp; omega) (thn (hi.run pins s σ H _ I h) fun xv s1 hx => thn hx fun itv s2 h2 => ?_) hs
  obtain ⟨it, fp, tn, J, H2, e, I2, T, st2, f2, ps, hP, ht, q⟩ := h2
  subst e
  refine ⟨I2.nolimit, ?_⟩
  have hPs : s2.heap.get? P = some { cls := .none, data := .fields ps } := I2.hok P _ hP
  have cd : PySem.W.CodeHd s2.heap c P := TB.code.keeps fun b u e => I2.bk b u e
  have neP : ∀ b ∈ fp, b ≠ P := fun b hb z => by
    have := (f2 b hb).1
    rw [z, hP] at this; cases this
  have cont : ∀ (code : Value) (h3 : Heap) (tk : Nat) (more : Array Value), Heap.ExtBut P s2.heap h3 → s2.heap.objs.size ≤ h3.objs.size → h3.get? P = some { cls := .none, data := .fields (ps ++ more) } → TriplesOk (ps ++ more).toList →
      wpAny (model X.prog X.w) X.A (builtinsFor X.env.globals X.env.builtins) (fun bi s₄ => ∀ h' : Heap, h'.Ns s₄.heap.objs.size (fun y => if y = ".0" then some (.ref it) else none) → Heap.SameBut s₄.heap.objs.size (s₄.heap.push { cls := .type "frame", data := .dict #[] }) h' →
          Q' (.ref h'.objs.size) { s₄ with
            gens := s₄.gens.push (.fresh (.compStart (.GeneratorExp elt [⟨tg, iter, [], 0⟩] scope gpos) 0 (.ref it) .none (genEnv scope (cloFrom X.env.cells scope.names []) s₄.heap.objs.size code bi X.env))),
            toks := s₄.toks + 1 + 1 + 1,
            heap := h'.push { cls := .type "generator", data := .fields #[.int s₄.gens.size 0, .str "<genexpr>" (s₄.toks + 1), .str (X.env.qual ++ "<genexpr>") (s₄.toks + 1 + 1)] } }) X.xe { s2 with heap := h3, toks := tk } := by
    intro code h3 tk more hx hsz hm ht3
    obtain ⟨bm, ob, e1, e2, e3, e4, e5, e6, e7, e8⟩ := TB.bm
    have I3 : Inv X pins σ (upd H2 P (.tbl (ps ++ more))) { s2 with heap := h3, toks := tk } := GxR.inv_tab (g' := s2.gens) (d' := s2.drawn) (t' := tk) I2 hP (fun b u hb e => hx b u hb e) hm I2.bare
    refine wpAny_builtinsFor (m := X.mg) (by rw [I.ok.glob]; exact I3.mod.glob.keeps I3.bk) e1 e2 (I3.bk _ _ e5) e6 e7 e8 ?_
    intro h' hn hs'
    obtain ⟨W, ⟨m0, w0⟩, turn⟩ := q more ht3
    have f3 : ∀ b ∈ fp, FpOk X pins (upd H2 P (.tbl (ps ++ more))) b ∧ b < h3.objs.size := fun b hb => by
      obtain ⟨o, e, _⟩ := T.obj _ _ st2 b hb
      refine ⟨⟨?_, (f2 b hb).2⟩, Nat.lt_of_lt_of_le (Heap.lt_size e) hsz⟩
      rw [upd_ne (neP b hb)]
      exact (f2 b hb).1
    have hsz2 : h'.objs.size = h3.objs.size + 1 := by rw [hs'.1, Heap.size_push]
    have I4 := gen_start (code := code) (go := { cls := .type "generator", data := .fields #[.int s2.gens.size 0, .str "<genexpr>" (tk + 1), .str (X.env.qual ++ "<genexpr>") (tk + 1 + 1)] }) (g' := s2.gens.push (.fresh (.compStart (.GeneratorExp elt [⟨tg, iter, [], 0⟩] scope gpos) 0 (.ref it) .none (genEnv scope (cloFrom X.env.cells scope.names []) h3.objs.size code builtinsNs X.env)))) (tk := tk + 1 + 1 + 1) I3 ok hnc hN f3 hn hs' (fun v z => by cases z) (Heap.get?_push_size _ rfl) (AllBare.push I2.bare rfl)
    generalize hgo : ({ cls := .type "generator", data := .fields #[.int s2.gens.size 0, .str "<genexpr>" (tk + 1), .str (X.env.qual ++ "<genexpr>") (tk + 1 + 1)] } : Obj) = go at I4
    have hgen : ∀ h : Heap, h.get? h'.objs.size = some go → h.IsGen h'.objs.size s2.gens.size := fun h e => ⟨go, _, _, e, by rw [← hgo], by rw [← hgo], by rw [← hgo]⟩
    have st5 : tn 0 (h'.push go) := T.keep _ _ _ st2 fun b hb o e => Heap.get?_push_of_some _ (hs'.extBut b o (Nat.ne_of_lt (f3 b hb).2) (Heap.get?_push_of_some _ (hx b o (neP b hb) e)))
    have nfp : ∀ b ∈ fp, (upd H2 P (.tbl (ps ++ more))) b = none := fun b hb => (f3 b hb).1.1
    have fpn : ∀ b ∈ fp, ∀ p ∈ [(h'.objs.size, go)], p.1 ≠ b := fun b hb p hp z => by
      rw [List.mem_singleton.mp hp] at z
      have h1 := (f3 b hb).2
      have z : h'.objs.size = b := z
      rw [← z] at h1
      have h1 : (h'.objs.size : Nat) < h3.objs.size := h1
      omega
    show Q' (.ref h'.objs.size) _
    have loop := gen_loop (X := X) (σ := σ) (s0 := { s2 with heap := h3, toks := tk }) (H0 := upd H2 P (.tbl (ps ++ more))) (ce := genEnv scope (cloFrom X.env.cells scope.names []) h3.objs.size code builtinsNs X.env) (fp := fp) (pn := [(h'.objs.size, go)]) (iter := iter) (scope := scope) (gpos := gpos) (vs := own.map (·.2)) hc hco T (hg _ _ _ _ _ rfl) (he _ _ _ _ _ rfl) turn fpn
    refine hQ (Inv (gcx X { s2 with heap := h3, toks := tk } (upd H2 P (.tbl (ps ++ more))) (genEnv scope (cloFrom X.env.cells scope.names []) h3.objs.size code builtinsNs X.env) fp [(h'.objs.size, go)]) [] (wipe σ (own.map (·.2)))) h'.objs.size s2.gens.size (m0 + 1) (upd H2 P (.tbl (ps ++ more))) _ ⟨fun H s hI => ?_, fun H s s' hI e1 e2 e3 => inv_gens hI e1 e2 e3, fun H s h1 hI hk => ?_⟩ ?_ ⟨_, Array.getElem?_push_size .., fun s' g1 g2 g3 => ⟨rfl, ?_⟩⟩
    · obtain ⟨p1, _⟩ := hI.pin (h'.objs.size, go) (List.mem_append_left _ (List.mem_singleton.mpr rfl))
      exact ⟨hgen _ p1, hI.nolimit, hI.bare, I3.call' (ch := fp) hI.os hI.base hI.hok hI.bare fun b hb => ⟨(f3 b hb).1.2.2.2.1, (f3 b hb).1.2.1, (f3 b hb).1.2.2.2.2.1, (f3 b hb).1.2.2.2.2.2⟩⟩
    · exact hI.un (t' := s.toks) (Un.kept hk) (hI.hok.kept hk)
    · rw [← hgo] at I4 ⊢
      exact I4
    · have I5 := inv_gens I4 (s' := s') (by rw [g1, ← hgo]) g2 g3
      have st6 : tn 0 s'.heap := by
        rw [g1]
        exact st5
      have lp := loop (m0 + 1) m0 0 _ s' s' (Nat.lt_succ_self _) w0 I5 st6 nfp
      show Seg _ _ _ _ _ s' _ ((compStart (.GeneratorExp elt [⟨tg, iter, [], 0⟩] scope gpos) 0 (.ref it) .none (genEnv scope (cloFrom X.env.cells scope.names []) h3.objs.size code builtinsNs X.env)).onRaise (leaving (genEnv scope (cloFrom X.env.cells scope.names []) h3.objs.size code builtinsNs X.env))) [] s'
      unfold compStart
      rw [Sem.onRaise_eq_wrap]
      show Seg _ _ _ _ _ s' _ ((ask >>= _).wrap _ _ _ _) [] s'
      refine seg_bind_wrap (wpAny_askSetting ?_)
      split
      · exact seg_again rfl lp
      · first
          | exact seg_bind_wrap (wpAny_rule (seg_bind_wrap (wpAny_standAt (seg_bind_wrap (T.self _ 0 s' _ _ st6 (seg_again rfl lp))))))
          | (refine seg_bind_wrap (wpAny_rule ?_); show Seg _ _ _ _ _ s' _ ((standAt iter.pos >>= _).wrap _ _ _ _) [] s'; exact seg_bind_wrap (wpAny_standAt (seg_bind_wrap (T.self _ 0 s' _ _ st6 (seg_again rfl lp)))))
  cases hf : codeAmong gpos ps.toList with
  | none =>
    refine wpAny_genexprCodeX hcode (cd.code hPs ht) (cd.tab hPs) hf fun c' h' tk hx hge hlt hco' _ htab' _ => ?_
    obtain ⟨o1, vs, f1, tf, fl, tg1, inF, tx, tt, op, _, _, _, _, _, _, _, _, _, htr, _⟩ := hco'
    exact cont _ h' tk _ hx (Nat.le_trans hge (Nat.le_of_lt hlt)) htab'.2 htr
  | some cv =>
    refine wpAny_genexprCode_hit hcode (cd.code hPs ht) hf ?_
    have e0 : ps ++ #[] = ps := by simp
    have := cont cv s2.heap s2.toks #[] (Heap.ExtBut.refl _ _) (Nat.le_refl _) (by rw [e0]; exact hPs) (by rw [e0]; exact ht)
    exact this
theorem pe_any {c P : Addr} {tg iter elt : Expr} {scope : Scope} {own : List (Str × Nat)} {p pos gpos : Pos} {wi : TI} {g : TG} {te : TE}
    (hc : X.calm = true) (hN : X.N.Nodup) (hr : Room 1 X.A) (gl : Gl X "any") (hm : X.mg "any" = none) (TB : GxR.TabB X.base X.mg c P) (hcode : X.env.code = .ref c) (hi : PI X tg iter wi) (ok : BlkOk X.N X.env.scope scope own) (hnc : ∀ y ∈ scope.names, y.2 ≠ .cell) (h0 : scope.names.lookup (".0" : Str) = some .local) (hco : scope.isCoroutine = false)
    (hg : ∀ (s : Shared) (H : Hp) (ce : Env) (fp : List Addr) (pn : List (Addr × Obj)), ce.scope = scope → PG (gcx X s H ce fp pn) tg g) (he : ∀ (s : Shared) (H : Hp) (ce : Env) (fp : List Addr) (pn : List (Addr × Obj)), ce.scope = scope → PE (gcx X s H ce fp pn) elt te)
    (hs : ∀ x, genFold iter X.env x = pure x)
    (hst : starEach [.GeneratorExp elt [⟨tg, iter, [], 0⟩] scope gpos] X.env = (false, eval (.GeneratorExp elt [⟨tg, iter, [], 0⟩] scope gpos) X.env) :: starEach [] X.env := by rfl) :
    PE X (.Call (.Name "any" p) [.GeneratorExp elt [⟨tg, iter, [], 0⟩] scope gpos] [] pos) (tGen P wi g te false (own.map (·.2))) := by
  refine ⟨fun pins s σ H Q I h => ?_⟩
  refine wpAny_Call_Name_kw (ld_blt I gl hm (show bootBuiltins "any" = some (.builtin "any") by decide +kernel) ?_)
  refine PyProof.Rows.callWith_builtin1 ?_ hst (by rfl)
  rw [hst]
  show wpAny _ _ (spliced ((false, eval (.GeneratorExp elt [⟨tg, iter, [], 0⟩] scope gpos) X.env) :: backTo pos (starEach [] X.env))) _ _ s
  refine Calls.spliced_cons (gen_made hc hN hr TB hcode hi ok hnc h0 hco hg he hs I h fun IE a gi n H5 s5 R hI G => ?_)
  refine Calls.spliced_nil ?_
  refine call_function_tree F.kind_any F.plain_any F.entry_any (F.args_any1 _) ?_
  unfold Builtin.«any»
  refine wpAny_bind (m := oneArg "any" _) (wpAny_pure ?_)
  refine wpAny_bind (wpAny_pyIter_gen (R.at_ _ _ hI).1 ?_)
  exact wpAny_pure ⟨plainId_quiet F.plain_any_loop _, any_loop hr.hd (by have := hr.dp; omega) R (fun b H s hb q => ⟨.bl b, H, (R.at_ _ _ hb).2.2.2, rfl, q⟩) n H5 s5 hI G⟩
theorem pe_all {c P : Addr} {tg iter elt : Expr} {scope : Scope} {own : List (Str × Nat)} {p pos gpos : Pos} {wi : TI} {g : TG} {te : TE}
    (hc : X.calm = true) (hN : X.N.Nodup) (hr : Room 1 X.A) (gl : Gl X "all") (hm : X.mg "all" = none) (TB : GxR.TabB X.base X.mg c P) (hcode : X.env.code = .ref c) (hi : PI X tg iter wi) (ok : BlkOk X.N X.env.scope scope own) (hnc : ∀ y ∈ scope.names, y.2 ≠ .cell) (h0 : scope.names.lookup (".0" : Str) = some .local) (hco : scope.isCoroutine = false)
    (hg : ∀ (s : Shared) (H : Hp) (ce : Env) (fp : List Addr) (pn : List (Addr × Obj)), ce.scope = scope → PG (gcx X s H ce fp pn) tg g) (he : ∀ (s : Shared) (H : Hp) (ce : Env) (fp : List Addr) (pn : List (Addr × Obj)), ce.scope = scope → PE (gcx X s H ce fp pn) elt te)
    (hs : ∀ x, genFold iter X.env x = pure x)
    (hst : starEach [.GeneratorExp elt [⟨tg, iter, [], 0⟩] scope gpos] X.env = (false, eval (.GeneratorExp elt [⟨tg, iter, [], 0⟩] scope gpos) X.env) :: starEach [] X.env := by rfl) :
    PE X (.Call (.Name "all" p) [.GeneratorExp elt [⟨tg, iter, [], 0⟩] scope gpos] [] pos) (tGen P wi g te true (own.map (·.2))) := by
  refine ⟨fun pins s σ H Q I h => ?_⟩
  refine wpAny_Call_Name_kw (ld_blt I gl hm (show bootBuiltins "all" = some (.builtin "all") by decide +kernel) ?_)
  refine PyProof.Rows.callWith_builtin1 ?_ hst (by rfl)
  rw [hst]
  show wpAny _ _ (spliced ((false, eval (.GeneratorExp elt [⟨tg, iter, [], 0⟩] scope gpos) X.env) :: backTo pos (starEach [] X.env))) _ _ s
  refine Calls.spliced_cons (gen_made hc hN hr TB hcode hi ok hnc h0 hco hg he hs I h fun IE a gi n H5 s5 R hI G => ?_)
  refine Calls.spliced_nil ?_
  refine call_function_tree F.kind_all F.plain_all F.entry_all (F.args_all1 _) ?_
  unfold Builtin.«all»
  refine wpAny_bind (m := oneArg "all" _) (wpAny_pure ?_)
  refine wpAny_bind (wpAny_pyIter_gen (R.at_ _ _ hI).1 ?_)
  exact wpAny_pure ⟨plainId_quiet F.plain_all_loop _, all_loop hr.hd (by have := hr.dp; omega) R (fun b H s hb q => ⟨.bl b, H, (R.at_ _ _ hb).2.2.2, rfl, q⟩) n H5 s5 hI G⟩
end
end Sh

/-! ShOg: any, all of generator expressions in the evaluator -/
namespace Sh
open PySem PySem.Spec PyProof.Rows L2
section
variable {K : KK} {c : Calls} {S S1 S' : AS} {H H1 : Hp} {e e1 e2 e' : En} {σ σ1 σ2 : Sl} {fo fo1 f g g1 L : List Addr} {w v : V} {own : List Nat} {m : Mk}
/-- a table of code objects has grown -/
theorem Step.tab {P : Addr} {ps ps' : Array Value} (hs : S P) (h : H P = some (.tbl ps)) (ht : TriplesOk ps'.toList) : Step S H fo S (upd H P (.tbl ps')) fo where
  frame := fun a n _ => by
    by_cases e : a = P
    · subst e; exact .inr ⟨hs, .inr ⟨ps, ps', h, upd_same, fun _ => ht⟩⟩
    · exact .inl (upd_ne e)
  tups := fun a xs q => by rw [upd_ne fun e => by rw [e, h] at q; cases q]; exact q
  frzs := fun a o u q => by rw [upd_ne fun e => by rw [e, h] at q; cases q]; exact q
  grow := fun a q => by
    by_cases e : a = P
    · rw [e, upd_same]; simp
    · rw [upd_ne e]; exact q
  stab := fun _ h => h
  stabN := fun _ h => .inl h
  own := fun _ h => .inl h
  live := fun l => l.to (fun a s => by
    by_cases e : a = P
    · rw [e, upd_same]; simp
    · rw [upd_ne e]; exact l.1 a s) (fun _ s => s) fun a s n => by
    by_cases e : a = P
    · subst e; exact .inr (.inr ⟨ps, ps', h, upd_same, fun _ => ht⟩)
    · exact .inl (upd_ne e)
theorem any_core {t : T} {elt : Sh.E} {al k : Bool} {m1 : Mk} {xs : List Val} {eF : En} {J : It} {σ : Sl} {Q : VK} {P : Addr} {ps ps' : Array Value} (ht : ∀ j ∈ tIdx t, j ∈ own) (hown : ownOk e1 own = true)
    (r2 : anyL al own t m1 (fun e => (ev K.kt c elt e).bind fun x e => asB x e) xs (setEmp e1 own) = .ok k eF)
    (E1 : ES K S1 H1 e1 σ fo1) (o1 : Ow K S1 H1 fo1)
    (wk : ∀ {S2 : AS} {H2 : Hp} {fk fo2 : List Addr}, Step S1 H1 fk S2 H2 fo2 → (∀ x ∈ fk, x ∈ fo1) → (∀ {mk ys ws}, RS K S1 H1 mk ys ws [] → RS K S2 H2 mk ys ws []) → ∀ i : Nat, (∀ v, xs[i]? = some v → J.go i H2 ∧ ∀ w H'', J.yld i H2 w H'' → Step S2 H2 [] S2 H'' [] ∧ RepI K S2 H'' m1 v w []) ∧ (xs.length ≤ i → J.stop i H2))
    (h : ∀ {S2 : AS} {H2 : Hp} {fo5 : List Addr}, Step S1 H1 fo1 S2 H2 fo5 → Ow K S2 H2 fo5 → ES K S2 H2 (backS e1 own eF) σ fo5 → Q (.bl k) H2)
    (hP : H1 P = some (.tbl ps)) (hS : S1 P) (hps : TriplesOk ps'.toList) : ∃ W : Nat → Nat → Hp → Prop, (∃ m, W 0 m (upd H1 P (.tbl ps'))) ∧ GTurn J W al Q (gT K t) (tEv K c elt) (L2.wipe σ own) own := by
  unfold ownOk at hown
  rw [Bool.and_eq_true] at hown
  have ndo : own.Nodup := of_decide_eq_true hown.1
  have hlen : ∀ i ∈ own, i < e1.length := fun i hi => by
    have := List.all_eq_true.mp hown.2 i hi
    split at this
    · cases this
    · rename_i ei; exact (List.getElem?_eq_some_iff.mp ei).1
    · cases this
  obtain ⟨fk, L, Ek, OR, pm⟩ := OwR.split E1 ndo hlen
  have o1p : Ow K S1 H1 (fk ++ L) := o1.perm pm.symm
  have hfL : ∀ x ∈ L, H1 x ≠ Option.none := fun x hx => (OR.mine x hx).some
  -- back in the def's slots
  have fin : ∀ {S2 : AS} {H2 : Hp} {fo2 : List Addr} {σ2 : Sl} {e2 : En}, Step S1 H1 fk S2 H2 fo2 → Ow K S2 H2 fo2 → ES K S2 H2 e2 σ2 fo2 → L2.wipe σ2 own = L2.wipe σ own → eF = e2 → Q (.bl k) H2 := fun {S2 H2 fo2 σ2 e2} st2 o2 E2 hw he => by
    subst he
    have OR2 := OR.step st2 o1p.left.sd o1p.ne' o1p.right.ds
    have oAll : Ow K S2 H2 (L ++ fo2) := Ow.step o1p st2 o2 hfL
    have oB := oAll.perm List.perm_append_comm
    have l1 : σ.length = e1.length := E1.length
    have lw : σ2.length = σ.length := by
      have := congrArg List.length hw
      rwa [wipe_length, wipe_length] at this
    have l2 := E2.length
    obtain ⟨σ3, fo5, E5, nd5, m5, l5, q5, r5⟩ := OR2.back ndo E2 (by omega) (by omega) oB.nd
    have hσ : σ3 = σ := List.ext_getElem? fun j => by
      by_cases hj : j ∈ own
      · exact q5 j hj
      · rw [r5 j hj]
        have := congrArg (fun s => s[j]?) hw
        simp only [wipe_get, if_neg hj] at this
        exact this
    rw [hσ] at E5
    have sA : Step S1 H1 fo1 S1 H1 (fk ++ L) := (Step.refl (S := S1) (H := H1) (fo := fo1)).perm fun x hx => pm.mem_iff.mp hx
    have sB : Step S1 H1 fo1 S2 H2 (L ++ fo2) := Step.trans sA st2
    refine h (sB.perm fun x hx => ?_) (oB.less nd5 fun x hx => m5 x hx) E5
    rcases List.mem_append.mp (m5 x hx) with z | z
    · exact List.mem_append_right _ z
    · exact List.mem_append_left _ z
  generalize hb : (fun e => (ev K.kt c elt e).bind fun x e => asB x e) = b at r2
  have stT : Step S1 H1 fk S1 (upd H1 P (.tbl ps')) fk := Step.tab hS hP hps
  have oT : Ow K S1 (upd H1 P (.tbl ps')) fk := ⟨o1p.left.nd, o1p.left.ds, stT.live o1.live⟩
  have ET : ES K S1 (upd H1 P (.tbl ps')) (setEmp e1 own) σ fk := Ek.keep fun ha r => r.keep (fun a hf => upd_ne fun e => by
    have := r.own a hf
    rw [e, hP] at this; exact this) (fun a s => ⟨s, fun n => by
      by_cases e : a = P
      · subst e; exact .inr (.inr ⟨ps, ps', hP, upd_same, fun _ => hps⟩)
      · exact .inl (upd_ne e)⟩) stT.tups stT.frzs
  refine ⟨fun i k2 H2 => k2 = xs.length - i ∧ i ≤ xs.length ∧ ∃ S2 fo2 σ2 e2, Step S1 H1 fk S2 H2 fo2 ∧ Ow K S2 H2 fo2 ∧ ES K S2 H2 e2 σ2 fo2 ∧ L2.wipe σ2 own = L2.wipe σ own ∧ anyL al own t m1 b (xs.drop i) e2 = .ok k eF, ⟨xs.length, by simp, Nat.zero_le _, S1, fk, σ, setEmp e1 own, stT, oT, ET, rfl, by rw [List.drop_zero]; exact r2⟩, ?_⟩
  rintro i k2 H2 ⟨rfl, hi, S2, fo2, σ2, e2, st2, o2, E2, hw, rc⟩
  have keepF : ∀ {mk ys ws}, RS K S1 H1 mk ys ws [] → RS K S2 H2 mk ys ws [] := fun h => RS.step h st2 (by simp) o1p.left.sd (by simp)
  obtain ⟨wgo, wstop⟩ := wk st2 (fun x hx => pm.mem_iff.mp (List.mem_append_left _ hx)) keepF i
  by_cases hlt : i < xs.length
  · right
    obtain ⟨x, hx⟩ : ∃ x, xs[i]? = some x := ⟨xs[i], List.getElem?_eq_getElem hlt⟩
    have hdrop : xs.drop i = x :: xs.drop (i + 1) := by
      rw [List.drop_eq_getElem_cons hlt]
      rw [List.getElem?_eq_getElem hlt] at hx
      cases hx; rfl
    obtain ⟨go, yld⟩ := wgo x hx
    rw [hdrop] at rc
    unfold anyL at rc
    split at rc
    · cases rc
    · rename_i e3 ha
      obtain ⟨vo, e5, rb, rc⟩ := Res.bind_ok rc
      refine ⟨go, _, fun H' hN => ⟨xs.length - (i + 1), by omega, rfl, hlt, hN⟩, fun xV H3 hy => ?_⟩
      obtain ⟨stY, RY⟩ := yld xV H3 hy
      have E2' : ES K S2 H3 e2 σ2 fo2 := E2.step stY (by simp) (by simp) o2.ds
      obtain ⟨fo3, sb3, E3⟩ := E2'.wipe (own := own)
      rw [hw] at E3
      have o2s : Ow K S2 H2 fo3 := o2.sub sb3
      have h3own : ∀ x ∈ fo3, H2 x ≠ Option.none := fun x hx => (E2.own x (sb3.subset hx)).some
      have o3 : Ow K S2 H3 fo3 := ⟨o2s.nd, o2s.ds, stY.live o2s.live⟩
      refine ⟨S2, setEmp e2 own, fo3, (m1, x), [], e3, E3, by rw [List.append_nil]; exact o3, RY, ha, fun S4 H4 fo4 σ4 st4 o4 E4 ag => ⟨wipe_agr ht ag, ?_⟩⟩
      rw [List.append_nil] at st4
      subst hb
      obtain ⟨a, e4, ra, rb⟩ := Res.bind_ok rb
      refine ⟨S4, e3, fo4, a, e4, E4, o4, ra, fun S5 H5 fo5 w g st5 o5 E5 A5 => ?_⟩
      unfold asB at rb
      split at rb
      · rename_i m5 b0
        cases rb
        have A5 : Rep K S5 H5 m5 (.bl vo) w g := A5
        obtain ⟨rfl, rfl⟩ := A5.inv_bl
        rw [List.append_nil] at o5
        have s25 : Step S2 H3 fo3 S5 H5 fo5 := st4.trans0 st5.full0
        have s9 : Step S1 H1 fk S5 H5 fo5 := by
          have sA : Step S1 H1 fk S2 H2 fo3 := st2.perm fun x hx => sb3.subset hx
          exact Step.trans0 sA ((stY.idle (fo := fo3)).trans0 s25)
        refine ⟨vo, rfl, ?_⟩
        by_cases hk : vo = al
        · rw [if_pos hk] at rc ⊢
          exact ⟨S5, fo5, σ4, e5, s9, o5, E5, wipe_agr ht ag, rc⟩
        · rw [if_neg hk] at rc ⊢
          cases rc
          exact fin s9 o5 E5 (wipe_agr ht ag) rfl
      · cases rb
  · left
    have : i = xs.length := by omega
    subst this
    rw [List.drop_length] at rc
    cases rc
    exact ⟨wstop (Nat.le_refl _), fin st2 o2 E2 hw rfl⟩
theorem s_any {t : T} {it elt : Sh.E} {al : Bool} {σ : Sl} {H : Hp} {Q : VK} {P : Addr} (hP : P ∈ K.tb) (ht : ∀ j ∈ tIdx t, j ∈ own) (h : tEv K c (.anyg al own t it elt) σ H Q) : tGen P (tWlk K c it) (gT K t) (tEv K c elt) al own σ H Q := by
  obtain ⟨S, e, fo, z, e', E, O, r, h⟩ := h
  obtain ⟨ms, e1, r1, r⟩ := Res.bind_ok r
  split at r
  · cases r
  · rename_i hown
    obtain ⟨k, eF, r2, r⟩ := Res.bind_ok r
    cases r
    have hown : ownOk e1 own = true := by simpa using hown
    refine ⟨S, e, fo, ms, e1, E, O, r1, fun S1 H1 fo1 J st1 o1 E1 wk => ?_⟩
    obtain ⟨sP, ps, e, t⟩ := o1.live.2 P hP
    refine ⟨ps, e, t, fun more hm => any_core ht hown r2 E1 o1 (fun st _ keep => wk _ _ keep st.frzs) (fun st o E => h _ _ _ _ [] (.of (st1.trans0 (by rw [List.append_nil]; exact st))) (by rw [List.append_nil]; exact o) E Rep.bl) e sP hm⟩
end
end Sh

/-! ShOb: isinstance -/
namespace Sh
open PySem PySem.Spec PyProof.Rows L2
def tyName : Val → String
  | .non => "NoneType" | .bl _ => "bool" | .int _ => "int" | .str _ => "str" | .tup _ => "tuple" | .lst _ => "list" | .dk _ => "dict" | .dt _ => "dict"
section
variable {K : KK} {c : Calls} {S : AS} {H : Hp} {m : Mk} {v : Val} {w : V} {f : List Addr}
theorem Rep.ty (h : Rep K S H m v w f) : TyX K.K H w (.type (tyName v)) := by
  cases v with
  | non => obtain ⟨rfl, _⟩ := Rep.inv_non h; exact .base .non
  | bl b => obtain ⟨rfl, _⟩ := Rep.inv_bl h; exact .base (.bl b)
  | int i => obtain ⟨rfl, _⟩ := Rep.inv_int h; exact .base (.int i)
  | str x => obtain ⟨rfl, _⟩ := Rep.inv_str h; exact .base (.str x)
  | tup xs =>
    obtain ⟨a, ws, rfl, _, q, _⟩ := Rep.inv_tup h
    rcases q with q | ⟨_, _, q⟩
    · obtain ⟨o, q, _⟩ := q
      exact .fTuple q
    · rcases q with (q | ⟨o, q⟩) | q
      · exact .base (.tup q)
      · exact .fTuple q
      · obtain ⟨o, its, n, h1, h2, _⟩ := q
        exact .kTuple h1 h2
  | lst xs =>
    rcases Rep.inv_lst h with ⟨m', a, ws, g, _, rfl, _, q, _⟩ | ⟨a, ws, _, rfl, _, q, _⟩
    · exact .base (.lst q)
    · rcases q with ⟨_, q⟩ | ⟨o, q⟩ | q
      · exact .base (.lst q)
      · exact .base (.frz q)
      · obtain ⟨o, its, n, h1, h2, _⟩ := q
        exact .kList h1 h2
  | dk kvs =>
    obtain ⟨a, ws, mk, g, rfl, q, _⟩ := Rep.dk h
    rcases q with q | ⟨o, q⟩
    · exact .base (.dK q)
    · exact .fDict q
  | dt kvs =>
    obtain ⟨a, ws, mk, g, rfl, q, _⟩ := Rep.dt h
    exact .base (.dT q)
theorem ty_kit (t : Ty) (v : Val) : kitB (tyName v) t.nm = some (t.ok v) := by
  cases t <;> cases v <;> simp only [tyName, Ty.nm, Ty.ok] <;> decide +kernel
theorem s_isi {a : Sh.E} {t : Ty} {σ : Sl} {H : Hp} {Q : VK} (h : tEv K c (.isi a t) σ H Q) : tCB (rIsi K.K) (tCons (tEv K c a) (tCons (tC (.ty t.nm)) tNil)) σ H Q := by
  obtain ⟨S, e, fo, z, e', E, O, r, h⟩ := h
  obtain ⟨x, e1, r1, r⟩ := Res.bind_ok r
  split at r
  · rename_i u hu
    cases r
    refine ⟨S, e, fo, x, _, E, O, r1, fun S1 H1 fo1 w1 g1 st1 o1 E1 A1 => ?_⟩
    obtain ⟨f1, R1⟩ := readA_snd hu E1 A1
    exact ⟨w1, .ty t.nm, _, _, _, rfl, .ty t.nm, R1.ty, kit_ty (ty_kit t u.2), h.bl st1 o1.left E1⟩
  · cases r
end
end Sh

/-! ShOc: methods that change nothing -/
namespace Sh
open PySem PySem.Spec PyProof.Rows L2
/-- of which builtin type the value is -/
def tyP (K : PySem.W.Frag) (T : String) (x : V) (H : Hp) : Prop := (T = "list" ∧ ∃ p xs, x = .ref p ∧ SqL K H p xs) ∨
  (T = "tuple" ∧ ∃ p ws, ∃ o : Obj, x = .ref p ∧ H p = some (.frz o (.tup ws)) ∧ o.dict = none) ∨ (T = "dict" ∧ ∃ p, x = .ref p ∧ IsD H p) ∨ (T = "str" ∧ ∃ z, x = .str z)
section
variable {X : Cx}
theorem tyP_is {pins : List (Addr × Obj)} {σ : L2.St} {H : Hp} {s : Shared} {T : String} {x : V} {v : Value} (I : Inv X pins σ H s) (r : RelV x v) (ty : tyP X.K T x H) :
    s.TypeIs v T ∧ ∀ a, v = .ref a → ∃ o, s.heap.get? a = some o ∧ o.dict = none := by
  rcases ty with ⟨rfl, p, xs, rfl, hq⟩ | ⟨rfl, p, ws, o, rfl, hk, hd⟩ | ⟨rfl, p, rfl, hk⟩ | ⟨rfl, z, rfl⟩
  · cases r
    obtain ⟨its, _, pl, _⟩ := I.list hq
    refine ⟨pl.isList.typeIs, fun a e => ?_⟩
    cases e
    obtain ⟨o, n, e, c, hd, _⟩ := pl
    exact ⟨o, e, hd⟩
  · cases r
    obtain ⟨e, _, its, _, pl⟩ := I.hok p _ hk
    obtain ⟨o', e', hc, _⟩ := pl
    refine ⟨⟨o', e', hc⟩, fun a q => ?_⟩
    cases q
    exact ⟨o, e, hd⟩
  · cases r
    obtain ⟨h1, h2, _⟩ := isD_at I hk
    exact ⟨h1, h2⟩
  · obtain ⟨t, rfl⟩ := r
    exact ⟨typeIs_str s z t, fun _ e => nomatch e⟩
def tPM (K : PySem.W.Frag) (T : String) (r : V → List V → Hp → VK → Prop) (to : TE) (t : TA) : TE := fun σ H Q => to σ H fun x H1 => tyP K T x H1 ∧ t σ H1 fun xs H2 => r x xs H2 Q
variable {o e : Expr} {es : List Expr} {to : TE} {t : TA} {name : Str} {apos cpos : Pos} {T id : String} {r : V → List V → Hp → VK → Prop}
theorem pe_pm (pa : PlainAttrs T) (slot : PySem.Slot T name id) (hty : typeOf (.builtin id) = pure (.type "method_descriptor")) (hm : MtR X id r) (ho : PE X o to) (ha : L2.PA X (e :: es) t)
    (hbase : attributeBase o name X.env (eval o X.env) = eval o X.env := by rfl)
    (hfew : ((backTo cpos (starEach (e :: es) X.env)).all (fun x => !x.1) && (backToKw cpos (keywordEach [] X.env)).all (fun x => x.1.isSome)
      && decide ((e :: es).length + ([] : List Keyword).length + (if ([] : List Keyword).isEmpty then 0 else 1) < 30)) = true := by rfl)
    (hline : (apos.endLine == cpos.line) = true := by rfl) (hs : starEach (e :: es) X.env = (false, eval e X.env) :: starEach es X.env := by rfl) (hplain : (backTo cpos (starEach es X.env)).any (·.1) = false := by rfl) :
    PE X (.Call (.Attribute o name apos) (e :: es) [] cpos) (tPM X.K T r to t) := by
  refine ⟨fun pins s σ H Q I h => ?_⟩
  refine wpAny_Call_method_late hbase hfew hline rfl (thn (ho.run pins s σ H _ I h) fun v s1 ⟨x, H1, I1, r1, ty, q1⟩ => ?_)
  obtain ⟨h1, h2⟩ := tyP_is I1 r1 ty
  refine ⟨T, id, pa, slot, hty, h1, h2, ?_⟩
  have hA := ha.run cpos pins s1 σ H1 _ I1 q1
  rw [hs] at hA ⊢
  refine Calls.callWith_builtin (by show (false || (backTo cpos (starEach es X.env)).any (·.1)) = false; rw [hplain] <;> rfl) (Calls.evalArgs_plain ?_)
  exact thn hA fun us s2 ⟨vs, H2, I2, r2, q2⟩ => hm pins s2 σ H2 x vs v us Q I2 r1 r2 q2
/-- t.index(x): the first place of an equal one -/
def rTIx (K : PySem.W.Frag) : V → List V → Hp → VK → Prop := fun x xs H Q => ∃ (a : Addr) (y : V) (d : PyData) (ds : List PyData) (j : Nat) (z : PyData), x = V.ref a ∧ xs = [y] ∧ Dp K H (V.ref a) (.tuple ds) ∧ Dp K H y d ∧
  SeqAt.shaped (.tuple ds) = true ∧ SeqAt.shaped d = true ∧ ds[j]? = some z ∧ PyData.eqv z d = true ∧ (∀ (m : Nat) (z' : PyData), m < j → ds[m]? = some z' → PyData.eqv z' d = false) ∧ Q (.int (j : Nat)) H
theorem mt_tindex (hu : X.A.units + 65 < cLine) : MtR X "tuple.index" (rTIx X.K) := by
  intro pins s σ H x xs v us Q I rx rxs h
  obtain ⟨a, y, d, ds, j, z, rfl, rfl, hl, hy, sl, sd, hz, hzj, hno, q⟩ := h
  cases rx
  cases rxs with
  | cons ry rt =>
    rename_i uy ut
    cases rt
    obtain ⟨bs, r1⟩ := Dp.reads I d y uy hy ry
    have hxs : PyData.canLayAll0 ds = true := SeqAt.canLay_of_shaped sl
    have hroom : X.A.units + 1 + min (PyData.depthAll ds) d.depth < cLine := room_in_shaped sd hu
    cases hl with
    | tup hs ha =>
      obtain ⟨its, rv, ⟨⟨cls, dd, data, sls⟩, ho, hc, n, hdt⟩, hlen⟩ := I.tuple hs
      simp only at hc hdt
      subst hc hdt
      obtain ⟨as, h4⟩ := Dp.readsAll I ds _ its ha rv
      have hn : its.length = ds.length := SeqAt.ReadsAll.length ds its as h4
      have hmap : its.map (SeqAt.readOf s.heap) = ds := SeqAt.readsAll_map ds its as hxs h4
      have hvl := rv.length
      have hsl := sizeLine_eq
      obtain ⟨hjd, _⟩ := List.getElem?_eq_some_iff.mp hz
      have hjl : j < its.length := by omega
      have hj : j < its.toArray.size := by simpa using hjl
      have at_ : ∀ (m : Nat) (hm : m < its.toArray.size) (z' : PyData), ds[m]? = some z' → SeqAt.readOf s.heap its.toArray[m] = z' := by
        intro m hm z' hz'
        have hml : m < its.length := by simpa using hm
        rw [← hmap, List.getElem?_map, List.getElem?_eq_getElem hml] at hz'
        have e1 : SeqAt.readOf s.heap its[m] = z' := Option.some.inj (show some (SeqAt.readOf s.heap its[m]) = some z' from hz')
        simpa using e1
      refine call_meets PySem.F.slot_tuple_index ⟨_, ho, rfl⟩ PySem.F.entry_tuple_index (PySem.F.args_tuple_index_2 _ _)
        (TI.tuple_indexAt a its.toArray n dd sls uy (fun u => PyData.eqv (SeqAt.readOf s.heap u) d) j hj ?_ ?_) ⟨ho, SeqAt.items_eqAt (vs := its.toArray) (show ReadsAll s.heap its.toArray.toList ds as from h4) r1 hxs (SeqAt.canLay_of_shaped sd) hroom, ?_⟩
      · show PyData.eqv (SeqAt.readOf s.heap its.toArray[j]) d = true
        rw [at_ j hj z hz]
        exact hzj
      · intro m hm hmj
        have hmd : m < ds.length := by omega
        have hz' : ds[m]? = some ds[m] := List.getElem?_eq_getElem hmd
        show PyData.eqv (SeqAt.readOf s.heap its.toArray[m]) d = false
        rw [at_ m hm _ hz']
        exact hno m _ hmj hz'
      · exact ⟨.int (j : Nat), H, I.tok _, ⟨_, rfl⟩, q⟩
/-- d.get(k), d.get(k, x) -/
def rDGt : V → List V → Hp → VK → Prop := fun x xs H Q => ∃ a y o, x = .ref a ∧ DGet H a y o ∧ ((xs = [y] ∧ Q (o.getD .non) H) ∨ ∃ d, xs = [y, d] ∧ Q (o.getD d) H)
theorem mt_dget (hu : X.A.units + 1 < cLine) : MtR X "dict.get" rDGt := by
  intro pins s σ H x xs v us Q I rx rxs h
  obtain ⟨a, y, o, rfl, g, h⟩ := h
  cases rx
  rcases h with ⟨rfl, q⟩ | ⟨d, rfl, q⟩
  · obtain ⟨u, rfl, ry⟩ := vals1 rxs
    exact d_get1 hu I g ry fun w' s3 I3 rw' => ⟨_, H, I3, rw', q⟩
  · cases rxs with
    | cons ry rt =>
      obtain ⟨u, rfl, rd⟩ := vals1 rt
      exact d_get2 hu I g ry rd fun w' s3 I3 rw' => ⟨_, H, I3, rw', q⟩
def rSJn (K : PySem.W.Frag) : V → List V → Hp → VK → Prop := fun x xs H Q => ∃ a p, ∃ ys : List Str, x = V.str a ∧ xs = [V.ref p] ∧ (SqL K H p (ys.map V.str) ∨ SqT K H p (ys.map V.str)) ∧
    (ys.map (·.length)).sum + ys.length * a.length ≤ 16777216 ∧ Q (.str (Txt.join a ys)) H
def rPM (K : PySem.W.Frag) : PM → V → List V → Hp → VK → Prop
  | .tindex => rTIx K
  | .lindex => rIndexD K
  | .dget => rDGt
  | .sjoin => rSJn K
end
def PM.ty : PM → String
  | .tindex => "tuple" | .lindex => "list" | .dget => "dict" | .sjoin => "str"
def PM.nm : PM → Str
  | .tindex => "index" | .lindex => "index" | .dget => "get" | .sjoin => "join"
def PM.id : PM → String
  | .tindex => "tuple.index" | .lindex => "list.index" | .dget => "dict.get" | .sjoin => "str.join"
theorem PM.attrs : ∀ p : PM, PlainAttrs p.ty
  | .tindex => PySem.F.plainAttrs_tuple | .lindex => PySem.F.plainAttrs_list | .dget => PySem.F.plainAttrs_dict | .sjoin => PySem.F.plainAttrs_str
theorem PM.slot : ∀ p : PM, PySem.Slot p.ty p.nm p.id
  | .tindex => PySem.F.slot_tuple_index | .lindex => PySem.F.slot_list_index | .dget => PySem.F.slot_dict_get | .sjoin => PySem.F.slot_str_join
theorem PM.mty : ∀ p : PM, typeOf (.builtin p.id) = pure (.type "method_descriptor")
  | .tindex => PySem.F.type_tuple_index | .lindex => PySem.F.type_list_index | .dget => PySem.F.type_dict_get | .sjoin => PySem.F.type_str_join
theorem pm_all {X : Cx} (hu : X.A.units + 66 < cLine) : ∀ p : PM, MtR X p.id (rPM X.K p)
  | .tindex => mt_tindex (by omega) | .lindex => mt_indexD (by omega) | .dget => mt_dget (by omega) | .sjoin => mt_join
section
variable {K : KK} {S : AS} {H : Hp} {m : Mk} {c : Calls} {x : V} {p : PM} {f : List Addr}
theorem pmTy_snd {v : Val} (h : pmTy K.kt p v = true) (r : Rep K S H m v x f) : tyP K.K p.ty x H := by
  unfold pmTy at h
  split at h
  · obtain ⟨a, ws, rfl, _, q, _⟩ := r.inv_tup
    rcases q with ⟨o, q1, q2⟩ | ⟨_, q, _⟩
    · exact .inr (.inl ⟨rfl, a, ws, o, rfl, q1, q2⟩)
    · rw [q] at h; cases h
  · obtain ⟨a, ws, g, rfl, q, _⟩ := Rep.seqL r
    exact .inl ⟨rfl, a, ws, rfl, q⟩
  · obtain ⟨a, ws, mk, g, rfl, q, _⟩ := r.dk
    exact .inr (.inr (.inl ⟨rfl, a, rfl, .inl ⟨_, q⟩⟩))
  · obtain rfl := r.inv_str.1
    exact .inr (.inr (.inr ⟨rfl, _, rfl⟩))
  · cases h
theorem strsOf_snd : ∀ {xs : List Val} {ys : List Str} {mk : Mk} {ws : List V} {f : List Addr}, strsOf xs = some ys → RS K S H mk xs ws f → ws = ys.map V.str
  | [], ys, mk, ws, f, h, r => by cases h; rw [r.nil_inv.1]; rfl
  | x :: xs, ys, mk, ws, f, h, r => by
    obtain ⟨v, ws', fp, fr, rfl, rfl, h1, h2⟩ := RS.uncons r
    cases x with
    | str z =>
      simp only [strsOf] at h
      obtain ⟨zs, e, rfl⟩ := Option.map_eq_some_iff.mp h
      rw [h1.inv_str.1, strsOf_snd e h2]; rfl
    | _ => simp [strsOf] at h
theorem dk_get {kvs : List (Key × Val)} {k : Key} {d : Val} {wd : V} {Q : VK} {fo : List Addr} (hm : m.hd = .st) (ra : Rep K S H m (.dk kvs) x f) (g : Gives K S H .st ((dget kvs k).getD d) Q) (o : Ow K S H fo) {fd : List Addr} (rd : Rep K S H .st d wd fd) :
    ∃ a ov, x = .ref a ∧ DGet H a (kV k) ov ∧ Q (ov.getD wd) H := by
  cases e : dget kvs k with
  | some v =>
    rw [e] at g
    obtain ⟨a, w, rfl, dg, ⟨fl, fp, fr, _, R⟩, _⟩ := ra.dkGet e
    have R : Rep K S H m.hd v w fp := R
    rw [hm] at R
    exact ⟨a, some w, rfl, dg, g.st o R⟩
  | none =>
    rw [e] at g
    obtain ⟨a, ws, mk, g', rfl, q, rs⟩ := ra.dk
    have : valV ((kvs.map (·.1)).zip ws) k = none := by
      have := dget_zip (mk := mk) (k := k) rs
      rw [e] at this
      simpa using this
    refine ⟨a, none, rfl, ?_, g.st o rd⟩
    have h := DGet.kr (k := k) q
    rw [this] at h
    exact h
theorem pmV_snd {u : MV} {vs : List MV} {r : MV} {ws : List V} {Q : VK} {fo g : List Addr} (h : pmV p u vs = some r) (ra : Rep K S H u.1 u.2 x f) (rs : RA K S H vs ws g) (o : Ow K S H fo) (q : Gives K S H r.1 r.2 Q) : rPM K.K p x ws H Q := by
  unfold pmV at h
  split at h
  · rename_i m0 xs v
    obtain ⟨k, hk, rfl⟩ := Option.map_eq_some_iff.mp h
    unfold tindexV at hk
    split at hk
    · rename_i hok
      rw [Bool.and_eq_true] at hok
      obtain ⟨j, hj, rfl⟩ := Option.map_eq_some_iff.mp hk
      obtain ⟨w2, rfl, R3⟩ := RA.one rs
      obtain ⟨a, ws, rfl, _, _, _⟩ := ra.inv_tup
      have dx : Dp K.K H w2 v.2.D := R3.dp hok.1
      have dl : Dp K.K H (.ref a) (Val.tup xs).D := ra.dp hok.2
      obtain ⟨hlt, hp, hn⟩ := List.findIdx?_eq_some_iff_getElem.mp hj
      have dl' : Dp K.K H (.ref a) (.tuple (Val.Ds xs)) := by simpa [Val.D] using dl
      refine ⟨a, w2, v.2.D, Val.Ds xs, j, (xs[j]).D, rfl, rfl, dl', dx, by simpa [okV, Val.D] using hok.2, hok.1, ?_, hp, fun m z' hm hz => ?_, q.int o⟩
      · rw [Ds_get, List.getElem?_eq_getElem hlt]; rfl
      · rw [Ds_get, List.getElem?_eq_getElem (by omega)] at hz
        cases hz
        simpa using hn m hm
    · cases hk
  · rename_i m0 xs v
    obtain ⟨k, hk, rfl⟩ := Option.map_eq_some_iff.mp h
    unfold indexV at hk
    split at hk
    · rename_i hok
      rw [Bool.and_eq_true] at hok
      obtain ⟨j, hj, rfl⟩ := Option.map_eq_some_iff.mp hk
      obtain ⟨w2, rfl, R3⟩ := RA.one rs
      obtain ⟨a, ws, g, rfl, _, _⟩ := Rep.seqL ra
      have dx : Dp K.K H w2 v.2.D := R3.dp hok.1
      have dl : Dp K.K H (.ref a) (Val.lst xs).D := ra.dp hok.2
      obtain ⟨hlt, hp, hn⟩ := List.findIdx?_eq_some_iff_getElem.mp hj
      have dl' : Dp K.K H (.ref a) (.list (Val.Ds xs)) := by simpa [Val.D] using dl
      refine ⟨a, w2, v.2.D, Val.Ds xs, j, (xs[j]).D, rfl, rfl, dl', dx, by simpa [okV, Val.D] using hok.2, hok.1, ?_, hp, fun m z' hm hz => ?_, q.int o⟩
      · rw [Ds_get, List.getElem?_eq_getElem hlt]; rfl
      · rw [Ds_get, List.getElem?_eq_getElem (by omega)] at hz
        cases hz
        simpa using hn m hm
    · cases hk
  · rename_i m0 kvs v
    split at h
    · rename_i hm
      obtain ⟨k, hk, rfl⟩ := Option.map_eq_some_iff.mp h
      obtain ⟨w2, rfl, R3⟩ := RA.one rs
      have hx := keyOf_snd hk R3
      subst hx
      obtain ⟨a, ov, rfl, dg, z⟩ := dk_get (wd := .non) hm ra q o Rep.non
      exact ⟨a, _, ov, rfl, dg, .inl ⟨rfl, z⟩⟩
    · cases h
  · rename_i m0 a m1 xs
    obtain ⟨ys, hy, h⟩ := Option.bind_eq_some_iff.mp h
    split at h
    · rename_i hz
      cases h
      obtain ⟨w2, rfl, R3⟩ := RA.one rs
      obtain ⟨p, ws, g, rfl, q1, rs1, _⟩ := Rep.seqL R3
      rw [strsOf_snd hy rs1] at q1
      exact ⟨a, p, ys, ra.inv_str.1, rfl, .inl q1, hz, q.str o⟩
    · cases h
  · rename_i m0 a m1 xs
    obtain ⟨ys, hy, h⟩ := Option.bind_eq_some_iff.mp h
    split at h
    · rename_i hz
      cases h
      obtain ⟨w2, rfl, R3⟩ := RA.one rs
      obtain ⟨p, ws, rfl, _, q1, rs1⟩ := R3.inv_tup
      rw [strsOf_snd hy rs1] at q1
      exact ⟨a, p, ys, ra.inv_str.1, rfl, .inr q1.sq, hz, q.str o⟩
    · cases h
  · rename_i m0 kvs v d
    split at h
    · rename_i hm
      obtain ⟨k, hk, rfl⟩ := Option.map_eq_some_iff.mp h
      obtain ⟨w2, w3, f1, f2, rfl, rfl, R3, R4⟩ := RA.two rs
      have hx := keyOf_snd hk R3
      subst hx
      rw [hm.2] at R4
      obtain ⟨a, ov, rfl, dg, z⟩ := dk_get hm.1 ra q o R4
      exact ⟨a, _, ov, rfl, dg, .inr ⟨w3, rfl, z⟩⟩
    · cases h
  · cases h
theorem s_pm {r es : Sh.E} {σ : Sl} {H : Hp} {Q : VK} (h : tEv K c (.pm p r es) σ H Q) : tPM K.K p.ty (rPM K.K p) (tEv K c r) (tAr K c es) σ H Q := by
  obtain ⟨S, e, fo, z, e', E, O, rr, h⟩ := h
  obtain ⟨a, e1, r1, rr⟩ := Res.bind_ok rr
  split at rr
  · cases rr
  · rename_i hp
    split at rr
    · rename_i u0 hu0
      split at rr
      · cases rr
      · rename_i hty
        have hty : pmTy K.kt p u0.2 = true := by simpa using hty
        obtain ⟨as, e2, r2, rr⟩ := Res.bind_ok rr
        split at rr
        · rename_i u vs hu hv
          obtain ⟨rfl, t, ht, rfl⟩ := valR_ok rr
          refine ⟨S, e, fo, _, e1, E, O, r1, fun S1 H1 fo1 w1 g1 st1 o1 E1 A1 => ⟨?_, S1, e1, fo1, as, e', E1, o1.left, r2, fun S2 H2 fo2 ws g2 st2 o2 E2 A2 => ?_⟩⟩
          · obtain ⟨f, R⟩ := readA_snd hu0 E1 A1
            exact pmTy_snd hty R
          · obtain ⟨s, o, A⟩ := s_next (e2 := e') st1 o1 A1 (fun pp => ⟨part_quiet hp pp, evs_quiet r2 (part_quiet hp pp)⟩) st2 o2
            obtain ⟨f1, R1⟩ := readA_snd hu E2 A
            obtain ⟨f2, R2⟩ := readAs_snd hv E2 A2
            exact pmV_snd ht R1 R2 o (h.give s o.left E2)
        · cases rr
    · cases rr
end
end Sh

/-! ShP: the expressions of the text -/
namespace Sh
open PySem PySem.Spec PyProof.Rows L2

structure Cc where
  N : List Str
  sc : Scope
  fn : Str → Bool
  fs : List Str
  gs : List (Str × Val) := []
  xs : List Str := []
  ys : List Str := []
  /-- may it hold generator expressions -/
  gn : Bool := false
def bltNames : List Str := ["len", "abs", "int", "list", "tuple", "sum", "sorted", "max", "min", "str", "range", "enumerate", "zip", "reversed", "bool", "isinstance", "any", "all"]
/-- what stands behind a def's name -/
def FnR (K : KK) (cl : Calls) (X : Cx) (f : Nat) (g : Str) : Prop := ∃ n addr fd ps, Room n X.A ∧ X.mg g = some (.ref addr) ∧ PySem.W.keepIn X.K (.ref addr) = true ∧ Binds X.K fd ps [] ∧ FnOk X.prog X.w X.K X.mg X.base (L2.CX X.prog X.w) n addr fd ps (spF K cl f)
/-- what stands behind a name of the module that holds what stays -/
def GlR (K : KK) (mg : Str → Option Value) (x : Str) (v : Val) : Prop := ∃ u w, mg x = some u ∧ RelV w u ∧ ∀ S H, Rep K S H .st v w []
mutual
def Val.same : Val → Val → Bool
  | .non, .non => true
  | .bl a, .bl b => a == b
  | .int a, .int b => decide (a = b)
  | .str a, .str b => decide (a = b)
  | .tup a, .tup b => Val.sames a b
  | _, _ => false
def Val.sames : List Val → List Val → Bool
  | [], [] => true
  | a :: as, b :: bs => Val.same a b && Val.sames as bs
  | _, _ => false
end
mutual
theorem Val.same_eq : ∀ {a b : Val}, Val.same a b = true → a = b
  | .non, b, h => by cases b <;> simp_all [Val.same]
  | .bl a, b, h => by cases b <;> simp_all [Val.same]
  | .int a, b, h => by cases b <;> simp_all [Val.same]
  | .str a, b, h => by cases b <;> simp_all [Val.same]
  | .tup a, b, h => by
    cases b with
    | tup b => rw [Val.sames_eq (a := a) (b := b) (by simpa [Val.same] using h)]
    | _ => simp [Val.same] at h
  | .lst a, b, h => by cases b <;> simp [Val.same] at h
  | .dk a, b, h => by cases b <;> simp [Val.same] at h
  | .dt a, b, h => by cases b <;> simp [Val.same] at h
theorem Val.sames_eq : ∀ {a b : List Val}, Val.sames a b = true → a = b
  | [], b, h => by cases b <;> simp_all [Val.sames]
  | a :: as, b, h => by
    cases b with
    | nil => simp [Val.sames] at h
    | cons b bs =>
      simp only [Val.sames, Bool.and_eq_true] at h
      rw [Val.same_eq h.1, Val.sames_eq h.2]
end
def glMem (gs : List (Str × Val)) (x : Str) (v : Val) : Bool := gs.any fun p => decide (p.1 = x) && Val.same p.2 v
theorem glMem_ok {gs : List (Str × Val)} {x : Str} {v : Val} (h : glMem gs x v = true) : (x, v) ∈ gs := by
  obtain ⟨p, hp, h⟩ := List.any_eq_true.mp h
  rw [Bool.and_eq_true, decide_eq_true_eq] at h
  obtain ⟨y, w⟩ := p
  have h2 := Val.same_eq h.2
  have h1 := h.1
  subst h1 h2
  exact hp
/-- the classes that isinstance asks for: own ones, ValueError -/
def ClsAt (mg : Str → Option Value) (y : Str) (cv : Value) : Prop := (∃ C, cv = .ref C ∧ mg y = some (.ref C)) ∨ (y = "ValueError" ∧ mg y = none ∧ cv = .type "ValueError")
/-- an exception class x of the module, to be raised and caught -/
structure XcF (K : PySem.W.Frag) (mg : Str → Option Value) (ys : List Str) (x : Str) (C CS : Addr) : Prop where
  at_ : PySem.W.nsIn K mainGlobals x = some (some (.ref C))
  mgC : mg x = some (.ref C)
  ex : PySem.W.excIn K C [.type "ValueError", .type "Exception", .type "BaseException", .type "object"] "ValueError.__new__" = true
  kp : PySem.W.keepIn K (.ref C) = true
  sB : PySem.W.subIn K (.ref C) (.type "BaseException") = some true
  tT : PySem.W.typeIn K (.ref C) = some (.type "type")
  ec : ExcC K C
  mS : mg "ShiftError" = some (.ref CS)
  es : PySem.W.exmOne K (.ref C) (.ref CS) = some true
  ts : ∀ y ∈ ys, ∃ cv, ClsAt mg y cv ∧ PySem.W.kitOne K (.ref C) cv = some (isSubX x y)
def XcR (K : PySem.W.Frag) (mg : Str → Option Value) (ys : List Str) (x : Str) : Prop := ∃ C CS, XcF K mg ys x C CS
/-- what a generator expression asks: the def's code object and its table, room for one frame more -/
def GenR (fs : List Str) (K : KK) (cl : Calls) (X : Cx) : Prop := (∃ c P, X.env.code = .ref c ∧ GxR.TabB X.base X.mg c P ∧ P ∈ K.tb) ∧ Room 1 X.A ∧
  ∀ f g, fs[f]? = some g → ∃ n addr fd ps, Room (n + 1) X.A ∧ X.mg g = some (.ref addr) ∧ PySem.W.keepIn X.K (.ref addr) = true ∧ Binds X.K fd ps [] ∧ FnOk X.prog X.w X.K X.mg X.base (L2.CX X.prog X.w) n addr fd ps (spF K cl f)
structure CxOk (cc : Cc) (K : KK) (cl : Calls) (X : Cx) : Prop where
  hN : X.N = cc.N
  nd : cc.N.Nodup
  sc : X.env.scope = cc.sc
  fn : ∀ x, cc.fn x = true → X.fn x = true
  calm : X.calm = true
  hK : X.K = K.K
  hu : X.A.units + 66 < cLine
  mg : ∀ x ∈ bltNames, X.mg x = none
  fns : ∀ f g, cc.fs[f]? = some g → FnR K cl X f g
  gls : ∀ x v, (x, v) ∈ cc.gs → GlR K X.mg x v
  xcs : ∀ x ∈ cc.xs, XcR K.K X.mg cc.ys x
  gen : cc.gn = true → GenR cc.fs K cl X
def vis (cc : Cc) (x : Str) : Bool := match cc.sc.names.lookup x with
  | some .local => true | some .cell => true | some .free => true | _ => false
def glb (cc : Cc) (x : Str) : Bool := match cc.sc.names.lookup x with
  | some .globalImplicit => true | _ => false
/-- may be stored to -/
def sto (cc : Cc) (x : Str) : Bool := match cc.sc.names.lookup x with
  | some .local => true | some .cell => cc.fn x | _ => false
def notStar : Expr → Bool
  | .Starred .. => false | _ => true
def call0 : Expr → Bool
  | .Call (.Name _ _) [] [] _ => true | _ => false
def okN (x : Str) : Bool := !(x == ("__debug__" : Str)) && !(x == ("__classdict__" : Str))
def isSet : Expr → Bool
  | .Set .. => true | _ => false
def isSL : Expr → Bool
  | .Set .. => true | .List .. => true | _ => false
def blkCc (cc : Cc) (scope : Scope) : Cc := { cc with sc := relS scope cc.sc, fn := fun x => scope.names.lookup x == some .cell }
def genCc (cc : Cc) (scope : Scope) : Cc := { cc with sc := scope, fn := fun _ => false, gn := false }
/-- a generator's scope: no cells of its own, the walked thing at .0 -/
def genSc (sc : Scope) : Bool := (sc.names.all fun y => match y.2 with | .cell => false | _ => true) && (match sc.names.lookup (".0" : Str) with | some .local => true | _ => false) && !sc.isCoroutine
theorem genSc_by {sc : Scope} (h : genSc sc = true) : (∀ y ∈ sc.names, y.2 ≠ .cell) ∧ sc.names.lookup (".0" : Str) = some .local ∧ sc.isCoroutine = false := by
  unfold genSc at h
  simp only [Bool.and_eq_true, Bool.not_eq_true'] at h
  obtain ⟨⟨h1, h2⟩, h3⟩ := h
  refine ⟨fun y hy e => ?_, ?_, h3⟩
  · have := List.all_eq_true.mp h1 y hy
    rw [e] at this; cases this
  · split at h2
    · assumption
    · cases h2
def ownP (cc : Cc) (own : List Nat) : List (Str × Nat) := own.map fun i => (cc.N.getD i "", i)
mutual
def chkT (cc : Cc) : T → Expr → Bool
  | .nm i, t => match t with
    | .Name x _ => decide (cc.N[i]? = some x) && sto cc x
    | _ => false
  | .tp ts, t => match t with
    | .Tuple es _ _ => chkTs cc ts es
    | _ => false
  | _, _ => false
def chkTs (cc : Cc) : T → List Expr → Bool
  | .nil, [] => true
  | .cons t ts, e :: es => chkT cc t e && notStar e && chkTs cc ts es
  | _, _ => false
end
def isTupE : Expr → Bool
  | .Tuple .. => true | _ => false
mutual
def chkE (cc : Cc) : Sh.E → Expr → Bool
  | .var i, t => match t with
    | .Name x _ => decide (cc.N[i]? = some x) && vis cc x && okN x
    | _ => false
  | .int i, t => match t with
    | .Constant (.int j) _ _ => decide (i = j)
    | _ => false
  | .bl b, t => match t with
    | .Constant (.bool b') _ _ => b == b'
    | _ => false
  | .non, t => match t with
    | .Constant .none _ _ => true
    | _ => false
  | .str x, t => match t with
    | .Constant (.str y) _ _ => decide (x = y)
    | _ => false
  | .bin op a b, t => match t with
    | .BinOp l o r _ => decide (o = op.py) && chkE cc a l && chkE cc b r
    | _ => false
  | .neg a, t => match t with
    | .UnaryOp .USub x _ => chkE cc a x
    | _ => false
  | .cmp op a b, t => match t with
    | .Compare l [o] [r] _ => decide (o = op.py) && !(behindInMarks o r) && chkE cc a l && chkE cc b r
    | _ => false
  | .chn op op' a b d, t => match t with
    | .Compare l [o, o'] [r, r'] _ => decide (o = op.py) && decide (o' = op'.py) && !(lastMarks [o, o'] [r, r']) && chkE cc a l && chkE cc b r && chkE cc d r'
    | _ => false
  | .and a b, t => match t with
    | .BoolOp .And (x :: y :: rest) pos => chkE cc a x && chkE cc b (.BoolOp .And (y :: rest) pos)
    | _ => false
  | .or a b, t => match t with
    | .BoolOp .Or (x :: y :: rest) pos => chkE cc a x && chkE cc b (.BoolOp .Or (y :: rest) pos)
    | _ => false
  | .one a, t => match t with
    | .BoolOp _ [x] _ => chkE cc a x
    | _ => false
  | .not a, t => match t with
    | .UnaryOp .Not x _ => chkE cc a x
    | _ => false
  | .ite c a b, t => match t with
    | .IfExp u x y _ => chkE cc c u && chkE cc a x && chkE cc b y
    | _ => false
  | .tup es, t => match t with
    | .Tuple xs _ _ => chkEs cc es xs
    | _ => false
  | .lst _ es, t => match t with
    | .List xs _ => chkEs cc es xs
    | _ => false
  | .dnk _, t => match t with
    | .Dict [] [] _ => true
    | _ => false
  | .dnt _, t => match t with
    | .Dict [] [] _ => true
    | _ => false
  | .idx a i, t => match t with
    | .Subscript x y _ => chkE cc a x && chkE cc i y
    | _ => false
  | .slc a lo hi, t => match t with
    | .Subscript x (.Slice l h none _) _ => chkE cc a x && chkO cc lo l && chkO cc hi h
    | _ => false
  | .blt b es, t => match t with
    | .Call (.Name f _) (x :: xs) [] _ => decide (f = b.name) && glb cc f && chkEs cc es (x :: xs)
    | _ => false
  | .sp k a, t => match k, t with
    | .skeys, .Call (.Name f _) [.Call (.Attribute o name apos) [] [] cpos] [] _ => decide (f = "sorted") && glb cc f && decide (name = "keys") && !(call0 o) && (apos.endLine == cpos.line) && chkE cc a o
    | .trev, .Call (.Name f _) [.Call (.Name g _) [x] [] _] [] _ => decide (f = "tuple") && glb cc f && decide (g = "reversed") && glb cc g && chkE cc a x
    | .stup, .Call (.Name f _) [x] [] _ => decide (f = "sorted") && glb cc f && chkE cc a x
    | .srev, .Call (.Name f _) [x] [⟨some kn, .Constant (.bool true) _ _, _⟩] _ => decide (f = "sorted") && glb cc f && decide (kn = "reverse") && chkE cc a x
    | .mind, .Call (.Name f _) [x] [⟨some kn, .Constant .none _ _, _⟩] _ => decide (f = "min") && glb cc f && decide (kn = "default") && chkE cc a x
    | _, _ => false
  | .fz i, t => match t with
    | .Name x _ => decide (cc.N[i]? = some x) && vis cc x && okN x
    | _ => false
  | .con x v, t => match t with
    | .Name y _ => decide (x = y) && glb cc y && !(y == ("__debug__" : Str)) && glMem cc.gs x v
    | _ => false
  | .lrg1 l a, t => match t with
    | .Call (.Name f _) [.Call (.Name g _) [x] [] _] [] _ => decide (f = if l then ("list" : Str) else ("tuple" : Str)) && glb cc f && decide (g = "range") && glb cc g && chkE cc a x
    | _ => false
  | .lrg2 l a b, t => match t with
    | .Call (.Name f _) [.Call (.Name g _) [x, y] [] _] [] _ => decide (f = if l then ("list" : Str) else ("tuple" : Str)) && glb cc f && decide (g = "range") && glb cc g && chkE cc a x && chkE cc b y
    | _ => false
  | .isi a ty, t => match t with
    | .Call (.Name f _) [x, .Name g _] [] _ => decide (f = "isinstance") && glb cc f && decide (g = Str.ofString ty.nm) && glb cc g && chkE cc a x
    | _ => false
  | .call f _ es, t => match t with
    | .Call (.Name g _) xs [] _ => decide (cc.fs[f]? = some g) && glb cc g && !(g == ("__debug__" : Str)) && chkEs cc es xs
    | _ => false
  | .meth mt r es, t => match t with
    | .Call (.Attribute o name apos) xs [] cpos => decide (name = mt.nm) && !(call0 o) && (apos.endLine == cpos.line) && decide (xs.length < 29) && chkE cc r o && chkEs cc es xs
    | _ => false
  | .pm p r es, t => match t with
    | .Call (.Attribute o name apos) (x :: xs) [] cpos => decide (name = p.nm) && !(call0 o) && (apos.endLine == cpos.line) && decide (xs.length < 28) && chkE cc r o && chkEs cc es (x :: xs)
    | _ => false
  | .comp _ own tt it cd elt, t => match t with
    | .ListComp el [⟨tg, iter, ifs, a⟩] scope _ => decide (a = 0) && !(isSet iter) && blkC cc.N cc.sc scope (ownP cc own) && (tIdx tt).all (fun i => decide (i ∈ own)) && chkW cc it tg iter && chkT (blkCc cc scope) tt tg && chkC (blkCc cc scope) cd ifs && chkE (blkCc cc scope) elt el
    | _ => false
  | .kcomp _ own tt it cd elt, t => match t with
    | .ListComp el [⟨tg, iter, ifs, a⟩] scope _ => decide (a = 0) && !(isSet iter) && blkC cc.N cc.sc scope (ownP cc own) && (tIdx tt).all (fun i => decide (i ∈ own)) && chkE cc it iter && chkT (blkCc cc scope) tt tg && chkC (blkCc cc scope) cd ifs && chkE (blkCc cc scope) elt el
    | _ => false
  | .anyg al own tt it elt, t => match t with
    | .Call (.Name f _) [.GeneratorExp el [⟨tg, iter, [], a⟩] scope _] [] _ => decide (f = if al then ("all" : Str) else ("any" : Str)) && glb cc f && cc.gn && decide (a = 0) && !(isSL iter) && blkC cc.N cc.sc scope (ownP cc own) && genSc scope && (tIdx tt).all (fun i => decide (i ∈ own)) && chkW cc it tg iter && chkT (genCc cc scope) tt tg && chkE (genCc cc scope) elt el
    | _ => false
  | _, _ => false
def chkEs (cc : Cc) : Sh.E → List Expr → Bool
  | .nil, ts => match ts with
    | [] => true
    | _ => false
  | .cons a es, ts => match ts with
    | t :: ts => chkE cc a t && chkEs cc es ts
    | _ => false
  | _, _ => false
def chkO (cc : Cc) : Sh.E → Option Expr → Bool
  | .nop, o => match o with
    | none => true
    | _ => false
  | .one a, o => match o with
    | some t => chkE cc a t
    | _ => false
  | _, _ => false
def chkC (cc : Cc) : Sh.E → List Expr → Bool
  | .nop, ts => match ts with
    | [] => true
    | _ => false
  | .one a, ts => match ts with
    | [t] => chkE cc a t
    | _ => false
  | _, _ => false
def chkW (cc : Cc) : Sh.E → Expr → Expr → Bool
  | .one a, _, t => chkE cc a t
  | .rng es, _, t => match t with
    | .Call (.Name f _) xs [] _ => decide (f = "range") && glb cc f && chkEs cc es xs
    | _ => false
  | .enum a, tg, t => match t with
    | .Call (.Name f _) [x] [] _ => decide (f = "enumerate") && glb cc f && isTupE tg && chkE cc a x
    | _ => false
  | .zip a b, tg, t => match t with
    | .Call (.Name f _) [x, y] [] _ => decide (f = "zip") && glb cc f && isTupE tg && chkE cc a x && chkE cc b y
    | _ => false
  | .wk k a, tg, t => match k, t with
    | .dict, x => chkE cc a x
    | .keys, .Call (.Attribute o name apos) [] [] cpos => decide (name = "keys") && !(call0 o) && (apos.endLine == cpos.line) && chkE cc a o
    | .vals, .Call (.Attribute o name apos) [] [] cpos => decide (name = "values") && !(call0 o) && (apos.endLine == cpos.line) && chkE cc a o
    | .items, .Call (.Attribute o name apos) [] [] cpos => decide (name = "items") && !(call0 o) && (apos.endLine == cpos.line) && isTupE tg && chkE cc a o
    | _, _ => false
  | .rev a, _, t => match t with
    | .Call (.Name f _) [x] [] _ => decide (f = "reversed") && glb cc f && chkE cc a x
    | _ => false
  | _, _, _ => false
end
/-! ### plain arguments -/
theorem chk_star {cc : Cc} {x : Sh.E} {t : Expr} (h : chkE cc x t = true) : notStar t = true := by
  cases t <;> first | rfl | (cases x <;> simp [chkE] at h)
theorem chks_star {cc : Cc} : ∀ {x : Sh.E} {ts : List Expr}, chkEs cc x ts = true → ∀ t ∈ ts, notStar t = true := by
  intro x
  induction x with
  | nil => intro ts h; cases ts <;> simp [chkEs] at h ⊢
  | cons a es _ ih =>
    intro ts h
    cases ts with
    | nil => simp
    | cons t ts =>
      simp only [chkEs, Bool.and_eq_true] at h
      intro u hu
      rcases List.mem_cons.mp hu with rfl | hu
      · exact chk_star h.1
      · exact ih h.2 u hu
  | _ => intro ts h; simp [chkEs] at h
theorem star_cons {e : Expr} {es : List Expr} {env : Env} (h : notStar e = true) : starEach (e :: es) env = (false, eval e env) :: starEach es env := by
  cases e <;> first | rfl | cases h
theorem star_any {env : Env} {pos : Pos} : ∀ {es : List Expr}, (∀ e ∈ es, notStar e = true) → (backTo pos (starEach es env)).any (·.1) = false
  | [], _ => rfl
  | e :: es, h => by
    rw [star_cons (h e List.mem_cons_self)]
    show (false || (backTo pos (starEach es env)).any (·.1)) = false
    rw [Bool.false_or]
    exact star_any fun u hu => h u (List.mem_cons_of_mem _ hu)
theorem star_all {env : Env} {pos : Pos} : ∀ {es : List Expr}, (∀ e ∈ es, notStar e = true) → (backTo pos (starEach es env)).all (fun x => !x.1) = true
  | [], _ => rfl
  | e :: es, h => by
    rw [star_cons (h e List.mem_cons_self)]
    show (true && (backTo pos (starEach es env)).all (fun x => !x.1)) = true
    rw [Bool.true_and]
    exact star_all fun u hu => h u (List.mem_cons_of_mem _ hu)
theorem asg_cons {e : Expr} {es : List Expr} {env : Env} (h : notStar e = true) : assignEach (e :: es) env = (false, assign e env) :: assignEach es env := by
  cases e <;> first | rfl | cases h
theorem asg_plain {env : Env} : ∀ {es : List Expr}, (∀ e ∈ es, notStar e = true) → (assignEach es env).length = es.length ∧ (assignEach es env).findIdx? (·.1) = none
  | [], _ => ⟨rfl, rfl⟩
  | e :: es, h => by
    obtain ⟨h1, h2⟩ := asg_plain (env := env) (es := es) fun u hu => h u (List.mem_cons_of_mem _ hu)
    rw [asg_cons (h e List.mem_cons_self)]
    refine ⟨by simp [h1], ?_⟩
    rw [List.findIdx?_cons]
    simp [h2]
theorem base_of {o : Expr} {a : Str} {env : Env} {w : Sem Value} (h : call0 o = false) : attributeBase o a env w = w := by
  unfold attributeBase
  split
  · simp [call0] at h
  · rfl
theorem plain_ix {cc : Cc} {x : Sh.E} {t : Expr} (h : chkE cc x t = true) : PlainIx t := fun o i => by
  cases t <;> first | rfl | (cases x <;> simp [chkE] at h)
theorem folded_ok {iter : Expr} {env : Env} {x : Value} (h : isSet iter = false) : foldedSetIterable iter env x = pure x := by
  cases iter <;> first | rfl | cases h
theorem gfold_ok {iter : Expr} {env : Env} {x : Value} (h : isSL iter = false) : genFold iter env x = pure x := by
  cases iter <;> first | rfl | cases h
theorem vis_ok {cc : Cc} {x : Str} (h : vis cc x = true) : Vis cc.sc x := by
  unfold vis at h
  split at h
  · exact .inl (by assumption)
  · exact .inr (.inl (by assumption))
  · exact .inr (.inr (by assumption))
  · cases h
section
variable {cc : Cc} {K : KK} {cl : Calls} {X : Cx}
theorem CxOk.gl (ok : CxOk cc K cl X) {x : Str} (h : glb cc x = true) : Gl X x := by
  unfold glb at h
  split at h
  · rename_i e
    show X.env.scope.names.lookup x = _
    rw [ok.sc]; exact e
  · cases h
theorem CxOk.blk (ok : CxOk cc K cl X) (s : Shared) (H : Hp) (scope : Scope) (C : Addr) (cs : List (Str × Addr)) (fp : List Addr) : CxOk (blkCc cc scope) K cl (X.blk s H scope (compEnvC scope cs C X.env) fp) where
  hN := ok.hN
  nd := ok.nd
  sc := by
    show relS scope X.env.scope = relS scope cc.sc
    rw [ok.sc]
  fn := fun x h => h
  calm := ok.calm
  hK := ok.hK
  hu := ok.hu
  mg := ok.mg
  fns := fun f g h => ok.fns f g h
  gls := fun x v h => ok.gls x v h
  xcs := fun x h => ok.xcs x h
  gen := ok.gen
theorem CxOk.gcx (ok : CxOk cc K cl X) (hg : cc.gn = true) {scope : Scope} (s : Shared) (H : Hp) (ce : Env) (fp : List Addr) (pn : List (Addr × Obj)) (hs : ce.scope = scope) : CxOk (genCc cc scope) K cl (gcx X s H ce fp pn) where
  hN := ok.hN
  nd := ok.nd
  sc := hs
  fn := fun x h => by cases h
  calm := ok.calm
  hK := ok.hK
  hu := by
    have := (ok.gen hg).2.1.un
    show X.A.units + 1 + 1 + 3 + 66 < cLine
    omega
  mg := ok.mg
  fns := fun f g h => by
    obtain ⟨n, addr, fd, ps, r, h1, h2, h3, h4⟩ := (ok.gen hg).2.2 f g h
    exact ⟨n, addr, fd, ps, ⟨r.hd, by have := r.dp; show X.A.depth + 1 + 3 * n + 5 < _; omega, by have := r.un; show X.A.units + 1 + 1 + 3 + 16 * n + 200 < _; omega⟩, h1, h2, h3, h4⟩
  gls := fun x v h => ok.gls x v h
  xcs := fun x h => ok.xcs x h
  gen := fun h => by cases h
theorem CxOk.tr (ok : CxOk cc K cl X) (pn : List (Addr × Obj)) (xe : Value → Shared → Prop) : CxOk cc K cl (X.tr pn xe) where
  hN := ok.hN
  nd := ok.nd
  sc := ok.sc
  fn := ok.fn
  calm := ok.calm
  hK := ok.hK
  hu := ok.hu
  mg := ok.mg
  fns := fun f g h => ok.fns f g h
  gls := fun x v h => ok.gls x v h
  xcs := fun x h => ok.xcs x h
  gen := ok.gen
/-- a target is stored to -/
theorem chkT_ok (ok : CxOk cc K cl X) (t : T) : (∀ e, chkT cc t e = true → PG X e (gT K t)) ∧ (∀ es, chkTs cc t es = true → PGs X es (gTs K t) ∧ tlen t = es.length ∧ ∀ e ∈ es, notStar e = true) := by
  have imp : ∀ {e : Expr} {g g' : TG}, PG X e g → (∀ v σ H Q, g' v σ H Q → g v σ H Q) → PG X e g' := fun h k => ⟨fun pins s σ H v u Q I r q => h.run pins s σ H v u Q I r (k _ _ _ _ q)⟩
  have imps : ∀ {e : List Expr} {g g' : TGs}, PGs X e g → (∀ v σ H Q, g' v σ H Q → g v σ H Q) → PGs X e g' := fun h k => ⟨fun pins s σ H v u Q I r q => h.run pins s σ H v u Q I r (k _ _ _ _ q)⟩
  induction t with
  | nm i =>
    refine ⟨fun e h => ?_, fun es h => by cases es <;> simp [chkTs] at h⟩
    simp only [chkT] at h
    split at h
    · rename_i x pos
      rw [Bool.and_eq_true] at h
      have hi : cc.N[i]? = some x := of_decide_eq_true h.1
      have hs := h.2
      unfold sto at hs
      have hnd : X.N.Nodup := by rw [ok.hN]; exact ok.nd
      have hiX : X.N[i]? = some x := by rw [ok.hN]; exact hi
      split at hs
      · rename_i e
        have e' : X.env.scope.names.lookup x = some .local := by rw [ok.sc]; exact e
        exact imp (pg_name hnd hiX (.inl e') (.inr e')) fun v σ H Q q => s_nm q
      · rename_i e
        have e' : X.env.scope.names.lookup x = some .cell := by rw [ok.sc]; exact e
        exact imp (pg_name hnd hiX (.inr e') (.inl (ok.fn x hs))) fun v σ H Q q => s_nm q
      · cases hs
    · cases h
  | tp ts ih =>
    refine ⟨fun e h => ?_, fun es h => by cases es <;> simp [chkTs] at h⟩
    simp only [chkT] at h
    split at h
    · rename_i es k pos
      obtain ⟨hp, hl, hs⟩ := ih.2 es h
      obtain ⟨a1, a2⟩ := asg_plain (env := X.env) hs
      have := pg_tup (pos := pos) (k := k) ok.calm hp a1 a2
      rw [ok.hK] at this
      exact imp this fun v σ H Q q => by rw [← hl]; exact s_ttp q
    · cases h
  | nil =>
    refine ⟨fun e h => by simp [chkT] at h, fun es h => ?_⟩
    cases es with
    | nil => exact ⟨imps pgs_nil fun v σ H Q q => s_tnil q, rfl, by simp⟩
    | cons e es => simp [chkTs] at h
  | cons t ts ih1 ih2 =>
    refine ⟨fun e h => by simp [chkT] at h, fun es h => ?_⟩
    cases es with
    | nil => simp [chkTs] at h
    | cons e es =>
      simp only [chkTs, Bool.and_eq_true] at h
      obtain ⟨⟨h1, h2⟩, h3⟩ := h
      obtain ⟨p, l, s⟩ := ih2.2 es h3
      refine ⟨imps (pgs_cons (ih1.1 e h1) p (by rw [asg_cons h2]; rfl)) fun v σ H Q q => s_tcons q, by simp [tlen, l], fun u hu => ?_⟩
      · rcases List.mem_cons.mp hu with rfl | hu
        · exact h2
        · exact s u hu
end
end Sh

/-! ShQ: the expressions of the text do what the evaluator says -/
namespace Sh
open PySem PySem.Spec PyProof.Rows L2
def tIfT (t : TT) (ta tb : TT) : TT := fun σ H Q => t σ H fun c H1 => if c = true then ta σ H1 Q else tb σ H1 Q
theorem pt_ifT {X : Cx} {c a b : Expr} {pos : Pos} {t ta tb : TT} (hc : PT X c t) (ha : PT X a ta) (hb : PT X b tb) : PT X (.IfExp c a b pos) (tIfT t ta tb) := by
  refine ⟨fun pins s σ H Q I h => ?_⟩
  show wpAny (model X.prog X.w) X.A (do if ← isTrue c X.env (eval c X.env) then isTrue a X.env (eval a X.env) else isTrue b X.env (eval b X.env)) _ _ s
  refine wpAny_bind (thn (hc.run pins s σ H _ I h) fun k s1 ⟨H1, I1, q⟩ => ?_)
  cases k with
  | true => exact ha.run pins s1 σ H1 Q I1 (by simpa using q)
  | false => exact hb.run pins s1 σ H1 Q I1 (by simpa using q)
section
variable {K : KK} {cl : Calls} {x a b : Sh.E}
theorem t_ite {t : Sh.E} {σ : Sl} {H : Hp} {Q : Bool → Hp → Prop} (h : tTst K cl (.ite t a b) σ H Q) : tIfT (tTst K cl t) (tTst K cl a) (tTst K cl b) σ H Q := by
  obtain ⟨S, e, fo, z, e', E, O, r, h⟩ := h
  obtain ⟨u, e3, r0, r3⟩ := Res.bind_ok r
  obtain ⟨x, e1, r1, r⟩ := Res.bind_ok r0
  obtain ⟨k, e2, r2, r⟩ := Res.bind_ok r
  refine ⟨S, e, fo, k, e2, E, O, by rw [r1]; exact r2, fun S1 H1 fo1 st1 o1 E1 => ?_⟩
  split at r
  · rename_i hk
    rw [if_pos hk]
    refine ⟨S1, e2, fo1, z, e', E1, o1, by rw [r]; exact r3, fun S2 H2 fo2 st2 o2 E2 => ?_⟩
    exact h S2 H2 fo2 (show Stp (quiet t && quiet a && quiet b) S H fo S2 H2 fo2 [] from (st1.trans st2).mono fun q => by simp only [Bool.and_eq_true] at q ⊢; exact ⟨q.1.1, q.1.2⟩) o2 E2
  · rename_i hk
    rw [if_neg hk]
    refine ⟨S1, e2, fo1, z, e', E1, o1, by rw [r]; exact r3, fun S2 H2 fo2 st2 o2 E2 => ?_⟩
    exact h S2 H2 fo2 (show Stp (quiet t && quiet a && quiet b) S H fo S2 H2 fo2 [] from (st1.trans st2).mono fun q => by simp only [Bool.and_eq_true] at q ⊢; exact ⟨q.1.1, q.2⟩) o2 E2
theorem Blt.boot : ∀ b : Blt, bootBuiltins b.name = some b.val
  | .len => by decide +kernel | .abs => by decide +kernel | .int => by decide +kernel | .list => by decide +kernel | .tuple => by decide +kernel
  | .sum => by decide +kernel | .sorted => by decide +kernel | .max => by decide +kernel | .min => by decide +kernel | .str => by decide +kernel | .any => by decide +kernel | .all => by decide +kernel
theorem Blt.nm1 : ∀ b : Blt, b.name ≠ "__name__" ∧ (b.name == ("__debug__" : Str)) = false
  | .len => ⟨by decide, by decide⟩ | .abs => ⟨by decide, by decide⟩ | .int => ⟨by decide, by decide⟩ | .list => ⟨by decide, by decide⟩ | .tuple => ⟨by decide, by decide⟩
  | .sum => ⟨by decide, by decide⟩ | .sorted => ⟨by decide, by decide⟩ | .max => ⟨by decide, by decide⟩ | .min => ⟨by decide, by decide⟩ | .str => ⟨by decide, by decide⟩ | .any => ⟨by decide, by decide⟩ | .all => ⟨by decide, by decide⟩
theorem Blt.mem : ∀ b : Blt, b.name ∈ bltNames
  | .len => by decide | .abs => by decide | .int => by decide | .list => by decide | .tuple => by decide
  | .sum => by decide | .sorted => by decide | .max => by decide | .min => by decide | .str => by decide | .any => by decide | .all => by decide
theorem pe_blt {cc : Cc} {X : Cx} (ok : CxOk cc K cl X) {b : Blt} {p pos : Pos} {e : Expr} {es : List Expr} {t : TA} (hg : glb cc b.name = true) (ha : L2.PA X (e :: es) t) (hs : ∀ u ∈ e :: es, notStar u = true) : PE X (.Call (.Name b.name p) (e :: es) [] pos) (tCB (rBlt K.K b) t) := by
  have he := star_cons (env := X.env) (es := es) (hs e List.mem_cons_self)
  have hp := star_any (env := X.env) (pos := pos) (es := es) fun u hu => hs u (List.mem_cons_of_mem _ hu)
  have hc := call_blt ok.calm ok.hu b
  rw [ok.hK] at hc
  have hb := b.boot
  cases b <;> first
    | exact pe_callB hc (ok.gl hg) (ok.mg _ (by decide)) hb ha (by decide) (by decide) he hp
    | exact pe_callTy hc (ok.gl hg) (ok.mg _ (by decide)) hb ha (by decide) (by decide) he hp
/-- what holds of an expression of the text -/
structure EOk (K : KK) (cl : Calls) (x : Sh.E) (X : Cx) (t : Expr) : Prop where
  e : PE X t (tEv K cl x)
  t : PT X t (tTst K cl x)
theorem EOk.val {X : Cx} {t : Expr} (h : PE X t (tEv K cl x)) (he : ∀ whole, isTrue t X.env whole = (do let v ← whole; standAt t.pos; holding [v] (truthy v))) : EOk K cl x X t :=
  ⟨h, PT.imp (pt_val h he) fun _ _ _ q => s_test q⟩
structure XOk (K : KK) (cl : Calls) (x : Sh.E) : Prop where
  e : ∀ {cc : Cc} {X : Cx} {t : Expr}, chkE cc x t = true → CxOk cc K cl X → EOk K cl x X t
  w : ∀ {cc : Cc} {X : Cx} {op : BoolOp} {vs : List Expr} {pos : Pos}, chkE cc x (.BoolOp op vs pos) = true → CxOk cc K cl X → PW X (.BoolOp op vs pos) (tTst K cl x)
  es : ∀ {cc : Cc} {X : Cx} {ts : List Expr}, chkEs cc x ts = true → CxOk cc K cl X → L2.PA X ts (tAr K cl x) ∧ ts.length = elen x
  o : ∀ {cc : Cc} {X : Cx} {t : Option Expr}, chkO cc x t = true → CxOk cc K cl X → PO X t (tO K cl x)
  c : ∀ {cc : Cc} {X : Cx} {ts : List Expr}, chkC cc x ts = true → CxOk cc K cl X → PTs X ts (tTsts K cl x)
  i : ∀ {cc : Cc} {X : Cx} {tg t : Expr}, chkW cc x tg t = true → CxOk cc K cl X → PI X tg t (tWlk K cl x)
theorem s_onee {σ : Sl} {H : Hp} {Q : VK} (h : tEv K cl (.one a) σ H Q) : tEv K cl a σ H Q := h
theorem t_onee {σ : Sl} {H : Hp} {Q : Bool → Hp → Prop} (h : tTst K cl (.one a) σ H Q) : tTst K cl a σ H Q := h
theorem pa1 {X : Cx} {e : Expr} {te : TE} (h : PE X e te) (hs : notStar e = true) : L2.PA X [e] (tCons te tNil) := pa_cons h pa_nil (star_cons hs)
theorem pe_ty {cc : Cc} {X : Cx} (ok : CxOk cc K cl X) {ty : Ty} {pos : Pos} (h : glb cc (Str.ofString ty.nm) = true) : PE X (.Name (Str.ofString ty.nm) pos) (tC (.ty ty.nm)) := by
  cases ty <;> exact pe_bltn (ok.gl h) (ok.mg _ (by decide)) (by decide +kernel) rfl (by decide) (by decide)
theorem pe_rgL {cc : Cc} {X : Cx} (ok : CxOk cc K cl X) {l : Bool} {p pos pos2 : Pos} {f : Expr} {args : List Expr} {te : Sl → Hp → (Int → Int → Hp → Prop) → Prop} (h : glb cc (if l then ("list" : Str) else ("tuple" : Str)) = true) (hr : PRg X (.Call f args [] pos2) te) : PE X (.Call (.Name (if l then ("list" : Str) else ("tuple" : Str)) p) [.Call f args [] pos2] [] pos) (tRgL l te) := by
  cases l with
  | true => exact PE.imp (pe_listRg ok.calm (ok.gl h) (ok.mg _ (by decide)) hr) fun _ _ _ q => q
  | false => exact PE.imp (pe_tupRgF ok.calm (ok.gl h) (ok.mg _ (by decide)) hr) fun _ _ _ q => q
theorem Gl.range {cc : Cc} {X : Cx} (ok : CxOk cc K cl X) {x : Str} (h : glb cc x = true) : Gl X x := ok.gl h
theorem chk_ok (x : Sh.E) : XOk K cl x := by
  induction x with
  | var i =>
    refine ⟨fun {cc X t} h ok => ?_, fun h => by simp [chkE] at h, fun h => by simp [chkEs] at h, fun h => by simp [chkO] at h, fun h => by simp [chkC] at h, fun h => by simp [chkW] at h⟩
    simp only [chkE] at h
    split at h
    · rename_i y pos
      simp only [Bool.and_eq_true, decide_eq_true_eq, okN, Bool.not_eq_true'] at h
      refine .val (PE.imp (pe_var (by rw [ok.hN]; exact h.1.1) (by rw [ok.sc]; exact vis_ok h.1.2) h.2.1 h.2.2) fun _ _ _ q => s_var q) fun _ => rfl
    · cases h
  | int i =>
    refine ⟨fun {cc X t} h ok => ?_, fun h => by simp [chkE] at h, fun h => by simp [chkEs] at h, fun h => by simp [chkO] at h, fun h => by simp [chkC] at h, fun h => by simp [chkW] at h⟩
    simp only [chkE] at h
    split at h
    · have := of_decide_eq_true h
      subst this
      exact .val (PE.imp pe_int fun _ _ _ q => s_const (fun _ => rfl) (fun _ _ => Rep.int) q) fun _ => rfl
    · cases h
  | bl b =>
    refine ⟨fun {cc X t} h ok => ?_, fun h => by simp [chkE] at h, fun h => by simp [chkEs] at h, fun h => by simp [chkO] at h, fun h => by simp [chkC] at h, fun h => by simp [chkW] at h⟩
    simp only [chkE] at h
    split at h
    · have := eq_of_beq h
      subst this
      exact .val (PE.imp pe_bl fun _ _ _ q => s_const (fun _ => rfl) (fun _ _ => Rep.bl) q) fun _ => rfl
    · cases h
  | non =>
    refine ⟨fun {cc X t} h ok => ?_, fun h => by simp [chkE] at h, fun h => by simp [chkEs] at h, fun h => by simp [chkO] at h, fun h => by simp [chkC] at h, fun h => by simp [chkW] at h⟩
    simp only [chkE] at h
    split at h
    · exact .val (PE.imp pe_non fun _ _ _ q => s_const (fun _ => rfl) (fun _ _ => Rep.non) q) fun _ => rfl
    · cases h
  | str x =>
    refine ⟨fun {cc X t} h ok => ?_, fun h => by simp [chkE] at h, fun h => by simp [chkEs] at h, fun h => by simp [chkO] at h, fun h => by simp [chkC] at h, fun h => by simp [chkW] at h⟩
    simp only [chkE] at h
    split at h
    · have := of_decide_eq_true h
      subst this
      exact .val (PE.imp pe_str fun _ _ _ q => s_const (fun _ => rfl) (fun _ _ => Rep.str) q) fun _ => rfl
    · cases h
  | bin op a b iha ihb =>
    refine ⟨fun {cc X t} h ok => ?_, fun h => by simp [chkE] at h, fun h => by simp [chkEs] at h, fun h => by simp [chkO] at h, fun h => by simp [chkC] at h, fun h => by simp [chkW] at h⟩
    simp only [chkE] at h
    split at h
    · simp only [Bool.and_eq_true, decide_eq_true_eq] at h
      obtain ⟨⟨rfl, h1⟩, h2⟩ := h
      have ho := op_bin (X := X) op
      rw [ok.hK] at ho
      exact .val (PE.imp (pe_op ho (iha.e h1 ok).e (ihb.e h2 ok).e) fun _ _ _ q => s_bin q) fun _ => rfl
    · cases h
  | neg a iha =>
    refine ⟨fun {cc X t} h ok => ?_, fun h => by simp [chkE] at h, fun h => by simp [chkEs] at h, fun h => by simp [chkO] at h, fun h => by simp [chkC] at h, fun h => by simp [chkW] at h⟩
    simp only [chkE] at h
    split at h
    · exact .val (PE.imp (pe_un un_neg (iha.e h ok).e) fun _ _ _ q => s_neg q) fun _ => rfl
    · cases h
  | cmp op a b iha ihb =>
    refine ⟨fun {cc X t} h ok => ?_, fun h => by simp [chkE] at h, fun h => by simp [chkEs] at h, fun h => by simp [chkO] at h, fun h => by simp [chkC] at h, fun h => by simp [chkW] at h⟩
    simp only [chkE] at h
    split at h
    · simp only [Bool.and_eq_true, decide_eq_true_eq, Bool.not_eq_true'] at h
      obtain ⟨⟨⟨rfl, h0⟩, h1⟩, h2⟩ := h
      have ho := op_cmp (X := X) (by have := ok.hu; omega) op
      rw [ok.hK] at ho
      exact ⟨PE.imp (pe_cmpR ho (iha.e h1 ok).e (ihb.e h2 ok).e h0) fun _ _ _ q => s_cmp q, PT.imp (pt_cmpR ho (iha.e h1 ok).e (ihb.e h2 ok).e h0) fun σ H Q q => s_cmp (s_test q)⟩
    · cases h
  | chn op op' a b d iha ihb ihd =>
    refine ⟨fun {cc X t} h ok => ?_, fun h => by simp [chkE] at h, fun h => by simp [chkEs] at h, fun h => by simp [chkO] at h, fun h => by simp [chkC] at h, fun h => by simp [chkW] at h⟩
    simp only [chkE] at h
    split at h
    · simp only [Bool.and_eq_true, decide_eq_true_eq, Bool.not_eq_true'] at h
      obtain ⟨⟨⟨⟨⟨rfl, rfl⟩, h0⟩, h1⟩, h2⟩, h3⟩ := h
      have ho := op_cmp (X := X) (by have := ok.hu; omega) op
      have ho' := op_cmp (X := X) (by have := ok.hu; omega) op'
      rw [ok.hK] at ho ho'
      exact ⟨PE.imp (pe_chain ho ho' (iha.e h1 ok).e (ihb.e h2 ok).e (ihd.e h3 ok).e h0) fun _ _ _ q => s_chn q, PT.imp (pt_chain ho ho' (iha.e h1 ok).e (ihb.e h2 ok).e (ihd.e h3 ok).e h0) fun σ H Q q => s_chn (s_test q)⟩
    · cases h
  | and a b iha ihb =>
    have pw : ∀ {cc : Cc} {X : Cx} {op : BoolOp} {vs : List Expr} {pos : Pos}, chkE cc (.and a b) (.BoolOp op vs pos) = true → CxOk cc K cl X → PW X (.BoolOp op vs pos) (tTst K cl (.and a b)) := fun {cc X op vs pos} h ok => by
      simp only [chkE] at h
      split at h
      · rename_i e1
        cases e1
        rw [Bool.and_eq_true] at h
        exact PW.imp (pw_and (iha.e h.1 ok).t (ihb.w h.2 ok)) fun _ _ _ q => t_and q
      · cases h
    refine ⟨fun {cc X t} h ok => ?_, pw, fun h => by simp [chkEs] at h, fun h => by simp [chkO] at h, fun h => by simp [chkC] at h, fun h => by simp [chkW] at h⟩
    have h0 := h
    simp only [chkE] at h
    split at h
    · rw [Bool.and_eq_true] at h
      exact ⟨PE.imp (pe_and (iha.e h.1 ok).e (ihb.e h.2 ok).e) fun _ _ _ q => s_and q, (pw h0 ok).pt⟩
    · cases h
  | or a b iha ihb =>
    have pw : ∀ {cc : Cc} {X : Cx} {op : BoolOp} {vs : List Expr} {pos : Pos}, chkE cc (.or a b) (.BoolOp op vs pos) = true → CxOk cc K cl X → PW X (.BoolOp op vs pos) (tTst K cl (.or a b)) := fun {cc X op vs pos} h ok => by
      simp only [chkE] at h
      split at h
      · rename_i e1
        cases e1
        rw [Bool.and_eq_true] at h
        exact PW.imp (pw_or (iha.e h.1 ok).t (ihb.w h.2 ok)) fun _ _ _ q => t_or q
      · cases h
    refine ⟨fun {cc X t} h ok => ?_, pw, fun h => by simp [chkEs] at h, fun h => by simp [chkO] at h, fun h => by simp [chkC] at h, fun h => by simp [chkW] at h⟩
    have h0 := h
    simp only [chkE] at h
    split at h
    · rw [Bool.and_eq_true] at h
      exact ⟨PE.imp (pe_or (iha.e h.1 ok).e (ihb.e h.2 ok).e) fun _ _ _ q => s_or q, (pw h0 ok).pt⟩
    · cases h
  | one a iha =>
    have pw : ∀ {cc : Cc} {X : Cx} {op : BoolOp} {vs : List Expr} {pos : Pos}, chkE cc (.one a) (.BoolOp op vs pos) = true → CxOk cc K cl X → PW X (.BoolOp op vs pos) (tTst K cl (.one a)) := fun {cc X op vs pos} h ok => by
      simp only [chkE] at h
      split at h
      · rename_i e1
        cases e1
        cases op with
        | And => exact PW.imp (pw_and1 (iha.e h ok).t) fun _ _ _ q => t_onee q
        | Or => exact PW.imp (pw_or1 (iha.e h ok).t) fun _ _ _ q => t_onee q
      · cases h
    refine ⟨fun {cc X t} h ok => ?_, pw, fun h => by simp [chkEs] at h, fun {cc X t} h ok => ?_, fun {cc X ts} h ok => ?_, fun {cc X tg t} h ok => ?_⟩
    · have h0 := h
      simp only [chkE] at h
      split at h
      · exact ⟨PE.imp (pe_one (iha.e h ok).e) fun _ _ _ q => s_onee q, (pw h0 ok).pt⟩
      · cases h
    · simp only [chkO] at h
      split at h
      · exact PO.imp (po_some (iha.e h ok).e) fun _ _ _ q => s_one q
      · cases h
    · simp only [chkC] at h
      split at h
      · exact PTs.imp (pts_one (iha.e h ok).t) fun _ _ _ q => s_tests q
      · cases h
    · simp only [chkW] at h
      have p := (iha.e h ok).e
      have pl := pi_list (tg := tg) p
      have pt := pi_tup (tg := tg) p
      rw [ok.hK] at pl pt
      exact PI.imp (PI.or (PI.or pl pt) (pi_str p)) fun _ _ _ q => w_one q
  | not a iha =>
    refine ⟨fun {cc X t} h ok => ?_, fun h => by simp [chkE] at h, fun h => by simp [chkEs] at h, fun h => by simp [chkO] at h, fun h => by simp [chkC] at h, fun h => by simp [chkW] at h⟩
    simp only [chkE] at h
    split at h
    · exact ⟨PE.imp (pe_not (iha.e h ok).e) fun _ _ _ q => s_not q, PT.imp (pt_not (iha.e h ok).t) fun _ _ _ q => t_not q⟩
    · cases h
  | ite c a b ihc iha ihb =>
    refine ⟨fun {cc X t} h ok => ?_, fun h => by simp [chkE] at h, fun h => by simp [chkEs] at h, fun h => by simp [chkO] at h, fun h => by simp [chkC] at h, fun h => by simp [chkW] at h⟩
    simp only [chkE] at h
    split at h
    · simp only [Bool.and_eq_true] at h
      exact ⟨PE.imp (pe_ifExp (ihc.e h.1.1 ok).t (iha.e h.1.2 ok).e (ihb.e h.2 ok).e) fun _ _ _ q => s_ite q, PT.imp (pt_ifT (ihc.e h.1.1 ok).t (iha.e h.1.2 ok).t (ihb.e h.2 ok).t) fun _ _ _ q => t_ite q⟩
    · cases h
  | tup es ih =>
    refine ⟨fun {cc X t} h ok => ?_, fun h => by simp [chkE] at h, fun h => by simp [chkEs] at h, fun h => by simp [chkO] at h, fun h => by simp [chkC] at h, fun h => by simp [chkW] at h⟩
    simp only [chkE] at h
    split at h
    · exact .val (PE.imp (pe_tupF (ih.es h ok).1) fun _ _ _ q => s_tup q) fun _ => rfl
    · cases h
  | lst m es ih =>
    refine ⟨fun {cc X t} h ok => ?_, fun h => by simp [chkE] at h, fun h => by simp [chkEs] at h, fun h => by simp [chkO] at h, fun h => by simp [chkC] at h, fun h => by simp [chkW] at h⟩
    simp only [chkE] at h
    split at h
    · exact .val (PE.imp (pe_lst (ih.es h ok).1) fun _ _ _ q => s_lst q) fun _ => rfl
    · cases h
  | nil =>
    refine ⟨fun h => by simp [chkE] at h, fun h => by simp [chkE] at h, fun {cc X ts} h ok => ?_, fun h => by simp [chkO] at h, fun h => by simp [chkC] at h, fun h => by simp [chkW] at h⟩
    simp only [chkEs] at h
    split at h
    · exact ⟨PA.imp pa_nil fun _ _ _ q => s_nil q, rfl⟩
    · cases h
  | cons a es iha ihs =>
    refine ⟨fun h => by simp [chkE] at h, fun h => by simp [chkE] at h, fun {cc X ts} h ok => ?_, fun h => by simp [chkO] at h, fun h => by simp [chkC] at h, fun h => by simp [chkW] at h⟩
    simp only [chkEs] at h
    split at h
    · rw [Bool.and_eq_true] at h
      obtain ⟨p, l⟩ := ihs.es h.2 ok
      exact ⟨PA.imp (pa_cons (iha.e h.1 ok).e p (star_cons (chk_star h.1))) fun _ _ _ q => s_cons q, by simp [elen, l]⟩
    · cases h
  | dnk m =>
    refine ⟨fun {cc X t} h ok => ?_, fun h => by simp [chkE] at h, fun h => by simp [chkEs] at h, fun h => by simp [chkO] at h, fun h => by simp [chkC] at h, fun h => by simp [chkW] at h⟩
    simp only [chkE] at h
    split at h
    · exact .val (PE.imp pe_dnewK fun _ _ _ q => s_dnk q) fun _ => rfl
    · cases h
  | dnt m =>
    refine ⟨fun {cc X t} h ok => ?_, fun h => by simp [chkE] at h, fun h => by simp [chkEs] at h, fun h => by simp [chkO] at h, fun h => by simp [chkC] at h, fun h => by simp [chkW] at h⟩
    simp only [chkE] at h
    split at h
    · exact .val (PE.imp pe_dnewT fun _ _ _ q => s_dnt q) fun _ => rfl
    · cases h
  | idx a i iha ihi =>
    refine ⟨fun {cc X t} h ok => ?_, fun h => by simp [chkE] at h, fun h => by simp [chkEs] at h, fun h => by simp [chkO] at h, fun h => by simp [chkC] at h, fun h => by simp [chkW] at h⟩
    simp only [chkE] at h
    split at h
    · rw [Bool.and_eq_true] at h
      have hi := ix_all (X := X) (by have := ok.hu; omega)
      rw [ok.hK] at hi
      exact .val (PE.imp (pe_ix hi (iha.e h.1 ok).e (ihi.e h.2 ok).e (plain_ix h.2)) fun _ _ _ q => s_idx q) fun _ => rfl
    · cases h
  | slc a lo hi iha ihl ihh =>
    refine ⟨fun {cc X t} h ok => ?_, fun h => by simp [chkE] at h, fun h => by simp [chkEs] at h, fun h => by simp [chkO] at h, fun h => by simp [chkC] at h, fun h => by simp [chkW] at h⟩
    simp only [chkE] at h
    split at h
    · simp only [Bool.and_eq_true] at h
      have hi := sl_all (X := X)
      rw [ok.hK] at hi
      exact .val (PE.imp (pe_slice hi (iha.e h.1.1 ok).e (ihl.o h.1.2 ok) (ihh.o h.2 ok)) fun _ _ _ q => s_slc q) fun _ => rfl
    · cases h
  | nop =>
    refine ⟨fun h => by simp [chkE] at h, fun h => by simp [chkE] at h, fun h => by simp [chkEs] at h, fun {cc X t} h ok => ?_, fun {cc X ts} h ok => ?_, fun h => by simp [chkW] at h⟩
    · simp only [chkO] at h
      split at h
      · exact PO.imp po_none fun _ _ _ q => s_nop q
      · cases h
    · simp only [chkC] at h
      split at h
      · exact PTs.imp pts_nil fun _ _ _ q => s_yes q
      · cases h
  | blt b es ih =>
    refine ⟨fun {cc X t} h ok => ?_, fun h => by simp [chkE] at h, fun h => by simp [chkEs] at h, fun h => by simp [chkO] at h, fun h => by simp [chkC] at h, fun h => by simp [chkW] at h⟩
    simp only [chkE] at h
    split at h
    · simp only [Bool.and_eq_true, decide_eq_true_eq] at h
      obtain ⟨⟨rfl, h1⟩, h2⟩ := h
      exact .val (PE.imp (pe_blt ok h1 (ih.es h2 ok).1 (chks_star h2)) fun _ _ _ q => s_blt q) fun _ => rfl
    · cases h
  | sp k a iha =>
    refine ⟨fun {cc X t} h ok => ?_, fun h => by cases k <;> simp [chkE] at h, fun h => by simp [chkEs] at h, fun h => by simp [chkO] at h, fun h => by simp [chkC] at h, fun h => by simp [chkW] at h⟩
    simp only [chkE] at h
    split at h
    · rename_i f p o name apos cpos pos
      simp only [Bool.and_eq_true, decide_eq_true_eq, Bool.not_eq_true'] at h
      obtain ⟨⟨⟨⟨⟨rfl, h1⟩, rfl⟩, h2⟩, h3⟩, h4⟩ := h
      have := pe_sortK (X := X) (p := p) (pos := pos) (apos := apos) (mpos := cpos) ok.calm ok.hu (ok.gl h1) (ok.mg _ (by decide)) (iha.e h4 ok).e (base_of h2) h3
      rw [ok.hK] at this
      exact .val (PE.imp this fun σ H Q q => s_sp q) fun _ => rfl
    · rename_i f p g p2 x pos2 pos
      simp only [Bool.and_eq_true, decide_eq_true_eq] at h
      obtain ⟨⟨⟨⟨rfl, h1⟩, rfl⟩, h2⟩, h3⟩ := h
      have := pe_tupRevF (X := X) (p := p) (p2 := p2) (pos := pos) (pos2 := pos2) ok.calm (ok.gl h1) (ok.mg _ (by decide)) (ok.gl h2) (ok.mg _ (by decide)) (iha.e h3 ok).e (star_cons (chk_star h3))
      rw [ok.hK] at this
      exact .val (PE.imp this fun σ H Q q => s_sp q) fun _ => rfl
    · rename_i f p x pos
      simp only [Bool.and_eq_true, decide_eq_true_eq] at h
      obtain ⟨⟨rfl, h1⟩, h3⟩ := h
      have sx := chk_star h3
      have := pe_callB (X := X) (p := p) (pos := pos) (e := x) (es := []) (call_sortT ok.hu) (ok.gl h1) (ok.mg _ (by decide)) (by decide +kernel) (pa_cons (iha.e h3 ok).e pa_nil (star_cons sx)) (by decide) (by decide) (star_cons sx) (star_any fun u hu => by simp at hu)
      rw [ok.hK] at this
      exact .val (PE.imp this fun σ H Q q => s_sp q) fun _ => rfl
    · rename_i f p x kn j cp kp pos
      simp only [Bool.and_eq_true, decide_eq_true_eq] at h
      obtain ⟨⟨⟨rfl, h1⟩, rfl⟩, h3⟩ := h
      have sx := chk_star h3
      have := pe_callBK (X := X) (p := p) (pos := pos) (e := x) (es := []) (kws := [⟨some "reverse", .Constant (.bool true) j cp, kp⟩]) (tk := tCons (tC (.bl true)) tNil) (call_sortR ok.hu) (ok.gl h1) (ok.mg _ (by decide)) (by decide +kernel) (pa_cons (iha.e h3 ok).e pa_nil (star_cons sx))
        (pk_cons pe_bl pk_nil) (by decide) (by decide) (by rw [star_cons sx]; rfl) (by rw [star_cons sx]; rfl)
      rw [ok.hK] at this
      exact .val (PE.imp this fun σ H Q q => s_sp q) fun _ => rfl
    · rename_i f p x kn j cp kp pos
      simp only [Bool.and_eq_true, decide_eq_true_eq] at h
      obtain ⟨⟨⟨rfl, h1⟩, rfl⟩, h3⟩ := h
      have sx := chk_star h3
      have := pe_callBK (X := X) (p := p) (pos := pos) (e := x) (es := []) (kws := [⟨some "default", .Constant .none j cp, kp⟩]) (tk := tCons (tC .non) tNil) (call_minD ok.calm ok.hu) (ok.gl h1) (ok.mg _ (by decide)) (by decide +kernel) (pa_cons (iha.e h3 ok).e pa_nil (star_cons sx))
        (pk_cons pe_non pk_nil) (by decide) (by decide) (by rw [star_cons sx]; rfl) (by rw [star_cons sx]; rfl)
      rw [ok.hK] at this
      exact .val (PE.imp this fun σ H Q q => s_sp q) fun _ => rfl
    · cases h
  | fz i =>
    refine ⟨fun {cc X t} h ok => ?_, fun h => by simp [chkE] at h, fun h => by simp [chkEs] at h, fun h => by simp [chkO] at h, fun h => by simp [chkC] at h, fun h => by simp [chkW] at h⟩
    simp only [chkE] at h
    split at h
    · rename_i y pos
      simp only [Bool.and_eq_true, decide_eq_true_eq, okN, Bool.not_eq_true'] at h
      refine .val (PE.imp (pe_var (by rw [ok.hN]; exact h.1.1) (by rw [ok.sc]; exact vis_ok h.1.2) h.2.1 h.2.2) fun _ _ _ q => s_var (s_fz q)) fun _ => rfl
    · cases h
  | con x v =>
    refine ⟨fun {cc X t} h ok => ?_, fun h => by simp [chkE] at h, fun h => by simp [chkEs] at h, fun h => by simp [chkO] at h, fun h => by simp [chkC] at h, fun h => by simp [chkW] at h⟩
    simp only [chkE] at h
    split at h
    · rename_i y pos
      simp only [Bool.and_eq_true, decide_eq_true_eq, Bool.not_eq_true'] at h
      obtain ⟨⟨⟨rfl, h1⟩, h2⟩, h3⟩ := h
      obtain ⟨u, w, hm, rw', hR⟩ := ok.gls _ _ (glMem_ok h3)
      exact .val (PE.imp (pe_glob (ok.gl h1) hm rw' h2) fun _ _ _ q => s_con hR q) fun _ => rfl
    · cases h
  | lrg1 l a iha =>
    refine ⟨fun {cc X t} h ok => ?_, fun h => by simp [chkE] at h, fun h => by simp [chkEs] at h, fun h => by simp [chkO] at h, fun h => by simp [chkC] at h, fun h => by simp [chkW] at h⟩
    simp only [chkE] at h
    split at h
    · rename_i f p g p2 x pos2 pos
      simp only [Bool.and_eq_true, decide_eq_true_eq] at h
      obtain ⟨⟨⟨⟨rfl, h1⟩, rfl⟩, h2⟩, h3⟩ := h
      have pr := prg_1 (p := p2) (pos := pos2) (ok.gl h2) (ok.mg _ (by decide)) (iha.e h3 ok).e (star_cons (chk_star h3))
      exact .val (PE.imp (pe_rgL ok h1 pr) fun _ _ _ q => s_lrg1 q) fun _ => rfl
    · cases h
  | lrg2 l a b iha ihb =>
    refine ⟨fun {cc X t} h ok => ?_, fun h => by simp [chkE] at h, fun h => by simp [chkEs] at h, fun h => by simp [chkO] at h, fun h => by simp [chkC] at h, fun h => by simp [chkW] at h⟩
    simp only [chkE] at h
    split at h
    · rename_i f p g p2 x y pos2 pos
      simp only [Bool.and_eq_true, decide_eq_true_eq] at h
      obtain ⟨⟨⟨⟨⟨rfl, h1⟩, rfl⟩, h2⟩, h3⟩, h4⟩ := h
      have sy := chk_star h4
      have pr := prg_2 (p := p2) (pos := pos2) (ok.gl h2) (ok.mg _ (by decide)) (iha.e h3 ok).e (ihb.e h4 ok).e (star_cons (chk_star h3)) (star_cons sy) (star_any fun u hu => by
        have : u = y := by simpa using hu
        rw [this]; exact sy)
      exact .val (PE.imp (pe_rgL ok h1 pr) fun _ _ _ q => s_lrg2 q) fun _ => rfl
    · cases h
  | isi a ty ih =>
    refine ⟨fun {cc X t} h ok => ?_, fun h => by simp [chkE] at h, fun h => by simp [chkEs] at h, fun h => by simp [chkO] at h, fun h => by simp [chkC] at h, fun h => by simp [chkW] at h⟩
    simp only [chkE] at h
    split at h
    · rename_i f p x g p2 pos
      simp only [Bool.and_eq_true, decide_eq_true_eq] at h
      obtain ⟨⟨⟨⟨rfl, h1⟩, rfl⟩, h2⟩, h3⟩ := h
      have sx := chk_star h3
      have pt := pe_ty ok (ty := ty) (pos := p2) h2
      have hi := call_isi (X := X)
      rw [ok.hK] at hi
      exact .val (PE.imp (pe_callB hi (ok.gl h1) (ok.mg _ (by decide)) (by decide +kernel) (pa_cons (ih.e h3 ok).e (pa1 pt rfl) (star_cons sx)) (by decide) (by decide) (star_cons sx) (star_any fun u hu => by
        have : u = .Name (Str.ofString ty.nm) p2 := by simpa using hu
        rw [this]; rfl)) fun _ _ _ q => s_isi q) fun _ => rfl
    · cases h
  | call f md es ih =>
    refine ⟨fun {cc X t} h ok => ?_, fun h => by simp [chkE] at h, fun h => by simp [chkEs] at h, fun h => by simp [chkO] at h, fun h => by simp [chkC] at h, fun h => by simp [chkW] at h⟩
    simp only [chkE] at h
    split at h
    · rename_i g p xs pos
      simp only [Bool.and_eq_true, decide_eq_true_eq, Bool.not_eq_true'] at h
      obtain ⟨⟨⟨h0, h1⟩, h2⟩, h3⟩ := h
      obtain ⟨n, addr, fd, ps, hr, hm, hk, hb, F⟩ := ok.fns f g h0
      have hx : Passes (L2.CX X.prog X.w) X L2.E0 := passL
      have hs := chks_star h3
      have pa := (ih.es h3 ok).1
      cases xs with
      | nil =>
        have := pe_call0 (p := p) (pos := pos) (dvs := []) F hr (ok.gl h1) hm hk hb .nil hx h2
        refine .val (PE.imp this fun σ H Q q => ?_) fun _ => rfl
        have q2 := s_call (XE := L2.E0) q
        -- no arguments
        cases es with
        | nil => exact s_nil q2
        | _ => simp [chkEs] at h3
      | cons y ys =>
        have := pe_call (p := p) (pos := pos) (dvs := []) F hr (ok.gl h1) hm hk hb .nil hx pa h2 (star_cons (hs y List.mem_cons_self)) (star_any fun u hu => hs u (List.mem_cons_of_mem _ hu))
        exact .val (PE.imp this fun σ H Q q => s_call q) fun _ => rfl
    · cases h
  | meth mt r es ihr ihs =>
    refine ⟨fun {cc X t} h ok => ?_, fun h => by simp [chkE] at h, fun h => by simp [chkEs] at h, fun h => by simp [chkO] at h, fun h => by simp [chkC] at h, fun h => by simp [chkW] at h⟩
    simp only [chkE] at h
    split at h
    · rename_i o name apos xs cpos
      simp only [Bool.and_eq_true, decide_eq_true_eq, Bool.not_eq_true'] at h
      obtain ⟨⟨⟨⟨⟨rfl, h1⟩, h2⟩, h3⟩, h4⟩, h5⟩ := h
      have hm := mt_all (X := X) ok.hu mt
      rw [ok.hK] at hm
      have hs := chks_star h5
      have key : ∀ {σ H Q}, tEv K cl (.meth mt r es) σ H Q → tBM K.K "list" (rM K.K mt) (tEv K cl r) (tAr K cl es) σ H Q := fun {σ H Q} q => by
        by_cases hi : mt = .index
        · subst hi; exact s_index q
        · exact s_meth hi q
      cases xs with
      | nil =>
        have := pe_bm0 (apos := apos) (cpos := cpos) PySem.F.plainAttrs_list (mt_slot mt) (mt_ty mt) hm (ihr.e h4 ok).e (base_of h1) h2
        rw [ok.hK] at this
        refine .val (PE.imp this fun σ H Q q => ?_) fun _ => rfl
        have q2 := key q
        cases es with
        | nil =>
          obtain ⟨S, e, fo, a, e', E, O, r, h⟩ := q2
          exact ⟨S, e, fo, a, e', E, O, r, fun S1 H1 fo1 w1 g1 st1 o1 E1 A1 => ⟨(h S1 H1 fo1 w1 g1 st1 o1 E1 A1).1, s_nil (h S1 H1 fo1 w1 g1 st1 o1 E1 A1).2⟩⟩
        | _ => simp [chkEs] at h5
      | cons y ys =>
        have := pe_bm (apos := apos) (cpos := cpos) PySem.F.plainAttrs_list (mt_slot mt) (mt_ty mt) hm (ihr.e h4 ok).e (ihs.es h5 ok).1 (base_of h1)
          (by
            rw [star_all hs]
            simp only [List.length_cons, List.length_nil, List.isEmpty_nil, if_true, Bool.true_and, Nat.add_zero] at h3 ⊢
            have : keywordEach [] X.env = [] := rfl
            rw [this]
            simp [backToKw]
            omega)
          h2 (star_cons (hs y List.mem_cons_self)) (star_any fun u hu => hs u (List.mem_cons_of_mem _ hu))
        rw [ok.hK] at this
        exact .val (PE.imp this fun σ H Q q => key q) fun _ => rfl
    · cases h
  | pm p r es ihr ihs =>
    refine ⟨fun {cc X t} h ok => ?_, fun h => by simp [chkE] at h, fun h => by simp [chkEs] at h, fun h => by simp [chkO] at h, fun h => by simp [chkC] at h, fun h => by simp [chkW] at h⟩
    simp only [chkE] at h
    split at h
    · rename_i o name apos y ys cpos
      simp only [Bool.and_eq_true, decide_eq_true_eq, Bool.not_eq_true'] at h
      obtain ⟨⟨⟨⟨⟨rfl, h1⟩, h2⟩, h3⟩, h4⟩, h5⟩ := h
      have hm := pm_all (X := X) ok.hu p
      rw [ok.hK] at hm
      have hs := chks_star h5
      have := pe_pm (apos := apos) (cpos := cpos) p.attrs p.slot p.mty hm (ihr.e h4 ok).e (ihs.es h5 ok).1 (base_of h1)
          (by
            rw [star_all hs]
            simp only [List.length_cons, List.length_nil, List.isEmpty_nil, if_true, Bool.true_and, Nat.add_zero] at h3 ⊢
            have : keywordEach [] X.env = [] := rfl
            rw [this]
            simp [backToKw]
            omega)
          h2 (star_cons (hs y List.mem_cons_self)) (star_any fun u hu => hs u (List.mem_cons_of_mem _ hu))
      rw [ok.hK] at this
      exact .val (PE.imp this fun σ H Q q => s_pm q) fun _ => rfl
    · cases h
  | comp m own tt it cd elt ihi ihc ihe =>
    refine ⟨fun {cc X t} h ok => ?_, fun h => by simp [chkE] at h, fun h => by simp [chkEs] at h, fun h => by simp [chkO] at h, fun h => by simp [chkC] at h, fun h => by simp [chkW] at h⟩
    simp only [chkE] at h
    split at h
    · rename_i el tg iter ifs a scope pos
      simp only [Bool.and_eq_true, decide_eq_true_eq, Bool.not_eq_true'] at h
      obtain ⟨⟨⟨⟨⟨⟨⟨rfl, h1⟩, h2⟩, h3⟩, h4⟩, h5⟩, h6⟩, h7⟩ := h
      have hbk : BlkOk X.N X.env.scope scope (ownP cc own) := by
        rw [ok.hN, ok.sc]; exact blkOk_by h2
      have := pe_lc (pos := pos) (own := ownP cc own) ok.calm (by rw [ok.hN]; exact ok.nd) (ihi.i h4 ok) hbk
        (fun s H C cs fp => (chkT_ok (ok.blk s H scope C cs fp) tt).1 tg h5) (fun s H C cs fp => ihc.c h6 (ok.blk s H scope C cs fp)) (fun s H C cs fp => (ihe.e h7 (ok.blk s H scope C cs fp)).e) (fun x => folded_ok h1)
      have e2 : (ownP cc own).map (·.2) = own := by
        unfold ownP
        rw [List.map_map]
        exact List.map_id own
      rw [e2] at this
      exact .val (PE.imp this fun σ H Q q => s_comp (fun j hj => by simpa using List.all_eq_true.mp h3 j hj) q) fun _ => rfl
    · cases h
  | anyg al own tt it elt ihi ihe =>
    refine ⟨fun {cc X t} h ok => ?_, fun h => by simp [chkE] at h, fun h => by simp [chkEs] at h, fun h => by simp [chkO] at h, fun h => by simp [chkC] at h, fun h => by simp [chkW] at h⟩
    simp only [chkE] at h
    split at h
    · rename_i f fp el tg iter a scope gp pos
      simp only [Bool.and_eq_true, decide_eq_true_eq, Bool.not_eq_true'] at h
      obtain ⟨⟨⟨⟨⟨⟨⟨⟨⟨⟨hf, hgl⟩, hgn⟩, rfl⟩, h1⟩, h2⟩, hsc⟩, h3⟩, h4⟩, h5⟩, h7⟩ := h
      have hbk : BlkOk X.N X.env.scope scope (ownP cc own) := by
        rw [ok.hN, ok.sc]; exact blkOk_by h2
      obtain ⟨hnc, h0, hco⟩ := genSc_by hsc
      obtain ⟨⟨c, P, hcode, TB, hP⟩, hr, _⟩ := ok.gen hgn
      have e2 : (ownP cc own).map (·.2) = own := by
        unfold ownP
        rw [List.map_map]
        exact List.map_id own
      subst hf
      cases al with
      | false =>
        have := pe_any (p := fp) (pos := pos) (gpos := gp) (own := ownP cc own) ok.calm (by rw [ok.hN]; exact ok.nd) hr (ok.gl hgl) (ok.mg _ (by decide)) TB hcode (ihi.i h4 ok) hbk hnc h0 hco
          (fun s H ce fp pn hs => (chkT_ok (ok.gcx hgn s H ce fp pn hs) tt).1 tg h5) (fun s H ce fp pn hs => (ihe.e h7 (ok.gcx hgn s H ce fp pn hs)).e) (fun x => gfold_ok h1)
        rw [e2] at this
        exact .val (PE.imp this fun σ H Q q => s_any hP (fun j hj => by simpa using List.all_eq_true.mp h3 j hj) q) fun _ => rfl
      | true =>
        have := pe_all (p := fp) (pos := pos) (gpos := gp) (own := ownP cc own) ok.calm (by rw [ok.hN]; exact ok.nd) hr (ok.gl hgl) (ok.mg _ (by decide)) TB hcode (ihi.i h4 ok) hbk hnc h0 hco
          (fun s H ce fp pn hs => (chkT_ok (ok.gcx hgn s H ce fp pn hs) tt).1 tg h5) (fun s H ce fp pn hs => (ihe.e h7 (ok.gcx hgn s H ce fp pn hs)).e) (fun x => gfold_ok h1)
        rw [e2] at this
        exact .val (PE.imp this fun σ H Q q => s_any hP (fun j hj => by simpa using List.all_eq_true.mp h3 j hj) q) fun _ => rfl
    · cases h
  | kcomp m own tt it cd elt ihi ihc ihe =>
    refine ⟨fun {cc X t} h ok => ?_, fun h => by simp [chkE] at h, fun h => by simp [chkEs] at h, fun h => by simp [chkO] at h, fun h => by simp [chkC] at h, fun h => by simp [chkW] at h⟩
    simp only [chkE] at h
    split at h
    · rename_i el tg iter ifs a scope pos
      simp only [Bool.and_eq_true, decide_eq_true_eq, Bool.not_eq_true'] at h
      obtain ⟨⟨⟨⟨⟨⟨⟨rfl, h1⟩, h2⟩, h3⟩, h4⟩, h5⟩, h6⟩, h7⟩ := h
      have hbk : BlkOk X.N X.env.scope scope (ownP cc own) := by
        rw [ok.hN, ok.sc]; exact blkOk_by h2
      have := pe_lc (pos := pos) (own := ownP cc own) ok.calm (by rw [ok.hN]; exact ok.nd) (pi_list (tg := tg) (ihi.e h4 ok).e) hbk
        (fun s H C cs fp => (chkT_ok (ok.blk s H scope C cs fp) tt).1 tg h5) (fun s H C cs fp => ihc.c h6 (ok.blk s H scope C cs fp)) (fun s H C cs fp => (ihe.e h7 (ok.blk s H scope C cs fp)).e) (fun x => folded_ok h1)
      have e2 : (ownP cc own).map (·.2) = own := by
        unfold ownP
        rw [List.map_map]
        exact List.map_id own
      rw [e2] at this
      rw [ok.hK] at this
      exact .val (PE.imp this fun σ H Q q => s_kcomp (fun j hj => by simpa using List.all_eq_true.mp h3 j hj) q) fun _ => rfl
    · cases h
  | rng es ih =>
    refine ⟨fun h => by simp [chkE] at h, fun h => by simp [chkE] at h, fun h => by simp [chkEs] at h, fun h => by simp [chkO] at h, fun h => by simp [chkC] at h, fun {cc X tg t} h ok => ?_⟩
    simp only [chkW] at h
    split at h
    · rename_i f p xs pos
      simp only [Bool.and_eq_true, decide_eq_true_eq] at h
      obtain ⟨⟨rfl, h1⟩, h2⟩ := h
      obtain ⟨pa, hl⟩ := ih.es h2 ok
      have hs := chks_star h2
      have hg := ok.gl h1
      have hm := ok.mg "range" (by decide)
      match xs, hl, pa, hs with
      | [], hl, pa, hs =>
        have hl : 0 = elen es := hl
        refine ⟨fun pins s σ H R I q => ?_⟩
        rcases w_rng q with ⟨q1, _⟩ | ⟨q1, _⟩ | ⟨q1, _⟩ <;> omega
      | [x1], hl, pa, hs =>
        have hl : 1 = elen es := hl
        refine PI.imp (pi_range1 hg hm pa (star_cons (hs x1 (by simp)))) fun σ H R q => ?_
        rcases w_rng q with ⟨q1, q2⟩ | ⟨q1, q2⟩ | ⟨q1, q2⟩
        · exact q2
        · omega
        · omega
      | [x1, x2], hl, pa, hs =>
        have hl : 2 = elen es := hl
        have s2 : starEach [x2] X.env = [(false, eval x2 X.env)] := star_cons (hs x2 (by simp))
        refine PI.imp (pi_range2 hg hm pa (by rw [star_cons (hs x1 (by simp)), s2]) s2) fun σ H R q => ?_
        rcases w_rng q with ⟨q1, q2⟩ | ⟨q1, q2⟩ | ⟨q1, q2⟩
        · omega
        · exact q2
        · omega
      | [x1, x2, x3], hl, pa, hs =>
        have hl : 3 = elen es := hl
        refine PI.imp (pi_range3 hg hm pa (star_cons (hs x1 (by simp))) (star_any fun u hu => hs u (List.mem_cons_of_mem _ hu))) fun σ H R q => ?_
        rcases w_rng q with ⟨q1, q2⟩ | ⟨q1, q2⟩ | ⟨q1, q2⟩
        · omega
        · omega
        · exact q2
      | x1 :: x2 :: x3 :: x4 :: xs, hl, pa, hs =>
        have hl : xs.length + 4 = elen es := hl
        refine ⟨fun pins s σ H R I q => ?_⟩
        rcases w_rng q with ⟨q1, _⟩ | ⟨q1, _⟩ | ⟨q1, _⟩ <;> omega
    · cases h
  | enum a iha =>
    refine ⟨fun h => by simp [chkE] at h, fun h => by simp [chkE] at h, fun h => by simp [chkEs] at h, fun h => by simp [chkO] at h, fun h => by simp [chkC] at h, fun {cc X tg t} h ok => ?_⟩
    simp only [chkW] at h
    split at h
    · rename_i f p x1 pos
      simp only [Bool.and_eq_true, decide_eq_true_eq] at h
      obtain ⟨⟨⟨rfl, h1⟩, h2⟩, h3⟩ := h
      have sx := chk_star h3
      cases tg <;> first | cases h2 | skip
      rename_i ts kk tp
      have := pi_enumA (p := p) (pos := pos) (tpos := tp) (elts := ts) (kk := kk) (ok.gl h1) (ok.mg "enumerate" (by decide)) (pa1 (iha.e h3 ok).e sx) (star_cons sx)
      rw [ok.hK] at this
      exact PI.imp this fun σ H R q => w_enum q
    · cases h
  | zip a b iha ihb =>
    refine ⟨fun h => by simp [chkE] at h, fun h => by simp [chkE] at h, fun h => by simp [chkEs] at h, fun h => by simp [chkO] at h, fun h => by simp [chkC] at h, fun {cc X tg t} h ok => ?_⟩
    simp only [chkW] at h
    split at h
    · rename_i f p x1 x2 pos
      simp only [Bool.and_eq_true, decide_eq_true_eq] at h
      obtain ⟨⟨⟨⟨rfl, h1⟩, h2⟩, h3⟩, h4⟩ := h
      have sx := chk_star h3
      have sy := chk_star h4
      cases tg <;> first | cases h2 | skip
      rename_i ts kk tp
      have := RZ.pi_zipA (p := p) (pos := pos) (tpos := tp) (elts := ts) (kk := kk) (ok.gl h1) (ok.mg "zip" (by decide)) (pa_cons (iha.e h3 ok).e (pa1 (ihb.e h4 ok).e sy) (star_cons sx)) (star_cons sx) (star_any fun u hu => by
        have : u = x2 := by simpa using hu
        rw [this]; exact sy)
      rw [ok.hK] at this
      exact PI.imp this fun σ H R q => w_zip q
    · cases h
  | rev a iha =>
    refine ⟨fun h => by simp [chkE] at h, fun h => by simp [chkE] at h, fun h => by simp [chkEs] at h, fun h => by simp [chkO] at h, fun h => by simp [chkC] at h, fun {cc X tg t} h ok => ?_⟩
    simp only [chkW] at h
    split at h
    · rename_i f p x1 pos
      simp only [Bool.and_eq_true, decide_eq_true_eq] at h
      obtain ⟨⟨rfl, h1⟩, h3⟩ := h
      have := RT.pi_revA (tg := tg) (p := p) (pos := pos) (ok.gl h1) (ok.mg "reversed" (by decide)) (iha.e h3 ok).e (star_cons (chk_star h3))
      rw [ok.hK] at this
      exact PI.imp this fun σ H R q => w_rev q
    · cases h
  | wk k a iha =>
    refine ⟨fun h => by simp [chkE] at h, fun h => by simp [chkE] at h, fun h => by simp [chkEs] at h, fun h => by simp [chkO] at h, fun h => by simp [chkC] at h, fun {cc X tg t} h ok => ?_⟩
    simp only [chkW] at h
    split at h
    · exact PI.imp (pi_dictF (tg := tg) (iha.e h ok).e) fun σ H R q => w_wk q
    · simp only [Bool.and_eq_true, decide_eq_true_eq, Bool.not_eq_true'] at h
      obtain ⟨⟨⟨rfl, h1⟩, h2⟩, h3⟩ := h
      exact PI.imp (pi_keysF (tg := tg) (iha.e h3 ok).e (base_of h1) h2) fun σ H R q => w_wk q
    · simp only [Bool.and_eq_true, decide_eq_true_eq, Bool.not_eq_true'] at h
      obtain ⟨⟨⟨rfl, h1⟩, h2⟩, h3⟩ := h
      exact PI.imp (pi_valuesF (tg := tg) (iha.e h3 ok).e (base_of h1) h2) fun σ H R q => w_wk q
    · simp only [Bool.and_eq_true, decide_eq_true_eq, Bool.not_eq_true'] at h
      obtain ⟨⟨⟨⟨rfl, h1⟩, h2⟩, h4⟩, h3⟩ := h
      cases tg <;> first | cases h4 | skip
      rename_i ts kk tp
      exact PI.imp (pi_itemsF (elts := ts) (kk := kk) (tpos := tp) (iha.e h3 ok).e (base_of h1) h2) fun σ H R q => w_wk q
    · cases h
end
end Sh

/-! ShR: what statements do -/
namespace Sh
open PySem PySem.Spec PyProof.Rows L2

/-! ### slots that are handed back -/
theorem asgT_pinned : ∀ (t : T), (∀ (v : MV) (e e' : En) (j : Nat), asgT t v e = some e' → (∃ m v, e[j]? = some (Slot.val true m v)) → j ∉ tIdx t) ∧ (∀ (m : Mk) (xs : List Val) (e e' : En) (j : Nat), asgTs t m xs e = some e' → (∃ m v, e[j]? = some (Slot.val true m v)) → j ∉ tIdxs t) := by
  intro t
  induction t with
  | nm i =>
    refine ⟨fun v e e' j h hj => ?_, fun m xs e e' j h _ => by simp [tIdxs]⟩
    simp only [asgT] at h
    split at h
    · cases h
    split at h
    · cases h
    · rename_i s hn ei
      obtain ⟨m, v, hj⟩ := hj
      simp only [tIdx, List.mem_singleton]
      intro q; subst q
      rw [ei] at hj; cases hj
      exact hn _ _ rfl
    · cases h
  | tp ts ih =>
    refine ⟨fun v e e' j h hj => ?_, fun m xs e e' j h _ => by simp [tIdxs]⟩
    simp only [asgT] at h
    split at h
    · split at h
      · cases h
      · exact ih.2 _ _ _ _ _ h hj
    · cases h
  | nil => exact ⟨fun v e e' j h => by simp [asgT] at h, fun m xs e e' j h _ => by simp [tIdxs]⟩
  | cons t ts ih1 ih2 =>
    refine ⟨fun v e e' j h => by simp [asgT] at h, fun m xs e e' j h hj => ?_⟩
    cases xs with
    | nil => simp [asgTs] at h
    | cons x xs =>
      simp only [asgTs] at h
      split at h
      · rename_i e1 h1
        simp only [tIdxs, List.mem_append, not_or]
        exact ⟨ih1.1 _ _ _ _ h1 hj, ih2.2 _ _ _ _ _ h ((asgT_pins t).1 _ _ _ h1 |>.1 j hj)⟩
      · cases h
theorem forL_hld {R : En → En → Prop} {t : T} {m : Mk} {b : En → Res Fl} (rf : ∀ e, R e e) (tr : ∀ {a b c}, R a b → R b c → R a c) (h2 : ∀ {v e e'}, asgT t v e = some e' → R e e') (hb : ∀ e, Hld R e (b e)) : ∀ (xs : List Val) (e : En), Hld R e (forL t m b xs e)
  | [], e => .ok (rf e)
  | x :: xs, e => by
    unfold forL
    split
    · exact .bad
    · rename_i e1 ha
      refine Hld.bind (fun a e' h => tr (h2 ha) (hb _ a e' h)) fun f e2 k => ?_
      cases f with
      | nx => exact .step tr k (forL_hld rf tr h2 hb xs e2)
      | ct => exact .step tr k (forL_hld rf tr h2 hb xs e2)
      | bk => exact .ok k
      | rt m v => exact .ok k
      | xc x => exact .ok k
theorem whilF_hld {R : En → En → Prop} {c : En → Res Bool} {b : En → Res Fl} (rf : ∀ e, R e e) (tr : ∀ {a b c}, R a b → R b c → R a c) (hc : ∀ e, Hld R e (c e)) (hb : ∀ e, Hld R e (b e)) : ∀ (n : Nat) (e : En), Hld R e (whilF c b n e)
  | 0, e => .bad
  | n + 1, e => by
    unfold whilF
    refine Hld.bind (hc e) fun k e1 k1 => ?_
    split
    · refine Hld.bind (.step tr k1 (hb e1)) fun f e2 k2 => ?_
      cases f with
      | nx => exact .step tr k2 (whilF_hld rf tr hc hb n e2)
      | ct => exact .step tr k2 (whilF_hld rf tr hc hb n e2)
      | bk => exact .ok k2
      | rt m v => exact .ok k2
      | xc x => exact .ok k2
    · exact .ok k1
section
variable {kt : Bool} {c : Calls}
theorem stoS_kp {k : Nat} {i : Val} {v : MV} {e e1 : En} (h : Kp e e1) : Hld Kp e (stoS kt k i v e1) := by
  unfold stoS
  split
  · rename_i ei
    split
    · refine .ok (h.trans (.set fun ⟨m2, v2, q⟩ => ?_))
      rw [ei] at q; cases q; exact ⟨_, _, rfl⟩
    · exact .bad
  · exact .bad
theorem passF_kp : ∀ {n : Nat} {as : List Arg} {fl : Bool} {e e1 : En} {ps : List (DA × Bk)}, passN fl (List.replicate n .frz) as e = .ok ps e1 → Kp e e1 ∧ ∀ p ∈ ps, p.1.pin = false ∧ p.2 = .no
  | 0, [], fl, e, e1, ps, h => by
    simp only [List.replicate_zero, passN] at h
    cases h
    exact ⟨.refl _, by simp⟩
  | 0, a :: as, fl, e, e1, ps, h => by simp [passN] at h
  | n + 1, [], fl, e, e1, ps, h => by simp [List.replicate_succ, passN] at h
  | n + 1, a :: as, fl, e, e1, ps, h => by
    simp only [List.replicate_succ, passN] at h
    split at h
    · cases h
    · obtain ⟨p, e2, r1, h⟩ := Res.bind_ok h
      obtain ⟨ps', e3, r2, h⟩ := Res.bind_ok h
      cases h
      obtain ⟨u, e4, r3, r4⟩ := Res.bind_ok (show ((frzA a e).bind fun v e => Res.ok (DA.mk false .st v, Bk.no) e) = .ok p e2 from r1)
      cases r4
      obtain ⟨k2, h2⟩ := passF_kp r2
      refine ⟨(frzA_kp r3).trans k2, fun q hq => ?_⟩
      rcases List.mem_cons.mp hq with rfl | hq
      · exact ⟨rfl, rfl⟩
      · exact h2 q hq
theorem excAt_kp {f n : Nat} {es : Sh.E} {e e1 : En} {x : Exc} (h : excAt kt c f n es e = some (x, e1)) : Kp e e1 := by
  unfold excAt at h
  split at h
  · rename_i as e2 h1
    split at h
    · rename_i ps e3 h2
      split at h
      · cases h
        exact ((ev_kp es).2.1 e _ _ h1).trans (passF_kp h2).1
      · cases h
    · cases h
  · cases h
theorem ex_kp (x : C) : ∀ e, Hld Kp e (ex kt c x e) := by
  have rf := Kp.refl
  have tr := @Kp.trans
  have hE : ∀ (x : Sh.E) {e e1 : En}, Kp e e1 → Hld Kp e (ev kt c x e1) := fun x e e1 h => .step tr h ((ev_kp x).1 e1)
  have hT : ∀ {a : Arg} {e e1 : En}, Kp e e1 → Hld Kp e (takeA a e1) := fun {a e e1} h => .step tr h fun r e' q => takeA_kp q
  have hB : ∀ {a : Arg} {e e1 : En}, Kp e e1 → Hld Kp e (asB a e1) := fun {a e e1} h => by
    unfold asB; split
    · exact .ok h
    · exact .bad
  induction x with
  | nil => exact fun e => .ok (rf e)
  | seq a b iha ihb =>
    intro e
    simp only [ex]
    refine .bind (iha e) fun f e1 k1 => ?_
    split
    · exact .step tr k1 (ihb e1)
    · exact .ok k1
  | asg t v =>
    intro e
    simp only [ex]
    refine .bind (hE v (rf e)) fun x e1 k1 => .bind (hT k1) fun v e2 k2 => ?_
    split
    · rename_i h; exact .ok (k2.trans (asgT_kp h))
    · exact .bad
  | sto a i v =>
    intro e
    cases a with
    | var k =>
      simp only [ex]
      refine .bind (hE v (rf e)) fun x e1 k1 => .bind (hT k1) fun v e2 k2 => ?_
      split
      · exact .bad
      · refine .bind (hE i k2) fun y e3 k3 => ?_
        split
        · exact stoS_kp k3
        · exact .bad
    | _ => exact .bad
  | aug i op v =>
    intro e
    simp only [ex]
    split
    · rename_i u ei
      intro f e3 h
      obtain ⟨y, e1, r1, h⟩ := Res.bind_ok h
      split at h
      · split at h
        · cases h
          have k1 := (ev_kp v).1 e y e1 r1
          refine ⟨fun j hj => ?_, by simpa using k1.len⟩
          have hj1 := k1.pins j hj
          by_cases q : i = j
          · subst q
            obtain ⟨m, w, hj⟩ := hj
            rw [ei] at hj; cases hj
          · rw [List.getElem?_set_ne q]; exact hj1
        · cases h
      · cases h
    · exact .bad
  | augS a i e2 op =>
    intro e
    cases a with
    | var k =>
      simp only [ex]
      split
      · exact .bad
      refine .bind (hE i (rf e)) fun y e1 k1 => ?_
      split
      · split
        · split
          · exact .bad
          · refine .bind (hE _ k1) fun z e3 k3 => ?_
            split
            · split
              · exact stoS_kp k3
              · exact .bad
            · exact .bad
        · exact .bad
      · exact .bad
    | _ => exact .bad
  | expr v => exact fun e => .bind (hE v (rf e)) fun _ e1 k1 => .ok k1
  | ret v => exact fun e => .bind (hE v (rf e)) fun x e1 k1 => .bind (hT k1) fun v e2 k2 => .ok k2
  | retN => exact fun e => .ok (rf e)
  | rse x => exact fun e => .ok (rf e)
  | tryc i f n es j ys xs =>
    intro e
    simp only [ex]
    split
    · rename_i x e1 hx
      split
      · exact .ok (excAt_kp hx)
      · exact .bad
    · refine .bind (hE (.call f (List.replicate n .frz) es) (rf e)) fun x e1 k1 => .bind (hT k1) fun v e2 k2 => ?_
      split
      · rename_i h; exact .ok (k2.trans (asgT_kp h))
      · exact .bad
  | iff t a b iha ihb =>
    intro e
    simp only [ex]
    refine .bind (hE t (rf e)) fun x e1 k1 => .bind (hB k1) fun k e2 k2 => ?_
    split
    · exact .step tr k2 (iha e2)
    · exact .step tr k2 (ihb e2)
  | forr t it b ih =>
    intro e
    simp only [ex]
    refine .bind ((ev_kp it).2.2.2.2 e) fun ms e1 k1 => .step tr k1 (forL_hld rf tr asgT_kp ih _ _)
  | whil t b ih =>
    intro e
    simp only [ex]
    exact whilF_hld rf tr (fun e => .bind (hE t (rf e)) fun x e1 k1 => hB k1) ih _ _
  | brk => exact fun e => .ok (rf e)
  | cnt => exact fun e => .ok (rf e)
  | pass => exact fun e => .ok (rf e)
end
/-! ### what comes behind a statement -/
/-- the slots that are handed back hold what they held -/
structure SameP (e : En) (σ σ' : Sl) : Prop where
  len : σ'.length = σ.length
  eq : ∀ (j : Nat), (∃ m v, e[j]? = some (Slot.val true m v)) → σ'[j]? = σ[j]?
theorem SameP.refl (e : En) (σ : Sl) : SameP e σ σ := ⟨rfl, fun _ _ => rfl⟩
theorem SameP.trans {e e1 : En} {a b c : Sl} (h : SameP e a b) (p : Pins e e1) (k : SameP e1 b c) : SameP e a c := ⟨k.len.trans h.len, fun j hj => (k.eq j (p j hj)).trans (h.eq j hj)⟩
section
variable (K : KK) (c : Calls) (W : WX)
def KN (S : AS) (H : Hp) (fo : List Addr) (e : En) (σ : Sl) (e' : En) (D : Sl → Hp → Prop) : Prop :=
  ∀ S' H' fo' σ', Step S H fo S' H' fo' → Ow K S' H' fo' → ES K S' H' e' σ' fo' → SameP e σ σ' → D σ' H'
def KX (S : AS) (H : Hp) (fo : List Addr) (e : En) (σ : Sl) : Fl → En → Ends → Prop
  | .nx, e', D => KN K S H fo e σ e' D.nx
  | .bk, e', D => KN K S H fo e σ e' D.bk
  | .ct, e', D => KN K S H fo e σ e' D.ct
  | .xc x, e', _ => KN K S H fo e σ e' fun σ' H' => ∀ C, PySem.W.nsIn K.K mainGlobals x = some (some (.ref C)) → W (.ref C) none σ' H'
  | .rt m v, e', D => ∀ S' H' fo' σ' w g, Step S H fo S' H' (fo' ++ g) → Ow K S' H' (fo' ++ g) → ES K S' H' e' σ' fo' → SameP e σ σ' → Rep K S' H' m v w g → D.rt w H'
def tEx (x : C) : TS := fun D σ H => ∃ S e fo f e', ES K S H e σ fo ∧ Ow K S H fo ∧ ex K.kt c x e = .ok f e' ∧ KX K W S H fo e σ f e' D
end
section
variable {K : KK} {c : Calls} {W : WX} {S S1 S' : AS} {H H1 : Hp} {e e1 e2 e' : En} {σ σ1 : Sl} {fo fo1 f g g1 g4 : List Addr} {w v : V} {ws vs : List V} {m : Mk} {D : Ends} {fl : Fl} {a b : C} {x y : Sh.E}
theorem KN.step {P : Sl → Hp → Prop} (h : KN K S H fo e σ e' P) (st : Step S H fo S1 H1 fo1) (sp : SameP e σ σ1) (p : Pins e e1) : KN K S1 H1 fo1 e1 σ1 e' P :=
  fun S' H' fo' σ' st' o' E' sp' => h S' H' fo' σ' (st.trans0 st') o' E' (sp.trans p sp')
theorem KX.step (h : KX K W S H fo e σ fl e' D) (st : Step S H fo S1 H1 fo1) (sp : SameP e σ σ1) (p : Pins e e1) : KX K W S1 H1 fo1 e1 σ1 fl e' D := by
  cases fl with
  | nx => exact KN.step h st sp p
  | bk => exact KN.step h st sp p
  | ct => exact KN.step h st sp p
  | xc x => exact KN.step h st sp p
  | rt m v => exact fun S' H' fo' σ' w g st' o' E' sp' R => h S' H' fo' σ' w g (st.trans0 st') o' E' (sp.trans p sp') R
theorem x_nil {σ : Sl} {H : Hp} (h : tEx K c W .nil D σ H) : tNext D σ H := by
  obtain ⟨S, e, fo, f, e', E, O, r, h⟩ := h
  cases r
  exact h S H fo σ .refl O E (.refl _ _)
theorem x_pass {σ : Sl} {H : Hp} (h : tEx K c W .pass D σ H) : tNext D σ H := by
  obtain ⟨S, e, fo, f, e', E, O, r, h⟩ := h
  cases r
  exact h S H fo σ .refl O E (.refl _ _)
theorem x_brk {σ : Sl} {H : Hp} (h : tEx K c W .brk D σ H) : tBreak D σ H := by
  obtain ⟨S, e, fo, f, e', E, O, r, h⟩ := h
  cases r
  exact h S H fo σ .refl O E (.refl _ _)
theorem x_cnt {σ : Sl} {H : Hp} (h : tEx K c W .cnt D σ H) : tCont D σ H := by
  obtain ⟨S, e, fo, f, e', E, O, r, h⟩ := h
  cases r
  exact h S H fo σ .refl O E (.refl _ _)
theorem x_retN {σ : Sl} {H : Hp} (h : tEx K c W .retN D σ H) : tRetN D σ H := by
  obtain ⟨S, e, fo, f, e', E, O, r, h⟩ := h
  cases r
  exact h S H fo σ .non [] (by rw [List.append_nil]; exact .refl) (by simpa using O) E (.refl _ _) Rep.non
theorem x_seq {σ : Sl} {H : Hp} (h : tEx K c W (.seq a b) D σ H) : tSeq (tEx K c W a) (tEx K c W b) D σ H := by
  obtain ⟨S, e, fo, f, e', E, O, r, h⟩ := h
  obtain ⟨f1, e1, r1, r⟩ := Res.bind_ok r
  refine ⟨S, e, fo, f1, e1, E, O, r1, ?_⟩
  cases f1 with
  | nx => exact fun S1 H1 fo1 σ1 st o E1 sp => ⟨S1, e1, fo1, f, e', E1, o, r, h.step st sp (ex_kp a e _ _ r1).pins⟩
  | bk => cases r; exact h
  | ct => cases r; exact h
  | xc x => cases r; exact h
  | rt m v => cases r; exact h
theorem hf_of {x : Arg} (E : ES K S H e σ fo) (A : ArgR K S H e σ x w g) : ∀ a ∈ fo ++ g, H a ≠ Option.none := fun a ha => (List.mem_append.mp ha).elim (fun z => (E.own a z).some) fun z => (A.own a z).some
theorem x_asg {t : T} {v : Sh.E} {σ : Sl} {H : Hp} (h : tEx K c W (.asg t v) D σ H) : tAsg (tEv K c v) (gT K t) D σ H := by
  obtain ⟨S, e, fo, f, e', E, O, r, h⟩ := h
  obtain ⟨x, e1, r1, r⟩ := Res.bind_ok r
  obtain ⟨mv, e2, r2, r⟩ := Res.bind_ok r
  split at r
  · rename_i e3 r3
    cases r
    refine ⟨S, e, fo, x, e1, E, O, r1, fun S1 H1 fo1 w1 g1 st1 o1 E1 A1 => ?_⟩
    obtain ⟨S2, fo2, g2, t2⟩ := takeA_snd r2 E1 o1 A1
    have hf := hf_of E1 A1
    refine ⟨S2, e2, fo2, mv, g2, _, t2.es, t2.ow o1 hf, .inl t2.rep, r3, fun S3 H3 fo3 σ3 st3 o3 E3 ag => ?_⟩
    refine h S3 H3 fo3 σ3 ((st1.full.trans0 (step_of hf t2.stab t2.new t2.mem)).trans0 st3) o3 E3 ⟨ag.len, fun j hj => ag.eq j ?_⟩
    exact (asgT_pinned t).1 _ _ _ j r3 ((takeA_kp r2).pins j (((ev_kp v).1 e _ _ r1).pins j hj))
  · cases r
theorem x_expr {v : Sh.E} {σ : Sl} {H : Hp} (h : tEx K c W (.expr v) D σ H) : tDrop (tEv K c v) D σ H := by
  obtain ⟨S, e, fo, f, e', E, O, r, h⟩ := h
  obtain ⟨x, e1, r1, r⟩ := Res.bind_ok r
  cases r
  refine ⟨S, e, fo, x, _, E, O, r1, fun S1 H1 fo1 w1 g1 st1 o1 E1 A1 => ?_⟩
  exact h S1 H1 fo1 σ st1.full0 o1.left E1 (.refl _ _)
theorem x_ret {v : Sh.E} {σ : Sl} {H : Hp} (h : tEx K c W (.ret v) D σ H) : tRet (tEv K c v) D σ H := by
  obtain ⟨S, e, fo, f, e', E, O, r, h⟩ := h
  obtain ⟨x, e1, r1, r⟩ := Res.bind_ok r
  obtain ⟨mv, e2, r2, r⟩ := Res.bind_ok r
  cases r
  refine ⟨S, e, fo, x, e1, E, O, r1, fun S1 H1 fo1 w1 g1 st1 o1 E1 A1 => ?_⟩
  obtain ⟨S2, fo2, g2, t2⟩ := takeA_snd r2 E1 o1 A1
  have hf := hf_of E1 A1
  exact h S2 H1 fo2 σ w1 g2 (st1.full.trans0 (step_of hf t2.stab t2.new t2.mem)) (t2.ow o1 hf) t2.es (.refl _ _) t2.rep
theorem x_iff {t : Sh.E} {σ : Sl} {H : Hp} (h : tEx K c W (.iff t a b) D σ H) : tIfS (tTst K c t) (tEx K c W a) (tEx K c W b) D σ H := by
  obtain ⟨S, e, fo, f, e', E, O, r, h⟩ := h
  obtain ⟨x, e1, r1, r⟩ := Res.bind_ok r
  obtain ⟨k, e2, r2, r⟩ := Res.bind_ok r
  refine ⟨S, e, fo, k, e2, E, O, by rw [r1]; exact r2, fun S1 H1 fo1 st1 o1 E1 => ?_⟩
  have pp : Pins e e2 := by
    obtain ⟨rfl, _⟩ := asB_ok r2
    exact ((ev_kp t).1 e _ _ r1).pins
  have h1 := h.step st1.full0 (.refl _ _) pp
  split at r
  · rename_i hk
    show (if k = true then _ else _)
    rw [if_pos hk]
    exact ⟨S1, e2, fo1, f, e', E1, o1, r, h1⟩
  · rename_i hk
    show (if k = true then _ else _)
    rw [if_neg hk]
    exact ⟨S1, e2, fo1, f, e', E1, o1, r, h1⟩
theorem x_forr {t : T} {it : Sh.E} {σ : Sl} {H : Hp} (h : tEx K c W (.forr t it b) D σ H) : tFor (tWlk K c it) (gT K t) (tEx K c W b) D σ H := by
  obtain ⟨S, e, fo, f, e', E, O, r, h⟩ := h
  obtain ⟨ms, e1, r1, r⟩ := Res.bind_ok r
  refine ⟨S, e, fo, ms, e1, E, O, r1, fun S1 H1 fo1 J st1 o1 E1 wk => ?_⟩
  obtain ⟨m1, xs⟩ := ms
  have wk : Walks K J m1 xs S1 H1 := wk
  have h1 := h.step st1 (.refl _ _) ((ev_kp it).2.2.2.2 e _ _ r1).pins
  refine ⟨fun i k σ2 H2 => k = xs.length - i ∧ i ≤ xs.length ∧ ∃ S2 fo2 e2, Step S1 H1 fo1 S2 H2 fo2 ∧ Ow K S2 H2 fo2 ∧ ES K S2 H2 e2 σ2 fo2 ∧ SameP e1 σ σ2 ∧ Pins e1 e2 ∧ forL t m1 (ex K.kt c b) (xs.drop i) e2 = .ok f e',
    ⟨xs.length, by simp, Nat.zero_le _, S1, fo1, e1, .refl, o1, E1, .refl _ _, .refl _, by simpa using r⟩, ?_⟩
  rintro i k σ2 H2 ⟨rfl, hi, S2, fo2, e2, st2, o2, E2, sp2, p2, r2⟩
  have keepF : ∀ {mk ys ws}, RS K S1 H1 mk ys ws [] → RS K S2 H2 mk ys ws [] := fun h => RS.step h st2 (by simp) o1.sd (by simp)
  obtain ⟨wgo, wstop⟩ := wk S2 H2 keepF st2.frzs i
  have h2 := h1.step st2 sp2 p2
  by_cases hlt : i < xs.length
  · right
    obtain ⟨x, hx⟩ : ∃ x, xs[i]? = some x := ⟨xs[i], List.getElem?_eq_getElem hlt⟩
    have hdrop : xs.drop i = x :: xs.drop (i + 1) := by
      rw [List.drop_eq_getElem_cons hlt]
      rw [List.getElem?_eq_getElem hlt] at hx
      cases hx; rfl
    obtain ⟨go, yld⟩ := wgo x hx
    rw [hdrop] at r2
    unfold forL at r2
    split at r2
    · cases r2
    · rename_i e3 ha
      obtain ⟨f1, e4, rb, r2⟩ := Res.bind_ok r2
      refine ⟨go, _, fun σ' H' hN => ⟨xs.length - (i + 1), by omega, rfl, hlt, hN⟩, fun xV H3 hy => ?_⟩
      obtain ⟨stY, RY⟩ := yld xV H3 hy
      have E2' : ES K S2 H3 e2 σ2 fo2 := E2.step stY (by simp) (by simp) o2.ds
      have o3 : Ow K S2 H3 fo2 := by
        have := Ow.step (fo := []) (g := fo2) o2 stY ⟨List.nodup_nil, by simp, stY.live o2.live⟩ fun x hx => (E2.own x hx).some
        rwa [List.append_nil] at this
      refine ⟨S2, e2, fo2, (m1, x), [], e3, E2', by rw [List.append_nil]; exact o3, RY, ha, fun S4 H4 fo4 σ4 st4 o4 E4 ag => ?_⟩
      rw [List.append_nil] at st4
      have s24 : Step S2 H2 fo2 S4 H4 fo4 := (stY.idle (fo := fo2)).trans0 st4
      have sp4 : SameP e2 σ2 σ4 := ⟨ag.len, fun j hj => ag.eq j ((asgT_pinned t).1 _ _ _ j ha hj)⟩
      have p23 : Pins e2 e3 := (asgT_kp ha).pins
      have p34 : Pins e3 e4 := (ex_kp b e3 _ _ rb).pins
      have h4 := h2.step s24 sp4 p23
      refine ⟨S4, e3, fo4, f1, e4, E4, o4, rb, ?_⟩
      have again : forL t m1 (ex K.kt c b) (xs.drop (i + 1)) e4 = .ok f e' → KN K S4 H4 fo4 e3 σ4 e4 fun σ' H' => i + 1 ≤ xs.length ∧ ∃ S2 fo2 e2, Step S1 H1 fo1 S2 H' fo2 ∧ Ow K S2 H' fo2 ∧ ES K S2 H' e2 σ' fo2 ∧ SameP e1 σ σ' ∧ Pins e1 e2 ∧ forL t m1 (ex K.kt c b) (xs.drop (i + 1)) e2 = .ok f e' := fun hr S5 H5 fo5 σ5 st5 o5 E5 sp5 =>
        ⟨hlt, S5, fo5, e4, (st2.trans0 s24).trans0 st5, o5, E5, (sp2.trans p2 sp4).trans (p2.trans p23) sp5, (p2.trans p23).trans p34, hr⟩
      cases f1 with
      | nx => exact fun S5 H5 fo5 σ5 st5 o5 E5 sp5 => (again r2 S5 H5 fo5 σ5 st5 o5 E5 sp5).2
      | ct => exact fun S5 H5 fo5 σ5 st5 o5 E5 sp5 => (again r2 S5 H5 fo5 σ5 st5 o5 E5 sp5).2
      | bk => cases r2; exact h4
      | xc x => cases r2; exact h4
      | rt m v => cases r2; exact h4
  · left
    have : i = xs.length := by omega
    subst this
    rw [List.drop_length] at r2
    cases r2
    exact ⟨wstop (Nat.le_refl _), h2 S2 H2 fo2 σ2 .refl o2 E2 (.refl _ _)⟩
theorem x_whil {t : Sh.E} {σ : Sl} {H : Hp} (h : tEx K c W (.whil t b) D σ H) : tWhile (tTst K c t) (tEx K c W b) D σ H := by
  obtain ⟨S1, e1, fo1, f, e', E1, o1, r, h1⟩ := h
  simp only [ex] at r
  generalize wFuel = n at r
  refine ⟨fun k σ2 H2 => ∃ S2 fo2 e2, Step S1 H fo1 S2 H2 fo2 ∧ Ow K S2 H2 fo2 ∧ ES K S2 H2 e2 σ2 fo2 ∧ SameP e1 σ σ2 ∧ Pins e1 e2 ∧ whilF (fun e => (ev K.kt c t e).bind fun x e => asB x e) (ex K.kt c b) k e2 = .ok f e',
    ⟨n, S1, fo1, e1, .refl, o1, E1, .refl _ _, .refl _, r⟩, ?_⟩
  rintro k σ2 H2 ⟨S2, fo2, e2, st2, o2, E2, sp2, p2, r2⟩
  cases k with
  | zero => cases r2
  | succ k =>
    have h2 := h1.step st2 sp2 p2
    unfold whilF at r2
    obtain ⟨q, e3, rc, r2⟩ := Res.bind_ok r2
    refine ⟨S2, e2, fo2, q, e3, E2, o2, rc, fun S3 H3 fo3 st3 o3 E3 => ?_⟩
    have p23 : Pins e2 e3 := by
      obtain ⟨x, e4, r4, r5⟩ := Res.bind_ok rc
      obtain ⟨rfl, _⟩ := asB_ok r5
      exact ((ev_kp t).1 e2 _ _ r4).pins
    have h3 := h2.step st3.full0 (.refl _ _) p23
    cases q with
    | true =>
      show (if true = true then _ else _)
      rw [if_pos rfl]
      have r2 := r2
      obtain ⟨f1, e4, rb, r2⟩ := Res.bind_ok r2
      have p34 : Pins e3 e4 := (ex_kp b e3 _ _ rb).pins
      refine ⟨fun σ' H' => ∃ S2 fo2 e2, Step S1 H fo1 S2 H' fo2 ∧ Ow K S2 H' fo2 ∧ ES K S2 H' e2 σ' fo2 ∧ SameP e1 σ σ' ∧ Pins e1 e2 ∧ whilF (fun e => (ev K.kt c t e).bind fun x e => asB x e) (ex K.kt c b) k e2 = .ok f e', fun σ' H' hN => ⟨k, by omega, hN⟩, S3, e3, fo3, f1, e4, E3, o3, rb, ?_⟩
      cases f1 with
      | nx => exact fun S5 H5 fo5 σ5 st5 o5 E5 sp5 => ⟨S5, fo5, e4, (st2.trans0 st3.full0).trans0 st5, o5, E5, sp2.trans (p2.trans p23) sp5, (p2.trans p23).trans p34, r2⟩
      | ct => exact fun S5 H5 fo5 σ5 st5 o5 E5 sp5 => ⟨S5, fo5, e4, (st2.trans0 st3.full0).trans0 st5, o5, E5, sp2.trans (p2.trans p23) sp5, (p2.trans p23).trans p34, r2⟩
      | bk => cases r2; exact h3
      | xc x => cases r2; exact h3
      | rt m v => cases r2; exact h3
    | false =>
      show (if false = true then _ else _)
      rw [if_neg (by simp)]
      cases r2
      exact h3 S3 H3 fo3 σ2 .refl o3 E3 (.refl _ _)
end
end Sh

/-! ShS: stores into lists and dicts, op=, pairs -/
namespace Sh
open PySem PySem.Spec PyProof.Rows L2
section
variable {K : KK} {c : Calls} {W : WX} {S S1 S' : AS} {H H1 : Hp} {e e1 e2 e' : En} {σ σ1 : Sl} {fo fo1 f g g1 g4 : List Addr} {w v : V} {ws vs : List V} {m M : Mk} {D : Ends} {xs : List Val}
/-- what is ours is written at its address -/
theorem wr_own {i : Nat} {p : Bool} {v0 : Val} (E : ES K S H e σ fo) (ei : e[i]? = some (.val p M v0)) (o : Ow K S H (fo ++ g4)) (hg4 : ∀ a ∈ g4, H a ≠ Option.none)
    (hR : ∀ {w f}, Rep K S H M v0 w f → ∃ a g, w = .ref a ∧ f = a :: g ∧ Own (H a)) :
    ∃ a g, σ[i]? = some (some (.ref a)) ∧ Rep K S H M v0 (.ref a) (a :: g) ∧ (g ++ g4).Nodup ∧ ∀ {o' : HO} {v' gY mr vr wr gr},
      ((∀ {mk xs ws f}, (∀ x ∈ f, x ∈ g ++ g4) → RS K S H mk xs ws f → RS K S (upd H a o') mk xs ws f) → Rep K S (upd H a o') M v' (.ref a) (a :: gY)) → Rep K S H mr vr wr gr → (gY ++ gr).Nodup → (∀ x ∈ gY ++ gr, x ∈ g ++ g4) →
      ∃ fo', Step S H (fo ++ g4) S (upd H a o') (fo' ++ gr) ∧ Ow K S (upd H a o') (fo' ++ gr) ∧ ES K S (upd H a o') (e.set i (.val p M v')) σ fo' ∧ Rep K S (upd H a o') mr vr wr gr := by
  obtain ⟨w, fl, fp, fr, hw, rfl, R, put, _⟩ := E.get ei
  obtain ⟨a, g, rfl, rfl, ha⟩ := hR R
  have pm : ((fl ++ ((a :: g) ++ fr)) ++ g4).Perm (a :: ((fl ++ fr) ++ (g ++ g4))) := by
    have h1 : (fl ++ ((a :: g) ++ fr)).Perm (a :: (g ++ (fl ++ fr))) := by
      have : (fl ++ ((a :: g) ++ fr)).Perm ((a :: g) ++ (fl ++ fr)) := by
        rw [← List.append_assoc, ← List.append_assoc]; exact List.perm_append_comm.append_right _
      simpa using this
    refine (h1.append_right g4).trans ?_
    simp only [List.cons_append]
    refine List.Perm.cons a ?_
    have : ((g ++ (fl ++ fr)) ++ g4).Perm (((fl ++ fr) ++ g) ++ g4) := (List.perm_append_comm).append_right g4
    simpa only [List.append_assoc] using this
  have ndA := pm.nodup_iff.mp o.nd
  obtain ⟨na, nd1⟩ := List.nodup_cons.mp ndA
  obtain ⟨nlr, ngg, dj⟩ := List.nodup_append.mp nd1
  refine ⟨a, g, hw, R, ngg, fun {o' v' gY mr vr wr gr} RY Rr nd sub => ?_⟩
  have dsA : ∀ x, S x → x ∉ [a] := fun x s hx => by
    have : x = a := by simpa using hx
    subst this
    exact o.ds x (pm.mem_iff.mpr List.mem_cons_self) s
  have sW : Step S H [a] S (upd H a o') [a] := Step.write (by simp) ha
  have nx : ∀ x ∈ (fl ++ fr) ++ (g ++ g4), x ∉ [a] := fun x hx h => by
    have : x = a := by simpa using h
    subst this; exact na hx
  have hds : ∀ x ∈ (fl ++ fr) ++ (g ++ g4), ¬ S x := fun x hx => o.ds x (pm.mem_iff.mpr (List.mem_cons_of_mem _ hx))
  have RY' := RY fun hf r => RS.step r sW (fun x hx => nx x (List.mem_append_right _ (hf x hx))) dsA fun x hx => hds x (List.mem_append_right _ (hf x hx))
  have Rr' : Rep K S (upd H a o') mr vr wr gr := RS.step Rr sW (fun x hx => nx x (List.mem_append_right _ (sub x (List.mem_append_right _ hx)))) dsA fun x hx => hds x (List.mem_append_right _ (sub x (List.mem_append_right _ hx)))
  have EN := put (p' := p) RY' fun {m2 ys2 ws2 g2} hg R2 => RS.step R2 sW (fun x hx => nx x (List.mem_append_left _ (hg x hx))) dsA fun x hx => hds x (List.mem_append_left _ (hg x hx))
  rw [set_self hw] at EN
  have pm2 : ((fl ++ ((a :: gY) ++ fr)) ++ gr).Perm (a :: ((fl ++ fr) ++ (gY ++ gr))) := by
    have h1 : (fl ++ ((a :: gY) ++ fr)).Perm (a :: (gY ++ (fl ++ fr))) := by
      have : (fl ++ ((a :: gY) ++ fr)).Perm ((a :: gY) ++ (fl ++ fr)) := by
        rw [← List.append_assoc, ← List.append_assoc]; exact List.perm_append_comm.append_right _
      simpa using this
    refine (h1.append_right gr).trans ?_
    simp only [List.cons_append]
    refine List.Perm.cons a ?_
    have : ((gY ++ (fl ++ fr)) ++ gr).Perm (((fl ++ fr) ++ gY) ++ gr) := (List.perm_append_comm).append_right gr
    simpa only [List.append_assoc] using this
  have mem : ∀ x ∈ (fl ++ ((a :: gY) ++ fr)) ++ gr, x ∈ (fl ++ ((a :: g) ++ fr)) ++ g4 := fun x hx => by
    refine pm.mem_iff.mpr ?_
    rcases List.mem_cons.mp (pm2.mem_iff.mp hx) with rfl | h
    · exact List.mem_cons_self
    · refine List.mem_cons_of_mem _ ?_
      rcases List.mem_append.mp h with h | h
      · exact List.mem_append_left _ h
      · exact List.mem_append_right _ (sub x h)
  have sF : Step S H ((fl ++ ((a :: g) ++ fr)) ++ g4) S (upd H a o') ((fl ++ ((a :: g) ++ fr)) ++ g4) := Step.write (pm.mem_iff.mpr List.mem_cons_self) ha
  refine ⟨fl ++ ((a :: gY) ++ fr), sF.perm mem, ⟨pm2.nodup_iff.mpr (List.nodup_cons.mpr ⟨fun h => na ?_, List.nodup_append.mpr ⟨nlr, nd, fun x hx y hy => dj x hx y (sub y hy)⟩⟩), fun x hx => o.ds x (mem x hx), sF.live o.live⟩, EN, Rr'⟩
  rcases List.mem_append.mp h with h | h
  · exact List.mem_append_left _ h
  · exact List.mem_append_right _ (sub _ h)
def rSto : TSet := fun o i v H Q => rSetL o i v H Q ∨ rSetD o i v H Q
theorem set_all {X : Cx} (hu : X.A.units + 1 < cLine) : PSet X rSto := fun pins s σ H o i v ov iv u Q I ro ri rv h => by
  rcases h with h | h
  · exact set_list pins s σ H o i v ov iv u Q I ro ri rv h
  · exact set_dict hu pins s σ H o i v ov iv u Q I ro ri rv h
theorem put_any {κ : Type} [DecidableEq κ] {k : κ} : ∀ {kvs : List (κ × Val)} {ws : List V}, ws.length = kvs.length → (((kvs.map (·.1)).zip ws).any fun p => decide (p.1 = k)) = kvs.any fun p => decide (p.1 = k)
  | [], ws, h => by simp
  | p :: kvs, [], h => by simp at h
  | p :: kvs, w :: ws, h => by
    simp only [List.map_cons, List.zip_cons_cons, List.any_cons]
    rw [put_any (by simpa using h)]
theorem put_map {κ : Type} [DecidableEq κ] {k : κ} {y : Val} (Ry : Rep K S H .st y w []) : ∀ {kvs : List (κ × Val)} {ws : List V}, RS K S H .st (kvs.map (·.2)) ws [] →
    ∃ ws', RS K S H .st ((kvs.map fun p => if p.1 = k then (p.1, y) else p).map (·.2)) ws' [] ∧ ((kvs.map (·.1)).zip ws).map (fun kv => if kv.1 = k then (kv.1, w) else kv) = ((kvs.map fun p => if p.1 = k then (p.1, y) else p).map (·.1)).zip ws'
  | [], ws, h => ⟨[], by simpa using RS.nil (K := K) (S := S) (H := H) .st, by simp⟩
  | p :: kvs, ws, h => by
    obtain ⟨w0, ws0, fp, fr, rfl, e0, h1, h2⟩ := RS.uncons h
    obtain ⟨rfl, rfl⟩ := List.append_eq_nil_iff.mp e0.symm
    obtain ⟨ws', h3, h4⟩ := put_map Ry h2
    by_cases hk : p.1 = k
    · refine ⟨w :: ws', ?_, ?_⟩
      · simp only [List.map_cons, if_pos hk]
        exact RS.cons (mk := .st) Ry h3
      · simp only [List.map_cons, List.zip_cons_cons, if_pos hk]
        rw [h4]
    · refine ⟨w0 :: ws', ?_, ?_⟩
      · simp only [List.map_cons, if_neg hk]
        exact RS.cons (mk := .st) h1 h3
      · simp only [List.map_cons, List.zip_cons_cons, if_neg hk]
        rw [h4]
theorem put_snd {κ : Type} [DecidableEq κ] {k : κ} {y : Val} (Ry : Rep K S H .st y w []) {kvs : List (κ × Val)} {ws : List V} (h : RS K S H .st (kvs.map (·.2)) ws []) :
    ∃ ws', RS K S H .st ((putD kvs k y).map (·.2)) ws' [] ∧ putK ((kvs.map (·.1)).zip ws) k w = ((putD kvs k y).map (·.1)).zip ws' := by
  have hl : ws.length = kvs.length := by have := h.length; simpa using this
  unfold putD putK
  rw [put_any hl]
  split
  · exact put_map Ry h
  · refine ⟨ws ++ [w], ?_, ?_⟩
    · rw [List.map_append]
      have := RS.cons (mk := .st) Ry (.nil _)
      exact RS.appendS h (by simpa using this)
    · rw [List.map_append, List.zip_append (by simpa using hl.symm)]
      rfl
theorem RS.l_st (h : RS K S H (.l .st) xs ws f) : RS K S H .st xs ws [] ∧ f = [] := by
  have h1 := h.ofL
  have e := h1.st_nil rfl
  subst e
  exact ⟨h1, rfl⟩
theorem set_snd {j : Nat} {y : Val} (Ry : Rep K S H m y w g1) (hnd : (f ++ g1).Nodup) : ∀ {xs : List Val} {ws : List V} {f : List Addr}, (f ++ g1).Nodup → RS K S H (.l m) xs ws f → j < xs.length → ∃ f', RS K S H (.l m) (xs.set j y) (ws.set j w) f' ∧ f'.Nodup ∧ ∀ x ∈ f', x ∈ f ++ g1 := fun {xs ws f} nd R hj => by
  have hx : xs = xs.take j ++ (xs[j] :: xs.drop (j + 1)) := by rw [← List.drop_eq_getElem_cons hj, List.take_append_drop]
  rw [hx] at R
  obtain ⟨ws1, ws2, f1, f2, rfl, rfl, R1, R2⟩ := RS.split R
  obtain ⟨w0, ws3, fp, fr, rfl, rfl, R3, R4⟩ := R2.uncons
  have l1 : ws1.length = j := by have := R1.length; rw [List.length_take] at this; omega
  refine ⟨f1 ++ (g1 ++ fr), ?_, ?_, fun x hx => ?_⟩
  · have e1 : xs.set j y = xs.take j ++ (y :: xs.drop (j + 1)) := List.set_eq_take_append_cons_drop .. |>.trans (by rw [if_pos hj])
    have e2 : (ws1 ++ w0 :: ws3).set j w = ws1 ++ w :: ws3 := by rw [← l1]; simp
    rw [e1, e2]
    exact R1.append (RS.cons (mk := .l m) Ry R4)
  · have sb : ((f1 ++ fr) ++ g1).Sublist ((f1 ++ (fp ++ fr)) ++ g1) := ((List.Sublist.refl f1).append (List.sublist_append_right fp fr)).append (List.Sublist.refl g1)
    have pm : ((f1 ++ fr) ++ g1).Perm (f1 ++ (g1 ++ fr)) := by
      rw [List.append_assoc]; exact List.Perm.append_left _ List.perm_append_comm
    exact pm.nodup_iff.mp (nd.sublist sb)
  · simp only [List.mem_append] at hx ⊢
    rcases hx with h | h | h
    · exact .inl (.inl h)
    · exact .inr h
    · exact .inl (.inr (.inr h))
theorem stoV_snd {k : Nat} {p : Bool} {w0 i w' : Val} {mv : MV} {mi : Mk} {iw vw : V} {fi : List Addr} {Q : Hp → Prop} (hs : stoV K.kt m w0 i mv = some w') (E : ES K S H e σ fo) (ek : e[k]? = some (.val p (.l m) w0)) (Ri : Rep K S H mi i iw fi) (Rv : Rep K S H mv.1 mv.2 vw g) (o : Ow K S H (fo ++ g))
    (h : ∀ S' H' fo', Step S H (fo ++ g) S' H' fo' → Ow K S' H' fo' → ES K S' H' (e.set k (.val p (.l m) w')) σ fo' → Q H') : ∃ a, σ[k]? = some (some (.ref a)) ∧ rSto (.ref a) iw vw H Q := by
  have hfo : ∀ a ∈ fo ++ g, H a ≠ Option.none := fun a ha => (List.mem_append.mp ha).elim (fun z => (E.own a z).some) fun z => (RS.own Rv a z).some
  unfold stoV at hs
  split at hs
  · cases hs
  · rename_i y hy
    obtain ⟨S3, g3, a1, a2, a3, R3⟩ := fit_snd hy Rv
    obtain ⟨st3, o3⟩ := grow_step o hfo a1 a2 a3
    have E3 : ES K S3 H e σ fo := E.keep fun _ q => q.growS a1
    have hg3 : ∀ a ∈ g3, H a ≠ Option.none := fun a ha => hfo a (List.mem_append_right _ (a2.subset ha))
    cases w0 with
    | lst xs =>
      cases i with
      | int i =>
        simp only [Option.map_eq_some_iff] at hs
        obtain ⟨j, hj, rfl⟩ := hs
        obtain ⟨rfl, _⟩ := Rep.inv_int Ri
        obtain ⟨a, g0, hσ, R0, nd0, wr⟩ := wr_own E3 ek o3 hg3 fun {w f} R => by
          rcases Rep.inv_lst R with ⟨m', a, ws0, g, hm, rfl, rfl, hl, r⟩ | ⟨a, ws, hm, _⟩
          · exact ⟨a, g, rfl, rfl, by rw [hl]; trivial⟩
          · cases hm
        rcases Rep.inv_lst R0 with ⟨m', a', ws0, g', hm, e1, e2, hl, R1⟩ | ⟨a, ws, hm, _⟩
        · cases hm; cases e1; cases e2
          have hjl : j < xs.length := by
            unfold L2.ixN at hj
            split at hj
            · split at hj <;> cases hj; omega
            · split at hj <;> cases hj; omega
          obtain ⟨gY, RY, ndY, mY⟩ := set_snd (f := g0) R3 nd0 nd0 R1 hjl
          obtain ⟨fo', st', o', E', _⟩ := wr (o' := .lst (ws0.set j vw)) (v' := .lst (xs.set j y)) (gY := gY) (mr := .st) (vr := .non) (wr := .non) (gr := []) (fun kp => Rep.lstO upd_same (kp mY RY)) Rep.non (by simpa using ndY) (by simpa using mY)
          rw [List.append_nil] at st' o'
          exact ⟨a, hσ, .inl ⟨a, ws0, i, j, rfl, rfl, hl, by rw [R1.length]; exact hj, h _ _ _ (st3.trans0 st') o' E'⟩⟩
        · cases hm
      | _ => cases hs
    | dk kvs =>
      simp only at hs
      split at hs
      · rename_i k' hk
        split at hs
        · rename_i hm
          cases hs
          obtain ⟨rfl, hl⟩ := hm
          have e0 : g3 = [] := R3.st_nil
          subst e0
          have hiw := keyOf_snd hk Ri
          obtain ⟨a, g0, hσ, R0, nd0, wr⟩ := wr_own E3 ek o3 hg3 fun {w f} R => by
            cases R with
            | dkO hm hl ek r rn => cases hm; cases rn; exact ⟨_, _, rfl, by rw [List.append_nil], by rw [hl]; trivial⟩
            | dkS hm => cases hm
          have key : ∃ ws0, H a = some (.dK ((kvs.map (·.1)).zip ws0)) ∧ RS K S3 H .st (kvs.map (·.2)) ws0 [] := by
            generalize hf : a :: g0 = f0 at R0
            cases R0 with
            | dkO hm hl ek r rn =>
              cases hm; subst ek
              exact ⟨_, hl, (RS.l_st r).1⟩
            | dkS hm => cases hm
          obtain ⟨ws0, hd, R1⟩ := key
          obtain ⟨ws', RY, hp⟩ := put_snd (k := k') R3 R1
          obtain ⟨fo', st', o', E', _⟩ := wr (o' := .dK (((putD kvs k' y).map (·.1)).zip ws')) (v' := .dk (putD kvs k' y)) (gY := []) (mr := .st) (vr := .non) (wr := .non) (gr := []) (fun kp => by
            have := RS.dkO (mk := .tc (.l .st) .tn) (S := S3) (ks := (putD kvs k' y).map (·.1)) rfl upd_same rfl (kp (by simp) RY.toL) (.nil _)
            simpa [Rep] using this) Rep.non (by simp) (by simp)
          simp only [List.append_nil] at st' o' st3
          have hl1 : ((kvs.map (·.1)).zip ws0).length < sizeLine := by
            have := R1.length
            simp only [List.length_map] at this
            rw [List.length_zip, List.length_map, this]; simpa using hl
          refine ⟨a, hσ, .inr ⟨a, _, rfl, ?_, h _ _ _ (st3.trans0 st') o' E'⟩⟩
          rw [hiw, ← hp]
          exact DPut.k hd hl1
        · cases hs
      · cases hs
    | _ => cases hs
theorem x_sto {k : Nat} {i x : Sh.E} {σ : Sl} {H : Hp} (h : tEx K c W (.sto (.var k) i x) D σ H) : tAsg (tEv K c x) (gSub (tVar k) (tEv K c i) rSto) D σ H := by
  obtain ⟨S, e, fo, f, e', E, O, r, h⟩ := h
  obtain ⟨a, e1, r1, r⟩ := Res.bind_ok r
  obtain ⟨mv, e2, r2, r⟩ := Res.bind_ok r
  split at r
  · cases r
  · rename_i hV
    obtain ⟨y, e3, r3, r⟩ := Res.bind_ok r
    split at r
    · rename_i iv hiv
      unfold stoS at r
      split at r
      · rename_i p m w0 ek
        split at r
        · rename_i w' hw'
          cases r
          refine ⟨S, e, fo, a, e1, E, O, r1, fun S1 H1 fo1 w1 g1 st1 o1 E1 A1 => ?_⟩
          obtain ⟨S2, fo2, g2, t2⟩ := takeA_snd r2 E1 o1 A1
          have hf := hf_of E1 A1
          have o2 := t2.ow o1 hf
          have s2 := st1.full.trans0 (step_of hf t2.stab t2.new t2.mem)
          obtain ⟨wk, hwk⟩ : ∃ wk, σ[k]? = some (some wk) := by
            unfold isV at hV
            split at hV
            · rename_i ei
              obtain ⟨w0, _, _, _, hw, _⟩ := t2.es.get ei
              exact ⟨w0, hw⟩
            · simp at hV
          refine ⟨wk, hwk, S2, e2, fo2, y, e3, t2.es, o2.left, r3, fun S3 H3 fo3 w3 g3 st3 o3 E3 A3 => ?_⟩
          have Rv : Rep K S3 H3 mv.1 mv.2 w1 g2 := RS.step t2.rep st3.full0 o2.ne' o2.left.sd o2.right.ds
          have oA : Ow K S3 H3 (fo3 ++ (g2 ++ g3)) := Ow.next o2 st3 o3 fun x hx => (RS.own t2.rep x hx).some
          have oB : Ow K S3 H3 (fo3 ++ g2) := oA.sub ((List.Sublist.refl _).append (List.sublist_append_left _ _))
          obtain ⟨fi, Ri⟩ := readA_snd hiv E3 A3
          have sA : Step S H fo S3 H3 (fo3 ++ g2) := (Step.trans s2 st3.full0).perm fun x hx => by
            rcases List.mem_append.mp hx with z | z
            · exact List.mem_append_right _ z
            · exact List.mem_append_left _ z
          obtain ⟨a', ha', q⟩ := stoV_snd (Q := D.nx σ) hw' E3 ek Ri Rv oB fun S4 H4 fo4 st4 o4 E4 => h S4 H4 fo4 σ (sA.trans0 st4) o4 E4 (.refl _ _)
          rw [hwk] at ha'; cases ha'
          exact q
        · cases r
      · cases r
    · cases r
end
end Sh

/-! ShT: the statements of the text -/
namespace Sh
open PySem PySem.Spec PyProof.Rows L2
theorem PS.imp {X : Cx} {s : Stmt} {t t' : TS} (h : PS X s t) (k : ∀ D σ H, t' D σ H → t D σ H) : PS X s t' := ⟨fun pins st σ H D I q => h.run pins st σ H D I (k D σ H q)⟩
theorem PSs.imp {X : Cx} {s : List Stmt} {t t' : TS} (h : PSs X s t) (k : ∀ D σ H, t' D σ H → t D σ H) : PSs X s t' := ⟨fun pins st σ H D I q => h.run pins st σ H D I (k D σ H q)⟩
/-! ### op= -/
def rAug : BOp → R2
  | .add => fun x y H Q => rI0 (fun i j => .int (i + j)) x y H Q ∨ ∃ i j, x = .str i ∧ y = .str j ∧ i.length + j.length ≤ sizeLine ∧ Q (.str (i ++ j)) H
  | .sub => rI0 fun i j => .int (i - j)
  | .mul => rI (fun i j => mulOk i j = true) fun i j => .int (i * j)
  | _ => fun _ _ _ _ => False
theorem iop_mulB {X : Cx} : OpR X (inplaceOp .Mult) (rI (fun i j => mulOk i j = true) fun i j => .int (i * j)) := opI fun i j _ _ _ _ _ hc q => by
  simp only [mulOk, Bool.or_eq_true] at hc
  rcases hc with (h | h) | h
  · exact imul_int q (CMul.ok (.inl (of_decide_eq_true h)))
  · exact imul_int q (CMul.ok (.inr (of_decide_eq_true h)))
  · refine imul_int q ?_
    have b : ∀ x : Int, Builtin.Int.intBits x ≤ x.natAbs.log2 + 1 := fun x => by
      unfold Builtin.Int.intBits
      split <;> omega
    have h1 := b i
    have h2 := b j
    have h3 := of_decide_eq_true h
    have e : bitsLine = 134217728 := by decide
    unfold IntMulOk
    intro z
    rw [Bool.and_eq_true] at z
    have z2 := z.2
    unfold Builtin.Int.intTooBig at z2
    have z3 := of_decide_eq_true z2
    rw [e] at z3
    omega
theorem iop_all {X : Cx} : ∀ op : BOp, PIp X op.py (rAug op)
  | .add => fun pins s σ H x y v u Q I rx ry h => iop_add.or iop_add_str pins s σ H x y v u Q I rx ry h
  | .sub => fun pins s σ H x y v u Q I rx ry h => iop_sub pins s σ H x y v u Q I rx ry h
  | .mul => fun pins s σ H x y v u Q I rx ry h => iop_mulB pins s σ H x y v u Q I rx ry h
  | .fdiv | .mod | .pow | .shl | .shr | .band | .bor | .bxor => fun _ _ _ _ _ _ _ _ _ _ _ _ h => h.elim
section
variable {K : KK} {c : Calls} {W : WX} {S : AS} {H : Hp} {D : Ends} {x y : V} {f1 f2 : List Addr} {u v w : Val} {m1 m2 : Mk} {Q : VK}
theorem augV_snd {op : BOp} (h : augV op u v = some w) (ru : Rep K S H m1 u x f1) (rv : Rep K S H m2 v y f2) (q : ∀ z, (∀ S H, Rep K S H .st w z []) → Q z H) : rAug op x y H Q := by
  unfold augV at h
  split at h
  · cases h
    obtain ⟨rfl, _⟩ := Rep.inv_int ru
    obtain ⟨rfl, _⟩ := Rep.inv_int rv
    exact .inl ⟨_, _, rfl, rfl, q _ fun _ _ => Rep.int⟩
  · cases h
    obtain ⟨rfl, _⟩ := Rep.inv_int ru
    obtain ⟨rfl, _⟩ := Rep.inv_int rv
    exact ⟨_, _, rfl, rfl, q _ fun _ _ => Rep.int⟩
  · split at h
    · rename_i hm
      cases h
      obtain ⟨rfl, _⟩ := Rep.inv_int ru
      obtain ⟨rfl, _⟩ := Rep.inv_int rv
      exact ⟨_, _, rfl, rfl, hm, q _ fun _ _ => Rep.int⟩
    · cases h
  · split at h
    · rename_i hm
      cases h
      obtain ⟨rfl, _⟩ := Rep.inv_str ru
      obtain ⟨rfl, _⟩ := Rep.inv_str rv
      exact .inr ⟨_, _, rfl, rfl, hm, q _ fun _ _ => Rep.str⟩
    · cases h
  · cases h
theorem x_aug {k : Nat} {op : BOp} {x : Sh.E} {σ : Sl} {H : Hp} (h : tEx K c W (.aug k op x) D σ H) : tAug k (tEv K c x) (rAug op) D σ H := by
  obtain ⟨S, e, fo, f, e', E, O, r, h⟩ := h
  simp only [ex] at r
  split at r
  · rename_i u ek
    obtain ⟨y, e1, r1, r⟩ := Res.bind_ok r
    split at r
    · rename_i v hv
      split at r
      · rename_i w hw
        cases r
        obtain ⟨xk, fl, fp, fr, hσ, rfl, Rk, _⟩ := E.get ek
        obtain rfl := Rk.st_nil
        refine ⟨xk, hσ, S, e, _, y, e1, E, O, r1, fun S1 H1 fo1 w1 g1 st1 o1 E1 A1 => ?_⟩
        have Rk' := RS.step Rk st1.full0 (by simp) O.sd (by simp)
        obtain ⟨f2, Rv⟩ := readA_snd hv E1 A1
        refine augV_snd hw Rk' Rv fun z Rz => ?_
        have hk : k < e1.length := by rw [((ev_kp x).1 e _ _ r1).len]; exact (List.getElem?_eq_some_iff.mp ek).1
        obtain ⟨gl, gr, sb, E2⟩ := E1.fill (p := false) hk (Rz S1 H1)
        rw [List.nil_append] at E2
        refine h S1 H1 _ _ (st1.full0.perm fun a ha => sb.subset ha) (o1.left.sub sb) E2 ⟨by simp, fun j hj => ?_⟩
        refine List.getElem?_set_ne fun q => ?_
        subst q
        obtain ⟨m, v, hj⟩ := hj
        rw [ek] at hj; cases hj
      · cases r
    · cases r
  · cases r
/-- a list's item, by values -/
theorem get_list {X : Cx} : PGet X (rIxL X.K) := by
  intro pins s σ H x y v u Q I rx ry h
  obtain ⟨p, xs, i, z, rfl, rfl, hq, he, q⟩ := h
  cases rx
  obtain ⟨t, rfl⟩ := ry
  obtain ⟨its, r, pl, hz⟩ := I.list hq
  obtain ⟨j, h1, h2, h3, h4, h5⟩ := atI_get he
  obtain ⟨w, ew, rw'⟩ := r.get h2
  have hl := r.length
  have hn := line63
  have fin : EP X pins σ Q w s := ⟨z, H, I, rw', q⟩
  by_cases h0 : 0 ≤ i
  · have hj : i.toNat = j := by
      rw [seqIndex_of h0 h5] at h1
      exact Option.some.inj h1
    exact wpAny_getItem_list pl.isList h0 (by omega) (by rw [hj]; simpa using ew) fin
  · have hj : (i + (its.toArray.size : Int)).toNat = j := by
      rw [seqIndex_neg (by omega) h4] at h1
      rw [List.size_toArray, ← hl]
      exact Option.some.inj h1
    exact wpAny_getItem_list_neg (Q := fun r s' => EP X pins σ Q r s') pl.isList (by omega) (by rw [List.size_toArray] <;> omega) (by omega) (by rw [hj]; simpa using ew) fin
theorem augV_l {op : BOp} {u v w : Val} (h : augV op u v = some w) : (∃ i, u = .int i) ∨ ∃ x, u = .str x := by
  unfold augV at h
  split at h <;> first | exact .inl ⟨_, rfl⟩ | exact .inr ⟨_, rfl⟩ | cases h
theorem x_augS {k : Nat} {op : BOp} {i x : Sh.E} {σ : Sl} {H : Hp} (h : tEx K c W (.augS (.var k) i op x) D σ H) : tAugS (tVar k) (tEv K c i) (tEv K c x) (rIxL K.K) (rAug op) rSto D σ H := by
  obtain ⟨S, e, fo, f, e', E, O, r, h⟩ := h
  simp only [ex] at r
  split at r
  · cases r
  rename_i hV
  obtain ⟨y, e1, r1, r⟩ := Res.bind_ok r
  obtain ⟨wk, hwk⟩ : ∃ wk, σ[k]? = some (some wk) := by
    unfold isV at hV
    split at hV
    · rename_i ei
      obtain ⟨w0, _, _, _, hw, _⟩ := E.get ei
      exact ⟨w0, hw⟩
    · simp at hV
  split at r
  · rename_i p m xs mi j ek hiv
    split at r
    · rename_i u hu
      split at r
      · cases r
      rename_i hq
      obtain ⟨z, e2, r2, r⟩ := Res.bind_ok r
      split at r
      · rename_i v hv
        split at r
        · rename_i rr hr
          unfold stoS at r
          split at r
          · rename_i p2 m2 w2 ek2
            split at r
            · rename_i w' hw'
              cases r
              refine ⟨wk, hwk, S, e, fo, y, e1, E, O, r1, fun S1 H1 fo1 w1 g1 st1 o1 E1 A1 => ?_⟩
              obtain ⟨fi, Ri⟩ := readA_snd hiv E1 A1
              obtain ⟨rfl, _⟩ := Rep.inv_int Ri
              obtain ⟨wk1, fl, fp, fr, hw1, _, R1, _⟩ := E1.get ek
              rw [hwk] at hw1; cases hw1
              obtain ⟨a, ws, gg, rfl, hSq, RR, _⟩ := R1.seqL
              obtain ⟨n, hn1, hn2⟩ : ∃ n, L2.ixN xs.length j = some n ∧ xs[n]? = some u := by
                have hu' : (L2.ixN xs.length j).bind (fun n => xs[n]?) = some u := hu
                obtain ⟨n, q1, q2⟩ := Option.bind_eq_some_iff.mp hu'
                exact ⟨n, q1, q2⟩
              obtain ⟨uw, fl2, fp2, fr2, hun, _, Ru, _⟩ := RR.get hn2
              have hat : L2.atI ws j = some uw := by
                show (L2.ixN ws.length j).bind (fun n => ws[n]?) = some uw
                rw [RR.length, hn1]; exact hun
              refine ⟨a, ws, j, uw, rfl, rfl, hSq, hat, ?_⟩
              have Ru' : ∀ S H, Rep K S H .st u uw [] := by
                rcases augV_l hr with ⟨i0, rfl⟩ | ⟨s0, rfl⟩
                · obtain ⟨rfl, _⟩ := Rep.inv_int Ru
                  exact fun _ _ => Rep.int
                · obtain ⟨rfl, _⟩ := Rep.inv_str Ru
                  exact fun _ _ => Rep.str
              have st1' := st1.nog.full0
              have o1' : Ow K S1 H1 fo1 := o1.left
              refine ⟨S1, e1, fo1, z, e2, E1, o1', r2, fun S2 H2 fo2 w2 g2 st2 o2 E2 A2 => ?_⟩
              obtain ⟨f2, Rv⟩ := readA_snd hv E2 A2
              refine augV_snd hr (Ru' S2 H2) Rv fun zz Rz => ?_
              have o2' : Ow K S2 H2 (fo2 ++ []) := by rw [List.append_nil]; exact o2.left
              have Rr : ∀ m3, Rep K S2 H2 m3 rr zz [] := fun m3 => by
                have q := Rz S2 H2
                have hr' := hr
                unfold augV at hr'
                split at hr'
                · cases hr'; obtain ⟨rfl, _⟩ := Rep.inv_int q; exact Rep.int
                · cases hr'; obtain ⟨rfl, _⟩ := Rep.inv_int q; exact Rep.int
                · split at hr'
                  · cases hr'; obtain ⟨rfl, _⟩ := Rep.inv_int q; exact Rep.int
                  · cases hr'
                · split at hr'
                  · cases hr'; obtain ⟨rfl, _⟩ := Rep.inv_str q; exact Rep.str
                  · cases hr'
                · cases hr'
              obtain ⟨a', ha', q⟩ := stoV_snd (Q := D.nx σ) (mi := .st) (iw := .int j) hw' E2 ek2 Rep.int (Rr _) o2' fun S4 H4 fo4 st4 o4 E4 => h S4 H4 fo4 σ ((st1'.trans0 st2.full0).trans0 (by rw [List.append_nil] at st4; exact st4)) o4 E4 (.refl _ _)
              rw [hwk] at ha'; cases ha'
              exact q
            · cases r
          · cases r
        · cases r
      · cases r
    · cases r
  · cases r
/-! ### pairs -/
theorem takeA_tmpE {m : Mk} {v : Val} {e e' : En} {mv : MV} (r : takeA (.tmp m v) e = .ok mv e') : mv = (m, v) ∧ e' = e := by cases r; exact ⟨rfl, rfl⟩
theorem x_tup {ts : T} {es : Sh.E} {σ : Sl} {H : Hp} (h : tEx K c W (.asg (.tp ts) (.tup es)) D σ H) : (tAr K c es) σ H fun ws H1 => gTs K ts ws σ H1 D.nx := by
  obtain ⟨S, e, fo, f, e', E, O, r, h⟩ := h
  obtain ⟨x, e1, r1, rA⟩ := Res.bind_ok r
  obtain ⟨mv, e2, r2, rB⟩ := Res.bind_ok rA
  obtain ⟨as, e3, r3, rC⟩ := Res.bind_ok r1
  obtain ⟨vs, e4, r4, rD⟩ := Res.bind_ok rC
  split at rD
  · cases rD
    obtain ⟨rfl, rfl⟩ := takeA_tmpE r2
    split at rB
    · rename_i e5 r5
      cases rB
      simp only [asgT, tupMk_l, Bool.false_eq_true, if_false] at r5
      refine ⟨S, e, fo, as, e3, E, O, r3, fun S1 H1 fo1 ws g1 st1 o1 E1 A1 => ?_⟩
      obtain ⟨S2, fo2, g2, t⟩ := takeAs_snd r4 E1 o1 A1
      have hf : ∀ a ∈ fo1 ++ g1, H1 a ≠ Option.none := fun a ha => (List.mem_append.mp ha).elim (fun z => (E1.own a z).some) fun z => (A1.own a z).some
      obtain ⟨st2, o2⟩ := t.stp st1 o1 hf
      refine ⟨S2, e2, fo2, tupMk vs, vs.map (fun v : MV => v.2), g2, e', t.es, o2, RA.tc t.rep, r5, fun S3 H3 fo3 σ3 st3 o3 E3 ag => ?_⟩
      refine h S3 H3 fo3 σ3 (st2.full.trans0 st3) o3 E3 ⟨ag.len, fun j hj => ag.eq j ?_⟩
      exact (asgT_pinned ts).2 _ _ _ _ j r5 ((takeAs_kp r4).pins j (((ev_kp es).2.1 e _ _ r3).pins j hj))
    · cases rB
  · cases rD
theorem x_par {i j : Nat} {es : Sh.E} {σ : Sl} {H : Hp} (h : tEx K c W (.asg (.tp (.cons (.nm i) (.cons (.nm j) .nil))) (.tup es)) D σ H) : tPar i j (tAr K c es) D σ H := by
  obtain ⟨S, e, fo, as, e', E, O, r, h⟩ := x_tup h
  refine ⟨S, e, fo, as, e', E, O, r, fun S1 H1 fo1 ws g1 st1 o1 E1 A1 => ?_⟩
  obtain ⟨v, r1, rfl, q1⟩ := s_tcons (h S1 H1 fo1 ws g1 st1 o1 E1 A1)
  obtain ⟨w, r2, rfl, q2⟩ := s_tcons (s_nm q1)
  obtain ⟨rfl, q3⟩ := s_tnil (s_nm q2)
  exact ⟨v, w, rfl, q3⟩
theorem x_par3 {i j l : Nat} {es : Sh.E} {σ : Sl} {H : Hp} (h : tEx K c W (.asg (.tp (.cons (.nm i) (.cons (.nm j) (.cons (.nm l) .nil)))) (.tup es)) D σ H) : tPar3 i j l (tAr K c es) D σ H := by
  obtain ⟨S, e, fo, as, e', E, O, r, h⟩ := x_tup h
  refine ⟨S, e, fo, as, e', E, O, r, fun S1 H1 fo1 ws g1 st1 o1 E1 A1 => ?_⟩
  obtain ⟨v, r1, rfl, q1⟩ := s_tcons (h S1 H1 fo1 ws g1 st1 o1 E1 A1)
  obtain ⟨w, r2, rfl, q2⟩ := s_tcons (s_nm q1)
  obtain ⟨z, r3, rfl, q3⟩ := s_tcons (s_nm q2)
  obtain ⟨rfl, q4⟩ := s_tnil (s_nm q3)
  exact ⟨v, w, z, rfl, q4⟩
end
/-! ### raise, try -/
/-- isinstance(n, y) for each y -/
def chkIs (cc : Cc) (n : Str) : List Str → List Expr → Bool
  | [], [] => true
  | y :: ys, t :: ts => (match t with
    | .Call (.Name f _) [.Name m _, .Name z _] [] _ => decide (f = "isinstance") && decide (m = n) && decide (z = y) && glb cc z && !(z == ("__debug__" : Str)) && decide (y ∈ cc.ys)
    | _ => false) && chkIs cc n ys ts
  | _, _ => false
section
variable {K : KK} {c : Calls} {W : WX} {S : AS} {H : Hp} {D : Ends} {Q : VK}
theorem x_rse {x : Str} {C : Addr} {σ : Sl} {H : Hp} (hC : PySem.W.nsIn K.K mainGlobals x = some (some (.ref C))) (h : tEx K c W (.rse x) D σ H) : W (.ref C) none σ H := by
  obtain ⟨S, e, fo, f, e', E, O, r, h⟩ := h
  cases r
  exact h S H fo σ .refl O E (.refl _ _) C hC
/-- isinstance(slot j, y), the exception at a in slot j -/
def tIsE (K : PySem.W.Frag) (mg : Str → Option Value) (a : Addr) (cls : Value) (d : Option Addr) (j : Nat) (y : Str) : TE := fun σ H Q => ∃ Da cv b, σ[j]? = some (some (.ref a)) ∧ cls = .ref Da ∧ d = none ∧ ExcC K Da ∧ ClsAt mg y cv ∧ PySem.W.kitOne K (.ref Da) cv = some b ∧ Q (.bl b) H
def tIsL (K : PySem.W.Frag) (mg : Str → Option Value) (a : Addr) (cls : Value) (d : Option Addr) (j : Nat) : List Str → TA
  | [] => tNil
  | y :: ys => tCons (tIsE K mg a cls d j y) (tIsL K mg a cls d j ys)
def tSuite (K : PySem.W.Frag) (mg : Str → Option Value) (j : Nat) (ys : List Str) : Addr → Value → Option Addr → TS := fun a cls d => tRet (tLst (tIsL K mg a cls d j ys))
theorem pe_isE {X : Cx} {a : Addr} {oe : Obj} {cls : Value} {d : Option Addr} {pn : List (Addr × Obj)} {j : Nat} {n y : Str} {p p1 p2 pos : Pos} (hI : Gl X "isinstance") (mI : X.mg "isinstance" = none) (hy : Gl X y) (hyd : (y == ("__debug__" : Str)) = false) (hn : X.N[j]? = some n) (hv : Vis X.env.scope n)
    (n1 : (n == ("__debug__" : Str)) = false) (n2 : (n == ("__classdict__" : Str)) = false) (hz : Zc cls d oe) (hf : ∃ vs, oe.data = .fields vs) : PE (X.suite a ((a, oe) :: pn)) (.Call (.Name "isinstance" p) [.Name n p1, .Name y p2] [] pos) (tIsE X.K X.mg a cls d j y) := by
  refine ⟨fun pins s σ H Q I h => ?_⟩
  obtain ⟨Da, cv, b, h1, rfl, rfl, ec, hc, hk, q⟩ := h
  have pn_ : PE (X.suite a ((a, oe) :: pn)) (.Name n p1) (tVar j) := pe_var hn hv n1 n2
  have key : ∀ {cV : V}, PE (X.suite a ((a, oe) :: pn)) (.Name y p2) (tC cV) → (∀ u, RelV cV u → u = cv) → wpAny (model X.prog X.w) (X.suite a ((a, oe) :: pn)).A (eval (.Call (.Name "isinstance" p) [.Name n p1, .Name y p2] [] pos) X.env) (EP (X.suite a ((a, oe) :: pn)) pins σ Q) (X.suite a ((a, oe) :: pn)).xe s := fun {cV} py hr =>
    (pe_callB (X := X.suite a ((a, oe) :: pn)) (pos := pos) (p := p) (call_isE ec hz hf) hI mI (by decide +kernel) (pa_cons pn_ (pa_cons py pa_nil)) (by decide) (by decide) (by rfl) (by rfl)).run pins s σ H Q I ⟨_, h1, _, cv, b, rfl, hr, hk, q⟩
  rcases hc with ⟨C, rfl, hm⟩ | ⟨rfl, hm, rfl⟩
  · exact key (cV := .ref C) (pe_glob hy hm rfl hyd) fun u r => by cases r; rfl
  · exact key (cV := .ty "ValueError") (pe_bltn hy hm (by decide +kernel) rfl (by decide) hyd) fun u r => by cases r; rfl
theorem pa_isL {X : Cx} {a : Addr} {oe : Obj} {cls : Value} {d : Option Addr} {pn : List (Addr × Obj)} {j : Nat} {n : Str} {cc : Cc} (hs : X.env.scope = cc.sc) (hI : Gl X "isinstance") (mI : X.mg "isinstance" = none) (hn : X.N[j]? = some n) (hv : Vis X.env.scope n)
    (n1 : (n == ("__debug__" : Str)) = false) (n2 : (n == ("__classdict__" : Str)) = false) (hz : Zc cls d oe) (hf : ∃ vs, oe.data = .fields vs) : ∀ {ys : List Str} {ts : List Expr}, chkIs cc n ys ts = true → L2.PA (X.suite a ((a, oe) :: pn)) ts (tIsL X.K X.mg a cls d j ys)
  | [], [], _ => pa_nil
  | [], _ :: _, h => by simp [chkIs] at h
  | _ :: _, [], h => by simp [chkIs] at h
  | y :: ys, t :: ts, h => by
    simp only [chkIs, Bool.and_eq_true] at h
    obtain ⟨h1, h2⟩ := h
    split at h1
    · rename_i f p m p1 z p2 pos
      simp only [Bool.and_eq_true, decide_eq_true_eq, Bool.not_eq_true'] at h1
      obtain ⟨⟨⟨⟨⟨rfl, rfl⟩, rfl⟩, hg⟩, hd⟩, hm⟩ := h1
      have hgl : Gl X z := by
        unfold glb at hg
        split at hg
        · rename_i e; show X.env.scope.names.lookup z = _; rw [hs]; exact e
        · cases hg
      exact pa_cons (pe_isE hI mI hgl hd hn hv n1 n2 hz hf) (pa_isL hs hI mI hn hv n1 n2 hz hf h2) (by rfl)
    · cases h1
theorem x_isL {k : PySem.W.Frag} {mg : Str → Option Value} {a C CS : Addr} {x : Str} {j : Nat} {zs : List Str} (X : XcF k mg zs x C CS) {σ : Sl} (hj : σ[j]? = some (some (.ref a))) : ∀ {ys : List Str} {R : List V → Hp → Prop}, (∀ y ∈ ys, y ∈ zs) → R (ys.map fun y => .bl (isSubX x y)) H → tIsL k mg a (.ref C) none j ys σ H R
  | [], R, _, r => r
  | y :: ys, R, hy, r => by
    obtain ⟨cv, h1, h2⟩ := X.ts y (hy y List.mem_cons_self)
    exact ⟨C, cv, _, hj, rfl, rfl, X.ec, h1, h2, x_isL X hj (fun z hz => hy z (List.mem_cons_of_mem _ hz)) r⟩
theorem bls_rep {S : AS} {H : Hp} : ∀ bs : List Bool, RS K S H .st (bs.map Val.bl) (bs.map V.bl) []
  | [] => .nil _
  | b :: bs => .bl (bls_rep bs)
theorem x_tryc {i f n j : Nat} {es : Sh.E} {ys xs : List Str} {CS : Addr} {mg : Str → Option Value} {zs : List Str} {σ : Sl} {H : Hp} (hx : ∀ x ∈ xs, ∃ C, XcF K.K mg zs x C CS) (hy : ∀ y ∈ ys, y ∈ zs) (h : tEx K c W (.tryc i f n es j ys xs) D σ H) :
    tAsg (tCallS (spF K c f) (WE (wAs K.K (.ref CS) j (tSuite K.K mg j ys) W D)) (tAr K c es)) (gT K (.nm i)) D σ H := by
  obtain ⟨S, e, fo, fl, e', E, O, r, h⟩ := h
  simp only [ex] at r
  split at r
  · rename_i x e2 hx2
    split at r
    · rename_i hc
      obtain ⟨hl, hxm, hj⟩ := hc
      cases r
      unfold excAt at hx2
      split at hx2
      · rename_i as e1 r1
        split at hx2
        · rename_i ps e3 r2
          split at hx2
          · rename_i x1 fe hc
            cases hx2
            refine ⟨S, e, fo, as, e1, E, O, r1, fun S1 H1 fo1 ws g1 st1 o1 E1 A1 => ?_⟩
            obtain ⟨S2, fo2, g2, L, t, R2, B2, nL⟩ := passN_snd r2 E1 o1 A1
            have hno := (passF_kp r2).2
            have hL : L = [] := nL (by
              unfold anyLent
              rw [List.any_eq_false]
              intro b hb
              obtain ⟨p, hp, rfl⟩ := List.mem_map.mp hb
              rw [(hno p hp).2]; simp)
            subst hL
            have eS : (fun x => S2 x ∨ x ∈ ([] : List Addr)) = S2 := by funext x; simp
            rw [eS] at R2
            have hf : ∀ a ∈ fo1 ++ g1, H1 a ≠ Option.none := fun a ha => (List.mem_append.mp ha).elim (fun z => (E1.own a z).some) fun z => (A1.own a z).some
            have o2 := t.ow o1 hf
            rw [List.append_nil] at o2
            have hf2 : ∀ a ∈ fo2 ++ g2, H1 a ≠ Option.none := fun a ha => hf a (t.mem a (by simpa using ha))
            have og : Ow K S2 H1 (g2 ++ fo2) := o2.perm List.perm_append_comm
            refine ⟨S2, g2, ps.map (·.1), og.left, R2, .inr ⟨x, fe, hc, fun C S3 H3 hC st3 o3 => ?_⟩⟩
            obtain ⟨C', X⟩ := hx x hxm
            have hCC := X.at_
            rw [hC] at hCC
            cases hCC
            refine ⟨true, X.es, fun _ a ha => ?_, fun q => nomatch q⟩
            have ds2 : ∀ x, S2 x → x ∉ g2 := fun x s hx => og.left.ds x hx s
            have E3 : ES K S3 H3 _ σ fo2 := t.es.step st3 (fun x hx hy => og.ne x hy hx) ds2 fun x hx => o2.ds x (List.mem_append_left _ hx)
            have oB : Ow K S3 H3 (fo2 ++ []) := Ow.step og st3 o3 fun x hx => hf2 x (List.mem_append_left _ hx)
            rw [List.append_nil] at oB
            have s12 : Step S H fo S2 H1 (g2 ++ fo2) := (Step.trans0 st1.full (step_of hf t.stab t.new t.mem)).perm fun x hx => by
              simp only [List.mem_append, List.not_mem_nil, or_false] at hx ⊢
              exact hx.symm
            have s13 : Step S H fo S3 H3 ([] ++ fo2) := (Step.trans s12 st3).perm fun x hx => by simpa using hx
            have hl2 : j < σ.length := by rw [E3.length]; exact hj
            refine x_isL X (List.getElem?_set_self hl2) hy ⟨by simpa using hl, fun p hp => ?_⟩
            have G : Gives K S3 H3 (.l .st) (.lst ((ys.map (isSubX x)).map Val.bl)) D.rt := fun S' H' w f s sm o' R => by
              have oC : Ow K S' H' (fo2 ++ f) := Ow.step (fo := []) (g := fo2) oB s o' fun x hx => (E3.own x hx).some
              refine h S' H' fo2 σ w f (Step.trans s13 s) oC (E3.step s (by simp) (by simp) fun x hx => oB.ds x hx) (.refl _ _) ?_
              rw [List.map_map] at R
              exact R
            have := G.lst oB (bls_rep (ys.map (isSubX x))) hp
            rw [List.map_map] at this
            exact this
          · cases hx2
        · cases hx2
      · cases hx2
    · cases r
  · have h2 : tEx K c W (.asg (.nm i) (.call f (List.replicate n .frz) es)) D σ H := ⟨S, e, fo, fl, e', E, O, by simp only [ex]; exact r, h⟩
    have h3 := x_asg h2
    have h4 := s_call (XE := WE (wAs K.K (.ref CS) j (tSuite K.K mg j ys) W D) σ) h3
    have h5 : tAr K c es σ H fun vs H1 => spF K c f vs H1 (fun x H1 => gT K (T.nm i) x σ H1 D.nx) (WE (wAs K.K (.ref CS) j (tSuite K.K mg j ys) W D) σ) := by
      simpa [tCall, List.append_nil] using h4
    exact h5
end
/-! ### the text -/
def notComp : Expr → Bool
  | .ListComp .. => false | .SetComp .. => false | .DictComp .. => false | _ => true
def tupleE : Expr → Bool
  | .Tuple .. => true | .List .. => true | _ => false
/-- no stores are swapped -/
def noSwap (tg v : Expr) : Bool := match tg, v with
  | .Tuple ts _ _, .Tuple vs _ _ => !(ts.length == 2 || ts.length == 3) || vs.all (foldedForSure 8)
  | .List _ _, .Tuple _ _ _ => false
  | _, _ => true
def loc (cc : Cc) (x : Str) : Bool := match cc.sc.names.lookup x with
  | some .local => true | _ => false
def swapB (cc : Cc) (x : Str) (px pos : Pos) (scope : Scope) : Bool := loc cc x && (px.line == pos.line) && !(scope.names.any fun (n, k) => n == x && (k == .local || k == .cell))
def plainAug : Expr → Bool
  | .Slice .. => false | _ => true
theorem aug_ok {ix : Expr} (h : plainAug ix = true) (ov iv new : Value) : augStore ix ov iv new = (do holding [new, ov, iv] (setItem ov iv new); release [new, ov, iv] []; pure .next) := by
  cases ix <;> first | rfl | cases h
def compOk (cc : Cc) (v : Sh.E) (tg e : Expr) : Bool := match v, tg, e with
  | .comp .., .Name _ _, .ListComp _ _ _ _ => true
  | _, _, _ => false
def chkAsg (cc : Cc) (t : T) (v : Sh.E) (tg e : Expr) : Bool := match t with
  | .tp (.cons (.nm i) (.cons (.nm j) .nil)) => (chkT cc t tg && chkE cc v e && notComp e && noSwap tg e) || (match v, tg, e with
    | .tup es, .Tuple [.Name x px, .Name y py] _ _, .Tuple [a, b] _ _ => decide (cc.N[i]? = some x) && decide (cc.N[j]? = some y) && loc cc x && loc cc y && decide (x ≠ y) && (px.line == py.line) && chkEs cc es [a, b] && !([a, b].all (foldedForSure 8)) && !([a, b].all (constantsAlone 8))
    | _, _, _ => false)
  | .tp (.cons (.nm i) (.cons (.nm j) (.cons (.nm l) .nil))) => (chkT cc t tg && chkE cc v e && notComp e && noSwap tg e) || (match v, tg, e with
    | .tup es, .Tuple [.Name x px, .Name y py, .Name z pz] _ _, .Tuple [a, b, d] _ _ => decide (cc.N[i]? = some x) && decide (cc.N[j]? = some y) && decide (cc.N[l]? = some z) && loc cc x && loc cc y && loc cc z && decide (x ≠ y) && decide (x ≠ z) && decide (y ≠ z) && (px.line == py.line) && (px.line == pz.line) && chkEs cc es [a, b, d] && !([a, b, d].all (foldedForSure 8)) && !([a, b, d].all (constantsAlone 8))
    | _, _, _ => false)
  | _ => chkT cc t tg && chkE cc v e && noSwap tg e && (notComp e || compOk cc v tg e)
mutual
def chkS (cc : Cc) : C → Stmt → Bool
  | .pass, s => match s with
    | .Pass _ => true
    | .Expr (.Constant (.str _) _ _) _ => true
    | _ => false
  | .brk, s => match s with
    | .Break _ => true
    | _ => false
  | .cnt, s => match s with
    | .Continue _ => true
    | _ => false
  | .retN, s => match s with
    | .Return none _ => true
    | _ => false
  | .ret v, s => match s with
    | .Return (some e) _ => chkE cc v e
    | _ => false
  | .expr v, s => match s with
    | .Expr e _ => notComp e && chkE cc v e
    | _ => false
  | .asg t v, s => match s with
    | .Assign [tg] e _ => chkAsg cc t v tg e
    | _ => false
  | .sto a i v, s => match a, s with
    | .var k, .Assign [.Subscript (.Name x _) ix _] e _ => decide (cc.N[k]? = some x) && vis cc x && okN x && notComp e && chkE cc i ix && chkE cc v e
    | _, _ => false
  | .aug k op v, s => match s with
    | .AugAssign (.Name x _) o e _ => decide (cc.N[k]? = some x) && sto cc x && decide (o = op.py) && chkE cc v e
    | _ => false
  | .augS a i op v, s => match a, s with
    | .var k, .AugAssign (.Subscript (.Name x _) ix _) o e _ => decide (cc.N[k]? = some x) && vis cc x && okN x && decide (o = op.py) && plainAug ix && chkE cc i ix && chkE cc v e
    | _, _ => false
  | .rse x, s => match s with
    | .Raise (some (.Call (.Name y _) [.Constant (.str _) _ _] [] _)) none _ => decide (x = y) && decide (x ∈ cc.xs) && glb cc y && !(y == ("__debug__" : Str))
    | _ => false
  | .tryc i f n es j ys xs, s => match s with
    | .Try [.Assign [.Name tg p0] (.Call (.Name g p1) (u :: us) [] p2) p3] [.ExceptHandler (some (.Name cl _)) (some nm) [.Return (some (.List els _)) _] _] [] [] _ =>
      chkT cc (.nm i) (.Name tg p0) && chkE cc (.call f (List.replicate n .frz) es) (.Call (.Name g p1) (u :: us) [] p2) && decide (cl = "ShiftError") && glb cc cl && decide (cc.N[j]? = some nm) && loc cc nm && okN nm && glb cc "isinstance" && chkIs cc nm ys els && (!xs.isEmpty) && xs.all (fun x => decide (x ∈ cc.xs))
    | _ => false
  | .iff t a b, s => match s with
    | .If u xs ys _ => chkE cc t u && chkSs cc a xs && chkSs cc b ys
    | _ => false
  | .forr t it b, s => match s with
    | .For tg iter body [] _ => chkW cc it tg iter && chkT cc t tg && chkSs cc b body && !(isSet iter)
    | _ => false
  | .whil t b, s => match s with
    | .While u body [] _ => chkE cc t u && chkSs cc b body
    | _ => false
  | _, _ => false
def chkSs (cc : Cc) : C → List Stmt → Bool
  | .nil, ss => match ss with
    | [] => true
    | _ => false
  | .seq a b, ss => match ss with
    | s :: ss => chkS cc a s && chkSs cc b ss
    | _ => false
  | _, _ => false
end
structure StOk (cc : Cc) (K : KK) (cl : Calls) (W : WX) (X : Cx) : Prop where
  cx : CxOk cc K cl X
  pass : PassesOwn (model X.prog X.w) X.A X.env X.xe
  kind : X.env.scope.kind = .function
  tk : Takes X W
  stk : X.stack = X.env :: X.outer
  frm : X.env.frame = some X.env.locals
section
variable {cc : Cc} {K : KK} {cl : Calls} {W : WX} {X : Cx}
theorem swaps_no {v : Expr} {t : Option Expr} {l : Nat} {env : Env} (h : notComp v = true) : swapsWith v t l env = pure false := by
  cases v <;> first | rfl | cases h
theorem sw_false {el : Expr} {gs : List Comprehension} {scope : Scope} {pos py : Pos} {y : Str} {l : Nat} (hs : X.env.scope = cc.sc) (h : swapB cc y py pos scope = false) : swapsWith (.ListComp el gs scope pos) (some (.Name y py)) l X.env = pure false := by
  have e1 : swapsWith (.ListComp el gs scope pos) (some (.Name y py)) l X.env = pure (X.env.blockKind == .function && X.env.kindOf y == some .local && py.line == pos.line && !(scope.names.any fun (n, k) => n == y && (k == .local || k == .cell))) := rfl
  rw [e1]
  have hl : (X.env.kindOf y == some .local) = loc cc y := by
    unfold Env.kindOf loc
    rw [hs]
    cases cc.sc.names.lookup y with
    | none => rfl
    | some k => cases k <;> rfl
  rw [hl]
  unfold swapB at h
  have : (X.env.blockKind == ScopeKind.function && loc cc y && py.line == pos.line && !(scope.names.any fun (n, k) => n == y && (k == .local || k == .cell))) = false := by
    rw [Bool.and_assoc, Bool.and_assoc, ← Bool.and_assoc (loc cc y), h, Bool.and_false]
  rw [this]
theorem swapped_no {tg v : Expr} {env : Env} (h : noSwap tg v = true) : swappedStores [tg] v env = pure none := by
  cases v with
  | Tuple vs k pos =>
    cases tg with
    | Tuple ts k' pos' =>
      simp only [noSwap, Bool.or_eq_true, Bool.not_eq_true'] at h
      unfold swappedStores
      dsimp only
      rcases h with h | h
      · rw [if_pos (by simp [h])]
      · split
        · rfl
        · split
          · rfl
          · split
            · rfl
            · first | rfl | rw [if_pos h]
    | List ts pos' => cases h
    | _ => rfl
  | _ => cases tg <;> rfl
theorem loc_ok {x : Str} (h : loc cc x = true) (hs : X.env.scope = cc.sc) : X.env.scope.names.lookup x = some .local := by
  unfold loc at h
  split at h
  · rw [hs]; assumption
  · cases h
theorem swapped2 (hk : X.env.scope.kind = .function) {x y : Str} {px py pt pt2 : Pos} {k k2 : Nat} {a b : Expr} (hx : X.env.scope.names.lookup x = some .local) (hy : X.env.scope.names.lookup y = some .local) (hxy : x ≠ y) (hl : (px.line == py.line) = true) (sa : notStar a = true) (sb : notStar b = true)
    (h1 : [a, b].all (foldedForSure 8) = false) (h2 : [a, b].all (constantsAlone 8) = false) : swappedStores [.Tuple [.Name x px, .Name y py] k pt] (.Tuple [a, b] k2 pt2) X.env = pure (some [x, y]) := by
  have ky : X.env.kindOf x = some .local := hx
  have kz : X.env.kindOf y = some .local := hy
  have hb : X.env.blockKind = .function := by unfold Env.blockKind; rw [hk]; rfl
  have hl' : py.line = px.line := (eq_of_beq hl).symm
  unfold swappedStores
  dsimp only
  rw [if_neg (by simp [hb])]
  split
  · rename_i h
    simp only [List.any_cons, List.any_nil, Bool.or_false, Bool.or_eq_true] at h
    rcases h with h | h
    · cases a <;> first | (cases h; done) | (cases sa; done)
    · cases b <;> first | (cases h; done) | (cases sb; done)
  · simp only [List.filterMap_cons, List.filterMap_nil, ky, kz, hl', Expr.pos, List.head?_cons, Option.map_some, Option.getD_some, beq_self_eq_true, Bool.and_self, if_true]
    rw [if_neg (by
      have : ([x, y] : List Str).eraseDups = [x, y] := by
        simp [List.eraseDups_cons, hxy, Ne.symm hxy]
      rw [this]; simp)]
    rw [if_neg (by rw [h1]; simp), if_neg (by rw [h2]; simp)]
theorem swapped3 (hk : X.env.scope.kind = .function) {x y z : Str} {px py pz pt pt2 : Pos} {k k2 : Nat} {a b d : Expr} (hx : X.env.scope.names.lookup x = some .local) (hy : X.env.scope.names.lookup y = some .local) (hz : X.env.scope.names.lookup z = some .local) (hxy : x ≠ y) (hxz : x ≠ z) (hyz : y ≠ z) (hl : (px.line == py.line) = true) (hl2 : (px.line == pz.line) = true) (sa : notStar a = true) (sb : notStar b = true) (sd : notStar d = true)
    (h1 : [a, b, d].all (foldedForSure 8) = false) (h2 : [a, b, d].all (constantsAlone 8) = false) : swappedStores [.Tuple [.Name x px, .Name y py, .Name z pz] k pt] (.Tuple [a, b, d] k2 pt2) X.env = pure (some [x, y, z]) := by
  have kx : X.env.kindOf x = some .local := hx
  have ky : X.env.kindOf y = some .local := hy
  have kz : X.env.kindOf z = some .local := hz
  have hb : X.env.blockKind = .function := by unfold Env.blockKind; rw [hk]; rfl
  have hl' : py.line = px.line := (eq_of_beq hl).symm
  have hl2' : pz.line = px.line := (eq_of_beq hl2).symm
  unfold swappedStores
  dsimp only
  rw [if_neg (by simp [hb])]
  split
  · rename_i h
    simp only [List.any_cons, List.any_nil, Bool.or_false, Bool.or_eq_true] at h
    rcases h with h | h | h
    · cases a <;> first | (cases h; done) | (cases sa; done)
    · cases b <;> first | (cases h; done) | (cases sb; done)
    · cases d <;> first | (cases h; done) | (cases sd; done)
  · simp only [List.filterMap_cons, List.filterMap_nil, kx, ky, kz, hl', hl2', Expr.pos, List.head?_cons, Option.map_some, Option.getD_some, beq_self_eq_true, Bool.and_self, if_true]
    rw [if_neg (by
      have : ([x, y, z] : List Str).eraseDups = [x, y, z] := by
        simp [List.eraseDups_cons, hxy, Ne.symm hxy, hxz, Ne.symm hxz, hyz, Ne.symm hyz]
      rw [this]; simp)]
    rw [if_neg (by rw [h1]; simp), if_neg (by rw [h2]; simp)]
end
end Sh

/-! ShU: the statements, the defs of the text do what the evaluator says -/
namespace Sh
open PySem PySem.Spec PyProof.Rows L2
section
variable {cc : Cc} {K : KK} {cl : Calls} {W : WX} {X : Cx}
theorem asg_one {tg : Expr} {env : Env} (h : notStar tg = true) : (assignEach [tg] env).map (·.2) = [assign tg env] := by
  rw [asg_cons h]; rfl
theorem tgt_star {t : T} {tg : Expr} (h : chkT cc t tg = true) : notStar tg = true := by
  cases tg <;> first | rfl | (cases t <;> simp [chkT] at h)
theorem sub_asg {x : Sh.E} {o i : Expr} {pos : Pos} {env : Env} (h : chkE cc x i = true) : ∀ v, assign (.Subscript o i pos) env v = (do
      let ov ← holding [v] (eval o env)
      let iv ← holding [v, ov] (eval i env)
      standAt pos
      holding [v, ov, iv] (setItem ov iv v)
      release [v, ov, iv] []) := by
  intro v
  cases i <;> first | rfl | (cases x <;> simp [chkE] at h)
theorem asg_plainS (ok : StOk cc K cl W X) {t : T} {v : Sh.E} {tg e : Expr} {pos : Pos} (h1 : chkT cc t tg = true) (h2 : chkE cc v e = true) (h3 : notComp e = true) (h4 : noSwap tg e = true) : PS X (.Assign [tg] e pos) (tEx K cl W (.asg t v)) :=
  PS.imp (ps_asg ((chk_ok v).e h2 ok.cx).e ((chkT_ok ok.cx t).1 tg h1) (swaps_no h3) (swapped_no h4) (asg_one (tgt_star h1))) fun _ _ _ q => x_asg q
theorem asg_compS (ok : StOk cc K cl W X) {t : T} {v : Sh.E} {tg e : Expr} {pos : Pos} (h1 : chkT cc t tg = true) (h2 : chkE cc v e = true) (h3 : compOk cc v tg e = true) : PS X (.Assign [tg] e pos) (tEx K cl W (.asg t v)) := by
  unfold compOk at h3
  split at h3
  · rename_i m own tt it cd elt y py el gs scope pos'
    by_cases h4 : swapB cc y py pos' scope = true
    case neg =>
      exact PS.imp (ps_asg ((chk_ok _).e h2 ok.cx).e ((chkT_ok ok.cx t).1 _ h1) (show swapsWith (.ListComp el gs scope pos') (some (.Name y py)) pos.line X.env = pure false from sw_false ok.cx.sc (by simpa using h4)) rfl rfl) fun _ _ _ q => x_asg q
    unfold swapB at h4
    simp only [Bool.and_eq_true, Bool.not_eq_true'] at h4
    obtain ⟨⟨hl, hp⟩, hn⟩ := h4
    have hlk := loc_ok hl ok.cx.sc
    simp only [chkE] at h2
    split at h2
    · rename_i el' tg' iter ifs a scope' pos2 e1
      cases e1
      simp only [Bool.and_eq_true, decide_eq_true_eq, Bool.not_eq_true'] at h2
      obtain ⟨⟨⟨⟨⟨⟨⟨rfl, h11⟩, h12⟩, h13⟩, h14⟩, h15⟩, h16⟩, h17⟩ := h2
      cases t with
      | nm i =>
        simp only [chkT, Bool.and_eq_true, decide_eq_true_eq] at h1
        have hbk : BlkOk X.N X.env.scope scope (ownP cc own) := by
          rw [ok.cx.hN, ok.cx.sc]; exact blkOk_by h12
        have := ps_setLc (pos := pos') (spos := pos) (own := ownP cc own) (py := py) ok.cx.calm (by rw [ok.cx.hN]; exact ok.cx.nd) (by rw [ok.cx.hN]; exact h1.1) hlk (sw_true ok.kind hlk hp hn) ((chk_ok it).i h14 ok.cx) hbk
          (fun s H C cs fp => (chkT_ok (ok.cx.blk s H scope C cs fp) tt).1 tg' h15) (fun s H C cs fp => (chk_ok cd).c h16 (ok.cx.blk s H scope C cs fp)) (fun s H C cs fp => ((chk_ok elt).e h17 (ok.cx.blk s H scope C cs fp)).e) (fun x => folded_ok h11)
        have e2 : (ownP cc own).map (·.2) = own := by
          unfold ownP
          rw [List.map_map]
          exact List.map_id own
        rw [e2] at this
        refine PS.imp this fun D σ H q => ?_
        have q2 := s_comp (fun j hj => by simpa using List.all_eq_true.mp h13 j hj) (x_asg q)
        obtain ⟨S, e, fo, ms, e', E, O, r, k⟩ := q2
        refine ⟨S, e, fo, ms, e', E, O, r, fun S' H' fo' J st o E' wk Dd hD => ?_⟩
        obtain ⟨W, w0, w1⟩ := k S' H' fo' J st o E' wk Dd hD
        refine ⟨W, w0, fun i m H w => ?_⟩
        rcases w1 i m H w with ⟨a, b⟩ | b
        · exact .inl ⟨a, s_nm b⟩
        · exact .inr b
      | _ => simp [chkT] at h1
    · cases h2
  · cases h3
theorem asg_ok (ok : StOk cc K cl W X) {t : T} {v : Sh.E} {tg e : Expr} {pos : Pos} (h : chkAsg cc t v tg e = true) : PS X (.Assign [tg] e pos) (tEx K cl W (.asg t v)) := by
  have hnd : X.N.Nodup := by rw [ok.cx.hN]; exact ok.cx.nd
  unfold chkAsg at h
  split at h
  · rename_i i j
    rw [Bool.or_eq_true] at h
    rcases h with h | h
    · simp only [Bool.and_eq_true] at h
      exact asg_plainS ok h.1.1.1 h.1.1.2 h.1.2 h.2
    · split at h
      · rename_i es x px y py k1 p1 a b k2 p2
        simp only [Bool.and_eq_true, decide_eq_true_eq, Bool.not_eq_true'] at h
        obtain ⟨⟨⟨⟨⟨⟨⟨⟨hi, hj⟩, hx⟩, hy⟩, hxy⟩, hl⟩, hes⟩, f1⟩, f2⟩ := h
        have lx := loc_ok hx ok.cx.sc
        have ly := loc_ok hy ok.cx.sc
        have hs := chks_star hes
        have hiX : X.N[i]? = some x := by rw [ok.cx.hN]; exact hi
        have hjX : X.N[j]? = some y := by rw [ok.cx.hN]; exact hj
        have hij : i ≠ j := fun q => by subst q; rw [hiX] at hjX; cases hjX; exact hxy rfl
        exact PS.imp (ps_par ok.cx.calm hnd hiX hjX hij lx ly ((chk_ok es).es hes ok.cx).1 (swapped2 ok.kind lx ly hxy hl (hs a (by simp)) (hs b (by simp)) f1 f2)) fun _ _ _ q => x_par q
      · cases h
  · rename_i i j l
    rw [Bool.or_eq_true] at h
    rcases h with h | h
    · simp only [Bool.and_eq_true] at h
      exact asg_plainS ok h.1.1.1 h.1.1.2 h.1.2 h.2
    · split at h
      · rename_i es x px y py z pz k1 p1 a b d k2 p2
        simp only [Bool.and_eq_true, decide_eq_true_eq, Bool.not_eq_true'] at h
        obtain ⟨⟨⟨⟨⟨⟨⟨⟨⟨⟨⟨⟨⟨hi, hj⟩, hk⟩, hx⟩, hy⟩, hz⟩, hxy⟩, hxz⟩, hyz⟩, hl⟩, hl2⟩, hes⟩, f1⟩, f2⟩ := h
        have lx := loc_ok hx ok.cx.sc
        have ly := loc_ok hy ok.cx.sc
        have lz := loc_ok hz ok.cx.sc
        have hs := chks_star hes
        have hiX : X.N[i]? = some x := by rw [ok.cx.hN]; exact hi
        have hjX : X.N[j]? = some y := by rw [ok.cx.hN]; exact hj
        have hkX : X.N[l]? = some z := by rw [ok.cx.hN]; exact hk
        have hij : i ≠ j := fun q => by subst q; rw [hiX] at hjX; cases hjX; exact hxy rfl
        have hil : i ≠ l := fun q => by subst q; rw [hiX] at hkX; cases hkX; exact hxz rfl
        have hjl : j ≠ l := fun q => by subst q; rw [hjX] at hkX; cases hkX; exact hyz rfl
        exact PS.imp (ps_par3 ok.cx.calm hnd hiX hjX hkX hij hil hjl lx ly lz ((chk_ok es).es hes ok.cx).1 (swapped3 ok.kind lx ly lz hxy hxz hyz hl hl2 (hs a (by simp)) (hs b (by simp)) (hs d (by simp)) f1 f2)) fun _ _ _ q => x_par3 q
      · cases h
  · simp only [Bool.and_eq_true, Bool.or_eq_true] at h
    obtain ⟨⟨⟨h1, h2⟩, h3⟩, h4⟩ := h
    rcases h4 with h4 | h4
    · exact asg_plainS ok h1 h2 h4 h3
    · exact asg_compS ok h1 h2 h4
structure SOk (K : KK) (cl : Calls) (x : C) : Prop where
  s : ∀ {cc : Cc} {W : WX} {X : Cx} {t : Stmt}, chkS cc x t = true → StOk cc K cl W X → PS X t (tEx K cl W x)
  ss : ∀ {cc : Cc} {W : WX} {X : Cx} {ts : List Stmt}, chkSs cc x ts = true → StOk cc K cl W X → PSs X ts (tEx K cl W x)
theorem stm_ok (x : C) : SOk K cl x := by
  induction x with
  | nil =>
    refine ⟨fun h => by simp [chkS] at h, fun {cc W X ts} h ok => ?_⟩
    simp only [chkSs] at h
    split at h
    · exact PSs.imp pss_nil fun _ _ _ q => x_nil q
    · cases h
  | seq a b iha ihb =>
    refine ⟨fun h => by simp [chkS] at h, fun {cc W X ts} h ok => ?_⟩
    simp only [chkSs] at h
    split at h
    · rw [Bool.and_eq_true] at h
      exact PSs.imp (pss_cons (iha.s h.1 ok) (ihb.ss h.2 ok)) fun _ _ _ q => x_seq q
    · cases h
  | asg t v =>
    refine ⟨fun {cc W X s} h ok => ?_, fun h => by simp [chkSs] at h⟩
    simp only [chkS] at h
    split at h
    · exact asg_ok ok h
    · cases h
  | sto a i v =>
    refine ⟨fun {cc W X s} h ok => ?_, fun h => by simp [chkSs] at h⟩
    simp only [chkS] at h
    split at h
    · rename_i k x p0 ix p1 e p2
      simp only [Bool.and_eq_true, decide_eq_true_eq, okN, Bool.not_eq_true'] at h
      obtain ⟨⟨⟨⟨⟨hk, hv⟩, hn⟩, hc⟩, hi⟩, he⟩ := h
      have pv : PE X (.Name x p0) (tVar k) := pe_var (by rw [ok.cx.hN]; exact hk) (by rw [ok.cx.sc]; exact vis_ok hv) hn.1 hn.2
      have pg := pg_sub (pos := p1) pv ((chk_ok i).e hi ok.cx).e (set_all (by have := ok.cx.hu; omega)) (sub_asg hi)
      exact PS.imp (ps_asg ((chk_ok v).e he ok.cx).e pg (show swapsWith e (some (.Subscript (.Name x p0) ix p1)) p2.line X.env = pure false from swaps_no hc) (by cases e <;> rfl) rfl) fun _ _ _ q => x_sto q
    · cases h
  | aug k op v =>
    refine ⟨fun {cc W X s} h ok => ?_, fun h => by simp [chkSs] at h⟩
    simp only [chkS] at h
    split at h
    · rename_i x p0 o e pos
      simp only [Bool.and_eq_true, decide_eq_true_eq] at h
      obtain ⟨⟨⟨hk, hs⟩, rfl⟩, he⟩ := h
      have hnd : X.N.Nodup := by rw [ok.cx.hN]; exact ok.cx.nd
      have hiX : X.N[k]? = some x := by rw [ok.cx.hN]; exact hk
      unfold sto at hs
      split at hs
      · rename_i e0
        have e' : X.env.scope.names.lookup x = some .local := by rw [ok.cx.sc]; exact e0
        exact PS.imp (ps_aug hnd hiX (.inl e') ((chk_ok v).e he ok.cx).e (iop_all op) (.inr e')) fun _ _ _ q => x_aug q
      · rename_i e0
        have e' : X.env.scope.names.lookup x = some .cell := by rw [ok.cx.sc]; exact e0
        exact PS.imp (ps_aug hnd hiX (.inr e') ((chk_ok v).e he ok.cx).e (iop_all op) (.inl (ok.cx.fn x hs))) fun _ _ _ q => x_aug q
      · cases hs
    · cases h
  | augS a i op v =>
    refine ⟨fun {cc W X s} h ok => ?_, fun h => by simp [chkSs] at h⟩
    simp only [chkS] at h
    split at h
    · rename_i k x p0 ix p1 o ex pos
      simp only [Bool.and_eq_true, decide_eq_true_eq, okN, Bool.not_eq_true'] at h
      obtain ⟨⟨⟨⟨⟨⟨hk, hv⟩, hn⟩, rfl⟩, hpl⟩, hi⟩, he⟩ := h
      have pv : PE X (.Name x p0) (tVar k) := pe_var (by rw [ok.cx.hN]; exact hk) (by rw [ok.cx.sc]; exact vis_ok hv) hn.1 hn.2
      have := ps_augS (tpos := p1) (pos := pos) pv ((chk_ok i).e hi ok.cx).e get_list ((chk_ok v).e he ok.cx).e (iop_all op) (set_all (by have := ok.cx.hu; omega)) (aug_ok hpl)
      rw [ok.cx.hK] at this
      exact PS.imp this fun _ _ _ q => x_augS q
    · cases h
  | expr v =>
    refine ⟨fun {cc W X s} h ok => ?_, fun h => by simp [chkSs] at h⟩
    simp only [chkS] at h
    split at h
    · rw [Bool.and_eq_true] at h
      exact PS.imp (ps_expr ((chk_ok v).e h.2 ok.cx).e (swaps_no h.1)) fun _ _ _ q => x_expr q
    · cases h
  | ret v =>
    refine ⟨fun {cc W X s} h ok => ?_, fun h => by simp [chkSs] at h⟩
    simp only [chkS] at h
    split at h
    · exact PS.imp (ps_ret ((chk_ok v).e h ok.cx).e) fun _ _ _ q => x_ret q
    · cases h
  | retN =>
    refine ⟨fun {cc W X s} h ok => ?_, fun h => by simp [chkSs] at h⟩
    simp only [chkS] at h
    split at h
    · exact PS.imp ps_retN fun _ _ _ q => x_retN q
    · cases h
  | rse x =>
    refine ⟨fun {cc W X s} h ok => ?_, fun h => by simp [chkSs] at h⟩
    simp only [chkS] at h
    split at h
    · rename_i y p0 m k p1 p2 p3
      simp only [Bool.and_eq_true, decide_eq_true_eq, Bool.not_eq_true'] at h
      obtain ⟨⟨⟨rfl, hx⟩, hg⟩, hd⟩ := h
      obtain ⟨C, CS, F⟩ := ok.cx.xcs x hx
      have hK := ok.cx.hK
      have := ps_raise (pos := p3) ok.cx.calm ok.tk (pmk_own (m := m) (j := k) (p := p0) (p2 := p1) (pos := p2) PySem.F.excBase_ValueError (by rw [hK]; exact F.ex) F.mgC (by rw [hK]; exact F.kp) (raises_own (by rw [hK]; exact F.sB) (by rw [hK]; exact F.tT)) (ok.cx.gl hg) hd)
      exact PS.imp this fun _ _ _ q => x_rse F.at_ q
    · cases h
  | tryc i f n es j ys xs =>
    refine ⟨fun {cc W X s} h ok => ?_, fun h => by simp [chkSs] at h⟩
    simp only [chkS] at h
    split at h
    · rename_i tg p0 g p1 u us p2 p3 clx np nm els lp rp hp pos
      simp only [Bool.and_eq_true, decide_eq_true_eq, Bool.not_eq_true', okN] at h
      obtain ⟨⟨⟨⟨⟨⟨⟨⟨⟨⟨h1, h2⟩, rfl⟩, h4⟩, h5⟩, h6⟩, h7, h7'⟩, h8⟩, h9⟩, h10⟩, h11⟩ := h
      have hK := ok.cx.hK
      have hxs : ∀ x ∈ xs, x ∈ cc.xs := fun x hx => by simpa using List.all_eq_true.mp h11 x hx
      obtain ⟨CS, hCS, hX⟩ : ∃ CS, X.mg "ShiftError" = some (.ref CS) ∧ ∀ x ∈ xs, ∃ C, XcF K.K X.mg cc.ys x C CS := by
        cases xs with
        | nil => simp at h10
        | cons x0 xs =>
          obtain ⟨C0, CS, F0⟩ := ok.cx.xcs x0 (hxs x0 List.mem_cons_self)
          refine ⟨CS, F0.mS, fun x hx => ?_⟩
          obtain ⟨C, CS', F⟩ := ok.cx.xcs x (hxs x hx)
          have e := F.mS
          rw [F0.mS] at e
          cases e
          exact ⟨C, F⟩
      have hloc := loc_ok h6 ok.cx.sc
      simp only [chkE] at h2
      simp only [Bool.and_eq_true, decide_eq_true_eq, Bool.not_eq_true'] at h2
      obtain ⟨⟨⟨g0, g1⟩, g2⟩, g3⟩ := h2
      have hs := chks_star g3
      have hys : ∀ {ys : List Str} {els : List Expr}, chkIs cc nm ys els = true → ∀ y ∈ ys, y ∈ cc.ys := by
        intro ys
        induction ys with
        | nil => intro els _ y hy; simp at hy
        | cons y0 ys ih =>
          intro els h y hy
          cases els with
          | nil => simp [chkIs] at h
          | cons t ts =>
            simp only [chkIs, Bool.and_eq_true] at h
            rcases List.mem_cons.mp hy with rfl | hy
            · have h0 := h.1
              split at h0
              · simp only [Bool.and_eq_true, decide_eq_true_eq] at h0; exact h0.2
              · cases h0
            · exact ih h.2 y hy
      have := ps_try_as (X := X) (x := "ShiftError") (n := nm) (c := .ref CS) (i := j) (np := np) (pos := pos) (pos' := hp) (suite := []) (tb := fun W' => tAsg (tCallS (spF K cl f) (WE W') (tAr K cl es)) (gT K (.nm i))) (ts := tSuite X.K X.mg j ys) (Wout := W) (body := [.Assign [.Name tg p0] (.Call (.Name g p1) (u :: us) [] p2) p3]) (b₀ := .Return (some (.List els lp)) rp)
        ok.stk ok.frm (by rw [ok.cx.hN]; exact ok.cx.nd) (by rw [ok.cx.hN]; exact h5) hloc ⟨ok.cx.gl h4, by decide, .inl hCS⟩ ok.tk
        (fun W' pn xe tk _ => by
          have okT := ok.cx.tr pn xe
          obtain ⟨n', addr, fd, ps, hr, hm, hk, hb, F⟩ := okT.fns f g g0
          exact pss_one (ps_asg (pe_callS (X := X.tr pn xe) (pos := p2) (p := p1) F hr (okT.gl g1) hm hk hb (fun σ => passAt tk σ) ((chk_ok es).es g3 okT).1 g2 (star_cons (hs u List.mem_cons_self)) (star_any fun v hv => hs v (List.mem_cons_of_mem _ hv))) ((chkT_ok okT (.nm i)).1 _ h1) (by rfl) (by rfl) (by rfl)))
        (fun a oe cls d pn hz hf => pss_one (ps_ret (pe_lst (pa_isL (cc := cc) ok.cx.sc (ok.cx.gl h8) (ok.cx.mg _ (by decide)) (by rw [ok.cx.hN]; exact h5) (.inl hloc) h7 h7' hz hf h9))))
      refine PS.imp this fun D σ H q => ?_
      rw [hK]
      exact x_tryc hX (hys h9) q
    · cases h
  | iff t a b iha ihb =>
    refine ⟨fun {cc W X s} h ok => ?_, fun h => by simp [chkSs] at h⟩
    simp only [chkS] at h
    split at h
    · simp only [Bool.and_eq_true] at h
      exact PS.imp (ps_if ((chk_ok t).e h.1.1 ok.cx).t (iha.ss h.1.2 ok) (ihb.ss h.2 ok)) fun _ _ _ q => x_iff q
    · cases h
  | forr t it b ih =>
    refine ⟨fun {cc W X s} h ok => ?_, fun h => by simp [chkSs] at h⟩
    simp only [chkS] at h
    split at h
    · simp only [Bool.and_eq_true, Bool.not_eq_true'] at h
      exact PS.imp (ps_for ok.pass ok.cx.calm ((chk_ok it).i h.1.1.1 ok.cx) ((chkT_ok ok.cx t).1 _ h.1.1.2) (ih.ss h.1.2 ok) (fun x => folded_ok h.2)) fun _ _ _ q => x_forr q
    · cases h
  | whil t b ih =>
    refine ⟨fun {cc W X s} h ok => ?_, fun h => by simp [chkSs] at h⟩
    simp only [chkS] at h
    split at h
    · rw [Bool.and_eq_true] at h
      exact PS.imp (ps_while ok.pass ((chk_ok t).e h.1 ok.cx).t (ih.ss h.2 ok)) fun _ _ _ q => x_whil q
    · cases h
  | brk =>
    refine ⟨fun {cc W X s} h ok => ?_, fun h => by simp [chkSs] at h⟩
    simp only [chkS] at h
    split at h
    · exact PS.imp ps_break fun _ _ _ q => x_brk q
    · cases h
  | cnt =>
    refine ⟨fun {cc W X s} h ok => ?_, fun h => by simp [chkSs] at h⟩
    simp only [chkS] at h
    split at h
    · exact PS.imp ps_continue fun _ _ _ q => x_cnt q
    · cases h
  | pass =>
    refine ⟨fun {cc W X s} h ok => ?_, fun h => by simp [chkSs] at h⟩
    simp only [chkS] at h
    split at h
    · exact PS.imp ps_pass fun _ _ _ q => x_pass q
    · exact PS.imp ps_doc fun _ _ _ q => x_pass q
    · cases h
end
end Sh

/-! ShV: the defs of the text do what the evaluator says -/
namespace Sh
open PySem PySem.Spec PyProof.Rows L2
section
variable {K : KK} {S : AS} {H : Hp} {fo f : List Addr} {e : En} {σ : Sl} {vs : List V} {args : List DA}
theorem es_args : ∀ {args : List DA} {vs : List V} {fo : List Addr} (n : Nat), RA K S H (args.map DA.mv) vs fo → ES K S H (args.map paSlot ++ List.replicate n .emp) (vs.map some ++ List.replicate n none) fo
  | [], vs, fo, n, h => by
    obtain ⟨rfl, rfl⟩ := RS.nil_inv (show RS K S H _ [] vs fo from h)
    simp only [List.map_nil, List.nil_append]
    induction n with
    | zero => exact .nil
    | succ n ih => exact .emp ih
  | a :: as, vs, fo, n, h => by
    obtain ⟨w, ws', f1, f2, rfl, rfl, h1, h2⟩ := RA.uncons h
    exact .val h1 (es_args n h2)
theorem pin_of : ∀ {args : List DA} {fe : En} {σ' : Sl} {vs : List V} {fo : List Addr}, ES K S H fe σ' fo → vs.length = args.length → (∀ (j : Nat) a, args[j]? = some a → a.pin = true → ∃ m v, fe[j]? = some (Slot.val true m v)) →
    (∀ (j : Nat) a, args[j]? = some a → a.pin = true → σ'[j]? = (vs[j]?).map some) → ∃ f, f.Sublist fo ∧ PinR K S H args fe vs f
  | [], fe, σ', vs, fo, E, hl, h1, h2 => by
    obtain rfl := List.length_eq_zero_iff.mp hl
    exact ⟨[], List.nil_sublist _, .nil _⟩
  | a :: as, fe, σ', [], fo, E, hl, h1, h2 => by simp at hl
  | a :: as, fe, σ', w :: vs, fo, E, hl, h1, h2 => by
    have hl' : vs.length = as.length := by simpa using hl
    cases E with
    | nil =>
      obtain ⟨f, hf, P⟩ := pin_of (args := as) (vs := vs) (ES.nil (K := K) (S := S) (H := H)) hl' (fun j b hb hp => by simpa using h1 (j + 1) b (by simpa using hb) hp) (fun j b hb hp => by simpa using h2 (j + 1) b (by simpa using hb) hp)
      cases hp : a.pin with
      | false => exact ⟨f, hf, .no hp P⟩
      | true => obtain ⟨m, v, q⟩ := h1 0 a rfl hp; simp at q
    | emp E =>
      obtain ⟨f, hf, P⟩ := pin_of E hl' (fun j b hb hp => by simpa using h1 (j + 1) b (by simpa using hb) hp) (fun j b hb hp => by simpa using h2 (j + 1) b (by simpa using hb) hp)
      cases hp : a.pin with
      | false => exact ⟨f, hf, .no hp P⟩
      | true => obtain ⟨m, v, q⟩ := h1 0 a rfl hp; simp at q
    | val R E =>
      obtain ⟨f, hf, P⟩ := pin_of E hl' (fun j b hb hp => by simpa using h1 (j + 1) b (by simpa using hb) hp) (fun j b hb hp => by simpa using h2 (j + 1) b (by simpa using hb) hp)
      cases hp : a.pin with
      | false => exact ⟨f, hf.trans (List.sublist_append_right _ _), .no hp P⟩
      | true =>
        have q := h2 0 a rfl hp
        simp at q
        subst q
        exact ⟨_, (List.Sublist.refl _).append hf, .yes hp rfl R P⟩
end
/-- the names of a def -/
def fnScB (N P : List Str) (sc : Scope) : Bool := (match sc.kind with | .function => true | _ => false) && !sc.isCoroutine && !sc.isGenerator && decide N.Nodup && decide (N.take P.length = P) && (P.all fun x => match sc.names.lookup x with | some .local => true | some .cell => true | _ => false) && (sc.names.all fun y => match y.2 with | .free => false | _ => true)
theorem fnSc_by {N P : List Str} {sc : Scope} (h : fnScB N P sc = true) : FnScope N P sc := by
  unfold fnScB at h
  simp only [Bool.and_eq_true, decide_eq_true_eq, List.all_eq_true, Bool.not_eq_true'] at h
  obtain ⟨⟨⟨⟨⟨⟨h1, h2⟩, h3⟩, h4⟩, h5⟩, h6⟩, h7⟩ := h
  refine ⟨?_, h2, h3, h4, h5, fun x hx => ?_, fun y hy e => ?_⟩
  · split at h1
    · assumption
    · cases h1
  · have := h6 x hx
    split at this
    · exact .inl (by assumption)
    · exact .inr (by assumption)
    · cases this
  · have := h7 y hy
    rw [e] at this; cases this
/-- a def of the text: its name, statement, parameters, names, and what the evaluator has for it -/
structure FT where
  g : Str
  st : Stmt
  ps : List Str
  N : List Str
  d : Def
  /-- does it hold generator expressions -/
  gn : Bool := false
/-- names of the module: what stays; exception classes that are raised; classes that are asked for -/
structure Gt where
  gs : List (Str × Val) := []
  xs : List Str := []
  ys : List Str := []
/-- by the text alone -/
def ftChk (fs : List Str) (gs : Gt) (t : FT) : Bool := fnScB t.N t.ps (defScope t.st) && chkSs ⟨t.N, defScope t.st, fun _ => true, fs, gs.gs, gs.xs, gs.ys, t.gn⟩ t.d.body (defBody t.st) && decide (t.d.np = t.ps.length) && decide (t.d.ns = t.N.length)
/-- in the heap -/
def FTok (K : KK) (mg : Str → Option Value) (t : FT) : Prop := ∃ f fd, Fun K.K t.g t.g t.st f fd ∧ mg t.g = some (.ref f) ∧ Binds K.K fd t.ps [] ∧ (t.gn = true → ∃ c P, fd.code = .ref c ∧ (c, P) ∈ K.cs)
/-- the defs of the text, n calls deep -/
def FnsAt (P : Program) (w : World) (K : KK) (mg : Str → Option Value) (base : Heap) (tb : List FT) (n : Nat) : Prop :=
  ∀ (f : Nat) (t : FT), tb[f]? = some t → ∃ addr fd, mg t.g = some (.ref addr) ∧ PySem.W.keepIn K.K (.ref addr) = true ∧ Binds K.K fd t.ps [] ∧ FnOk P w K.K mg base (L2.CX P w) (2 * n) addr fd t.ps (spF K (sem K.kt (tb.map (·.d)) n) f)
theorem cx_of {P : Program} {w : World} {K : KK} {mg : Str → Option Value} {base : Heap} {tb : List FT} {n : Nat} (hmg : ∀ x ∈ bltNames, mg x = none) (h : FnsAt P w K mg base tb n) {cc : Cc} (hfs : cc.fs = tb.map (·.g)) (hgs : ∀ x v, (x, v) ∈ cc.gs → GlR K mg x v) (hxs : ∀ x ∈ cc.xs, XcR K.K mg cc.ys x) {X : Cx} (hP : X.prog = P) (hw : X.w = w) (hK : X.K = K.K) (hm : X.mg = mg) (hb : X.base = base)
    (hr : Room (2 * n + 1) X.A) (hgn : cc.gn = true → ∃ c P', X.env.code = .ref c ∧ GxR.TabB X.base X.mg c P' ∧ P' ∈ K.tb) (hN : X.N = cc.N) (nd : cc.N.Nodup) (sc : X.env.scope = cc.sc) (fn : ∀ x, cc.fn x = true → X.fn x = true) (calm : X.calm = true) : CxOk cc K (sem K.kt (tb.map (·.d)) n) X := by
  subst hP hw hm hb
  refine ⟨hN, nd, sc, fn, calm, hK, by have := hr.un; omega, hmg, fun f g hg => ?_, hgs, hxs, fun hg => ⟨hgn hg, hr.mono (by omega), fun f g hg => ?_⟩⟩
  all_goals
    rw [hfs, List.getElem?_map] at hg
    obtain ⟨t, ht, rfl⟩ := Option.map_eq_some_iff.mp hg
    obtain ⟨addr, fd, h1, h2, h3, h4⟩ := h f t ht
  · exact ⟨2 * n, addr, fd, t.ps, hr.mono (by omega), h1, by rw [hK]; exact h2, by rw [hK]; exact h3, by rw [hK]; exact h4⟩
  · exact ⟨2 * n, addr, fd, t.ps, hr, h1, by rw [hK]; exact h2, by rw [hK]; exact h3, by rw [hK]; exact h4⟩
/-- THE RULE for a def, which tells its code object too -/
theorem okG {P : Program} {w : World} {K : PySem.W.Frag} {mg : Str → Option Value} {base : Heap} {x qual : Str} {st : Stmt} {f : Addr} {fd : FuncData} {N ps : List Str} {k : Nat} {sp : Sp} (F : Fun K x qual st f fd) (S : FnScope N ps (defScope st)) (len : ∀ vs H Q E, sp vs H Q E → vs.length = ps.length)
    (hbody : ∀ (cdv : Value), fd.code = cdv → ∀ (A : Around) (outer : List Env) (s : Shared) (H : Hp) (vs : List V) (Q : VK) (E : XK), Room k (A.deeper (envOfC qual (defScope st) s.heap.objs.size f cdv)) → sp vs H Q E →
      ∃ t, PSs (cxOf (L2.CX P w) P w K mg base N qual (defScope st) f cdv A outer s H E) (defBody st) t ∧ t { nx := fun _ H' => Q .non H', rt := Q } (start N vs) H) : FnOk P w K mg base (L2.CX P w) (k + 1) f fd ps sp := by
  obtain ⟨oc, od, kV, doc, pm, an, cdv, ct, osl, rfl, lk, hcd⟩ := F.ex
  exact fn_of lk hcd S len fun A outer s H vs Q E hr hsp => hbody cdv rfl A outer s H vs Q E hr hsp
theorem fn_step {P : Program} {w : World} {K : KK} {mg : Str → Option Value} {base : Heap} {tb : List FT} {gs : Gt} {n : Nat} (hmg : ∀ x ∈ bltNames, mg x = none) (hgs : ∀ x v, (x, v) ∈ gs.gs → GlR K mg x v) (hxs : ∀ x ∈ gs.xs, XcR K.K mg gs.ys x) (hc : tb.all (ftChk (tb.map (·.g)) gs) = true) (ih : FnsAt P w K mg base tb n) {f : Nat} {t : FT} (ht : tb[f]? = some t) {addr : Addr} {fd : FuncData} (F : Fun K.K t.g t.g t.st addr fd) (hT : ∀ p ∈ K.cs, GxR.TabB base mg p.1 p.2) (hgt : t.gn = true → ∃ c P, fd.code = .ref c ∧ (c, P) ∈ K.cs) :
    FnOk P w K.K mg base (L2.CX P w) (2 * (n + 1)) addr fd t.ps (spF K (sem K.kt (tb.map (·.d)) (n + 1)) f) := by
  have hct := List.all_eq_true.mp hc t (List.mem_of_getElem? ht)
  unfold ftChk at hct
  simp only [Bool.and_eq_true, decide_eq_true_eq] at hct
  obtain ⟨⟨⟨hsc, hchk⟩, hnp⟩, hns⟩ := hct
  have sc := fnSc_by hsc
  have hd : (tb.map (·.d))[f]? = some t.d := by rw [List.getElem?_map, ht]; rfl
  have hlen : ∀ vs H Q E, spF K (sem K.kt (tb.map (·.d)) (n + 1)) f vs H Q E → vs.length = t.ps.length := fun vs H Q E hs => by
    obtain ⟨S, fo, args, o, R, hc⟩ := hs
    have hl : vs.length = args.length := by have := RS.length R; simpa using this
    rcases hc with ⟨m, v, fe, hc, _⟩ | ⟨x, fe, hc, _⟩
    all_goals
      simp only [sem, hd, run] at hc
      split at hc
      · rename_i ha; rw [hl, ha, hnp]
      · cases hc
  refine okG (k := 2 * n + 1) F sc hlen fun cdv hcdv A outer s H vs Q E hr hs => ?_
  have hlv := hlen _ _ _ _ hs
  obtain ⟨S, fo, args, o, R, hc⟩ := hs
  have hl : vs.length = args.length := by have := RS.length R; simpa using this
  refine ⟨tEx K (sem K.kt (tb.map (·.d)) n) (fun cls d _ H => E cls d H) t.d.body, (stm_ok t.d.body).ss hchk ⟨?_, passes_of rfl, sc.kind, takes_of rfl rfl rfl rfl, rfl, rfl⟩, ?_⟩
  · refine cx_of hmg ih rfl hgs hxs rfl rfl rfl rfl rfl hr (fun hg => ?_) rfl sc.nd rfl (fun x _ => rfl) rfl
    obtain ⟨c, P', h1, h2⟩ := hgt hg
    exact ⟨c, P', hcdv.symm.trans h1, hT _ h2, List.mem_map.mpr ⟨_, h2, rfl⟩⟩
  rcases hc with ⟨m, v, fe, hc, k⟩ | ⟨x, fe, hc, k⟩
  rotate_left
  · simp only [sem, hd, run] at hc
    split at hc
    · rename_i ha
      have E0 := es_args (t.d.ns - t.d.np) R
      have hst : L2.start t.N vs = vs.map some ++ List.replicate (t.d.ns - t.d.np) none := by
        unfold L2.start
        rw [hns, hnp, hlv]
      rw [hst]
      split at hc
      · cases hc
      · cases hc
      · rename_i x1 e1 r1
        cases hc
        refine ⟨S, _, fo, .xc x, fe, E0, o, r1, fun S' H' fo' σ' st o' E' sp C hC => ?_⟩
        exact k C S' H' hC (st.perm fun x hx => by simp at hx) (o'.sub (List.nil_sublist _))
      · cases hc
    · cases hc
  · simp only [sem, hd, run] at hc
    split at hc
    · rename_i ha
      have E0 := es_args (t.d.ns - t.d.np) R
      have hst : L2.start t.N vs = vs.map some ++ List.replicate (t.d.ns - t.d.np) none := by
        unfold L2.start
        rw [hns, hnp, hlv]
      rw [hst]
      have pins : ∀ {S' : AS} {H' : Hp} {fo' : List Addr} {σ' : Sl} {f1 : Fl}, ex K.kt (sem K.kt (tb.map (·.d)) n) t.d.body (args.map paSlot ++ List.replicate (t.d.ns - t.d.np) .emp) = .ok f1 fe → ES K S' H' fe σ' fo' →
          SameP (args.map paSlot ++ List.replicate (t.d.ns - t.d.np) .emp) (vs.map some ++ List.replicate (t.d.ns - t.d.np) none) σ' → ∃ f, f.Sublist fo' ∧ PinR K S' H' args fe vs f := fun {S' H' fo' σ' f1} r E' sp => by
        have at_j : ∀ (j : Nat) a, args[j]? = some a → a.pin = true → (args.map paSlot ++ List.replicate (t.d.ns - t.d.np) Slot.emp)[j]? = some (.val true a.m a.v) := fun j a hj hp => by
          have hjl := (List.getElem?_eq_some_iff.mp hj).1
          rw [List.getElem?_append_left (by simpa using hjl), List.getElem?_map, hj]
          simp [paSlot, hp]
        refine pin_of E' hl (fun j a hj hp => (ex_kp t.d.body _ _ _ r).pins j ⟨_, _, at_j j a hj hp⟩) fun j a hj hp => ?_
        rw [sp.eq j ⟨_, _, at_j j a hj hp⟩]
        have hjl := (List.getElem?_eq_some_iff.mp hj).1
        rw [List.getElem?_append_left (by rw [List.length_map]; omega), List.getElem?_map]
      split at hc
      · rename_i e1 r1
        cases hc
        refine ⟨S, _, fo, .nx, fe, E0, o, r1, fun S' H' fo' σ' st o' E' sp => ?_⟩
        obtain ⟨f1, sb, P1⟩ := pins r1 E' sp
        exact k S' H' .non f1 [] (st.perm fun x hx => sb.subset (by simpa using hx)) (by rw [List.append_nil]; exact o'.sub sb) P1 Rep.non
      · rename_i m1 v1 e1 r1
        cases hc
        refine ⟨S, _, fo, .rt m v, fe, E0, o, r1, fun S' H' fo' σ' w1 g st o' E' sp R' => ?_⟩
        obtain ⟨f1, sb, P1⟩ := pins r1 E' sp
        have sb2 : (f1 ++ g).Sublist (fo' ++ g) := sb.append (List.Sublist.refl _)
        exact k S' H' w1 f1 g (st.perm fun x hx => sb2.subset hx) (o'.sub sb2) P1 R'
      · cases hc
      · cases hc
    · cases hc
theorem fns_ok {P : Program} {w : World} {K : KK} {mg : Str → Option Value} {base : Heap} {tb : List FT} {gs : Gt} (hmg : ∀ x ∈ bltNames, mg x = none) (hgs : ∀ x v, (x, v) ∈ gs.gs → GlR K mg x v) (hxs : ∀ x ∈ gs.xs, XcR K.K mg gs.ys x) (hc : tb.all (ftChk (tb.map (·.g)) gs) = true) (h : ∀ t ∈ tb, FTok K mg t) (hT : ∀ p ∈ K.cs, GxR.TabB base mg p.1 p.2) : ∀ n, FnsAt P w K mg base tb n
  | 0, f, t, ht => by
    obtain ⟨addr, fd, F, h1, h3, hgt⟩ := h t (List.mem_of_getElem? ht)
    refine ⟨addr, fd, h1, F.kp, h3, ⟨fun vs H Q E hs => ?_, fun A outer s H args us vs Q E _ _ _ _ hs => ?_⟩⟩
    all_goals
      obtain ⟨_, _, _, _, _, hc⟩ := hs
      rcases hc with ⟨_, _, _, hc, _⟩ | ⟨_, _, hc, _⟩ <;> cases hc
  | n + 1, f, t, ht => by
    obtain ⟨addr, fd, F, h1, h3, hgt⟩ := h t (List.mem_of_getElem? ht)
    exact ⟨addr, fd, h1, F.kp, h3, fn_step hmg hgs hxs hc (fns_ok hmg hgs hxs hc h hT n) ht F hT hgt⟩
end Sh

/-! ShW: the end of a law -/
namespace Sh
open PySem PySem.Spec PyProof.Rows L2
/-- what the top has written of a def -/
def Fact (K : PySem.W.Frag) (t : FT) : Prop := ∃ (f : Addr) (oc kV dc pm cd ct : Value) (od an : Option Addr) (sl : Array (Option Value)),
  PySem.W.nsIn K mainGlobals t.g = some (some (.ref f)) ∧ K.lookup f = some ⟨oc, od, .func (PySem.W.fnOf t.g t.g (defArgs t.st) (defBody t.st) (defScope t.st) .none kV dc pm an cd ct), sl⟩ ∧ PySem.W.codeIn K cd t.g = true ∧ PySem.W.keepIn K (.ref f) = true
theorem fact_mk {K : PySem.W.Frag} {t : FT} {f : Addr} {oc kV dc pm cd ct : Value} {od an : Option Addr} {sl : Array (Option Value)} (a : PySem.W.nsIn K mainGlobals t.g = some (some (.ref f)))
    (l : K.lookup f = some ⟨oc, od, .func (PySem.W.fnOf t.g t.g (defArgs t.st) (defBody t.st) (defScope t.st) .none kV dc pm an cd ct), sl⟩) (c : PySem.W.codeIn K cd t.g = true) (k : PySem.W.keepIn K (.ref f) = true) : Fact K t :=
  ⟨f, oc, kV, dc, pm, cd, ct, od, an, sl, a, l, c, k⟩
/-- how it binds -/
def Bnd (t : FT) : Prop := ∀ (kV dc pm cd ct : Value) (an : Option Addr) (us : List Value), us.length = t.ps.length → bindArgs (PySem.W.fnOf t.g t.g (defArgs t.st) (defBody t.st) (defScope t.st) .none kV dc pm an cd ct) ⟨us, []⟩ = pure (t.ps.zip us)
/-- what the top has written of a def that holds generator expressions: its code object c, the table P of it -/
def TFact (K : PySem.W.Frag) (g : Str) (c P : Addr) : Prop := ∃ (f : Addr) (oc : Value) (od : Option Addr) (fd : FuncData) (sl : Array (Option Value)) (dd : Option Addr) (vs : Array Value) (sl2 : Array (Option Value)),
  PySem.W.nsIn K mainGlobals g = some (some (.ref f)) ∧ K.lookup f = some ⟨oc, od, .func fd, sl⟩ ∧ fd.code = .ref c ∧ K.lookup c = some ⟨.type "code", dd, .fields vs, sl2⟩ ∧ vs[11]? = some (.ref P) ∧
  (∃ file tf flags tg inF text tt, vs.getD 18 .none = .str file tf ∧ vs.getD 7 .none = .int flags tg ∧ vs.getD 9 .none = .bool inF ∧ vs.getD 10 .none = .int text tt) ∧ K.lookup P = none
theorem tfact_mk {K : PySem.W.Frag} {g : Str} {c P : Addr} {f : Addr} {oc kV dc pm ct : Value} {od an dd : Option Addr} {sl sl2 : Array (Option Value)} {nm ql : Str} {pa : Arguments} {bd : List Stmt} {sc : Scope} {dv : Value} {vs : Array Value} {file : Str} {tf : Tok} {flags text : Int} {tg tt : Tok} {inF : Bool}
    (a : PySem.W.nsIn K mainGlobals g = some (some (.ref f))) (l : K.lookup f = some ⟨oc, od, .func (PySem.W.fnOf nm ql pa bd sc dv kV dc pm an (.ref c) ct), sl⟩) (k : K.lookup c = some ⟨.type "code", dd, .fields vs, sl2⟩) (v : vs[11]? = some (.ref P))
    (v1 : vs.getD 18 .none = .str file tf) (v2 : vs.getD 7 .none = .int flags tg) (v3 : vs.getD 9 .none = .bool inF) (v4 : vs.getD 10 .none = .int text tt) (n : K.lookup P = none) : TFact K g c P :=
  ⟨f, oc, od, _, sl, dd, vs, sl2, a, l, rfl, k, v, ⟨file, tf, flags, tg, inF, text, tt, v1, v2, v3, v4⟩, n⟩
/-- each of them with its code object and table -/
inductive TF2 (K : PySem.W.Frag) : List Str → List (Addr × Addr) → Prop
  | nil : TF2 K [] []
  | cons {g gs c P cs} : TFact K g c P → TF2 K gs cs → TF2 K (g :: gs) ((c, P) :: cs)
theorem TF2.get {K : PySem.W.Frag} {gs : List Str} {cs : List (Addr × Addr)} (h : TF2 K gs cs) : (∀ g ∈ gs, ∃ p ∈ cs, TFact K g p.1 p.2) ∧ ∀ p ∈ cs, ∃ g ∈ gs, TFact K g p.1 p.2 := by
  induction h with
  | nil => exact ⟨fun g h => by simp at h, fun p h => by simp at h⟩
  | cons h _ ih =>
    refine ⟨fun g hg => ?_, fun p hp => ?_⟩
    · rcases List.mem_cons.mp hg with rfl | hg
      · exact ⟨_, List.mem_cons_self, h⟩
      · obtain ⟨p, hp, q⟩ := ih.1 g hg
        exact ⟨p, List.mem_cons_of_mem _ hp, q⟩
    · rcases List.mem_cons.mp hp with rfl | hp
      · exact ⟨_, List.mem_cons_self, h⟩
      · obtain ⟨g, hg, q⟩ := ih.2 p hp
        exact ⟨g, List.mem_cons_of_mem _ hg, q⟩
/-- the names of the defs that hold generator expressions -/
def gnOf (tb : List FT) : List Str := (tb.filter (·.gn)).map (·.g)
theorem FTok.of {K : KK} {h : Heap} {mg : Str → Option Value} {t : FT} (X : K.K.In h) (G : h.Ns mainGlobals mg) (F : Fact K.K t) (b : Bnd t) (T : t.gn = true → ∃ p ∈ K.cs, TFact K.K t.g p.1 p.2) : FTok K mg t := by
  obtain ⟨f, oc, kV, dc, pm, cd, ct, od, an, sl, h1, h2, h3, h4⟩ := F
  refine ⟨f, _, fun_mk (st := t.st) h2 h3 h4, PySem.W.mg_of X G h1, Binds.all fun us hl => b kV dc pm cd ct an us hl, fun hg => ?_⟩
  obtain ⟨⟨c, P⟩, hp, f', oc', od', fd', sl', dd', vs', sl2', a, l, cdq, _⟩ := T hg
  rw [h1] at a; cases a
  rw [h2] at l; cases l
  exact ⟨c, P, cdq, hp⟩
/-- what the top has written of a name that holds what stays -/
def GlF (K : KK) (x : Str) (v : Val) : Prop := ∃ u w, PySem.W.nsIn K.K mainGlobals x = some (some u) ∧ RelV w u ∧ ∀ S H, Rep K S H .st v w []
theorem glf_int {K : PySem.W.Frag} {kt : Bool} {cs : List (Addr × Addr)} {x : Str} {i : Int} {t : Tok} (h : PySem.W.nsIn K mainGlobals x = some (some (.int i t))) : GlF ⟨K, kt, cs⟩ x (.int i) := ⟨_, .int i, h, ⟨t, rfl⟩, fun _ _ => Rep.int⟩
/-- things of the written part -/
def KV1 (K : KK) (v : Val) (u : Value) : Prop := ∃ w, RelV w u ∧ ∀ S H, Rep K S H .st v w []
def KVs (K : KK) (vs : List Val) (us : List Value) : Prop := ∃ ws, Vals ws us ∧ ∀ S H, RS K S H .st vs ws []
theorem kv_int {K : KK} {i : Int} {t : Tok} : KV1 K (.int i) (.int i t) := ⟨.int i, ⟨t, rfl⟩, fun _ _ => Rep.int⟩
theorem kv_non {K : KK} : KV1 K .non .none := ⟨.non, rfl, fun _ _ => Rep.non⟩
theorem kvs_nil {K : KK} : KVs K [] [] := ⟨[], .nil, fun _ _ => .nil _⟩
theorem kvs_cons {K : KK} {v : Val} {u : Value} {vs : List Val} {us : List Value} (h : KV1 K v u) (k : KVs K vs us) : KVs K (v :: vs) (u :: us) := by
  obtain ⟨w, r, h⟩ := h
  obtain ⟨ws, rs, k⟩ := k
  exact ⟨w :: ws, .cons r rs, fun S H => RS.cons (mk := .st) (fp := []) (h S H) (k S H)⟩
theorem kv_tup {K : PySem.W.Frag} {cs : List (Addr × Addr)} {a : Addr} {o : Obj} {its : Array Value} {n : Nat} {vs : List Val} (hl : K.lookup a = some o) (hc : o.cls = .type "tuple") (hd : o.data = .seq its n) (hz : its.size ≤ sizeLine) (h : KVs ⟨K, true, cs⟩ vs its.toList) : KV1 ⟨K, true, cs⟩ (.tup vs) (.ref a) := by
  obtain ⟨ws, r, h⟩ := h
  exact ⟨.ref a, rfl, fun S H => Rep.tup rfl (.inr ⟨rfl, rfl, .inr ⟨o, its, n, hl, hc, hd, hz, r⟩⟩) (h S H)⟩
theorem glf_ref {K : PySem.W.Frag} {kt : Bool} {cs : List (Addr × Addr)} {x : Str} {v : Val} {a : Addr} (h : PySem.W.nsIn K mainGlobals x = some (some (.ref a))) (k : KV1 ⟨K, kt, cs⟩ v (.ref a)) : GlF ⟨K, kt, cs⟩ x v := by
  obtain ⟨w, r, k⟩ := k
  exact ⟨_, w, h, r, k⟩
/-- the classes that isinstance asks for, in the written part -/
def ClsK (K : PySem.W.Frag) (y : Str) (cv : Value) : Prop := (∃ C, cv = .ref C ∧ PySem.W.nsIn K mainGlobals y = some (some (.ref C))) ∨ (y = "ValueError" ∧ PySem.W.nsIn K mainGlobals y = some none ∧ cv = .type "ValueError")
def TsK (K : PySem.W.Frag) (x : Str) (C : Addr) (ys : List Str) : Prop := ∀ y ∈ ys, ∃ cv, ClsK K y cv ∧ PySem.W.kitOne K (.ref C) cv = some (isSubX x y)
theorem ts_nil {K : PySem.W.Frag} {x : Str} {C : Addr} : TsK K x C [] := fun y h => by simp at h
theorem ts_own {K : PySem.W.Frag} {x y : Str} {C Cy : Addr} {ys : List Str} (a : PySem.W.nsIn K mainGlobals y = some (some (.ref Cy))) (k : PySem.W.kitOne K (.ref C) (.ref Cy) = some (isSubX x y)) (r : TsK K x C ys) : TsK K x C (y :: ys) := fun z h => by
  rcases List.mem_cons.mp h with rfl | h
  · exact ⟨_, .inl ⟨Cy, rfl, a⟩, k⟩
  · exact r z h
theorem ts_ve {K : PySem.W.Frag} {x : Str} {C : Addr} {ys : List Str} (a : PySem.W.nsIn K mainGlobals "ValueError" = some none) (k : PySem.W.kitOne K (.ref C) (.type "ValueError") = some (isSubX x "ValueError")) (r : TsK K x C ys) : TsK K x C ("ValueError" :: ys) := fun z h => by
  rcases List.mem_cons.mp h with rfl | h
  · exact ⟨_, .inr ⟨rfl, a, rfl⟩, k⟩
  · exact r z h
theorem kit_true {K : PySem.W.Frag} {v : Value} : PySem.W.kitOne K v v = some true := if_pos (beq_self_eq_true _)
theorem kit_ref {K : PySem.W.Frag} {v : Value} {C : Addr} {b : Bool} (n : (v == .ref C) = false) (i : PySem.W.isClsIn K C = true) (t : PySem.W.typeIn K (.ref C) = some (.type "type")) (s : PySem.W.subIn K v (.ref C) = some b) : PySem.W.kitOne K v (.ref C) = some b := by
  unfold PySem.W.kitOne PySem.W.kitCls
  have i' : (PySem.W.clsIn K C).isSome = true := i
  rw [n, if_neg (by decide)]
  dsimp only
  rw [i', t]
  exact s
theorem kit_typ {K : PySem.W.Frag} {v : Value} {T : String} {b : Bool} (n : (v == .type T) = false) (m : PySem.W.kitMeta T = true) (s : PySem.W.subIn K v (.type T) = some b) : PySem.W.kitOne K v (.type T) = some b := by
  unfold PySem.W.kitOne PySem.W.kitCls
  rw [n, if_neg (by decide)]
  dsimp only
  rw [m]
  exact s
/-- an exception class in the written part -/
def XcK (K : PySem.W.Frag) (ys : List Str) (x : Str) : Prop := ∃ C CS, PySem.W.nsIn K mainGlobals x = some (some (.ref C)) ∧ PySem.W.excIn K C [.type "ValueError", .type "Exception", .type "BaseException", .type "object"] "ValueError.__new__" = true ∧ PySem.W.keepIn K (.ref C) = true ∧
  PySem.W.subIn K (.ref C) (.type "BaseException") = some true ∧ PySem.W.typeIn K (.ref C) = some (.type "type") ∧ ExcC K C ∧ PySem.W.nsIn K mainGlobals "ShiftError" = some (some (.ref CS)) ∧ PySem.W.exmOne K (.ref C) (.ref CS) = some true ∧ TsK K x C ys
theorem xck_mk {K : PySem.W.Frag} {ys : List Str} {x : Str} {C CS : Addr} (a : PySem.W.nsIn K mainGlobals x = some (some (.ref C))) (ex : PySem.W.excIn K C [.type "ValueError", .type "Exception", .type "BaseException", .type "object"] "ValueError.__new__" = true) (kp : PySem.W.keepIn K (.ref C) = true)
    (sB : PySem.W.subIn K (.ref C) (.type "BaseException") = some true) (tT : PySem.W.typeIn K (.ref C) = some (.type "type"))
    (hg : PySem.W.findIn K (.ref C) "__getattribute__" = some (some (.builtin "BaseException.__getattribute__"))) (hk : PySem.W.findIn K (.ref C) "__getattr__" = some none) (hd : PySem.W.hasDictIn K C = true) (ha : PySem.W.findIn K (.ref C) "__class__" = some (some (.builtin "object.__class__")))
    (hn : PySem.W.specialIn K (.builtin "object.__class__") "__get__" = some (some (.builtin "getset_descriptor.__get__"))) (ht : PySem.W.takesIn K (.builtin "object.__class__") = some true) (hm : PySem.W.mroIn K C (.type "object") = some true)
    (mS : PySem.W.nsIn K mainGlobals "ShiftError" = some (some (.ref CS))) (eB : PySem.W.subIn K (.ref CS) (.type "BaseException") = some true) (eD : PySem.W.hasDictIn K CS = true) (eT : PySem.W.typeIn K (.ref CS) = some (.type "type")) (eS : PySem.W.subIn K (.ref C) (.ref CS) = some true) (ts : TsK K x C ys) : XcK K ys x :=
  ⟨C, CS, a, ex, kp, sB, tT, ⟨hg, hk, sB, hd, ha, hn, ht, hm⟩, mS, PySem.W.exm_ref eB eD eT eS, ts⟩
theorem XcK.of {K : KK} {h : Heap} {mg : Str → Option Value} {ys : List Str} {x : Str} (X : K.K.In h) (G : h.Ns mainGlobals mg) (e : XcK K.K ys x) : XcR K.K mg ys x := by
  obtain ⟨C, CS, a, ex, kp, sB, tT, ec, mS, es, ts⟩ := e
  refine ⟨C, CS, a, PySem.W.mg_of X G a, ex, kp, sB, tT, ec, PySem.W.mg_of X G mS, es, fun y hy => ?_⟩
  obtain ⟨cv, hc, hk⟩ := ts y hy
  refine ⟨cv, ?_, hk⟩
  rcases hc with ⟨Cy, rfl, h1⟩ | ⟨rfl, h1, rfl⟩
  · exact .inl ⟨Cy, rfl, PySem.W.mg_of X G h1⟩
  · exact .inr ⟨rfl, PySem.W.mg_none_of X G h1, rfl⟩
theorem cx_no {P : Program} {w : World} {l : List Env} {H : Hp} {s s' : Shared} {e : Value} (h : L2.CX P w l H s (fun _ _ _ => False) e s') : False := by
  obtain ⟨_, _, _, _, _, _, _, _, _, _, _, _, z⟩ := h
  exact z
/-- the law's def among them -/
theorem law_F {P : Program} {K : KK} {h : Heap} {mg : Str → Option Value} {fa : Addr} {tb : List FT} {gs : Gt} {li : Nat} {tl : FT} {n : Nat} {x : Str} (X : K.K.In h) (G : h.Ns mainGlobals mg) (hfa : mg tl.g = some (.ref fa)) (hl : tb[li]? = some tl) (hx : tl.ps = [x])
    (hc : tb.all (ftChk (tb.map (·.g)) gs) = true) (hb : ∀ t ∈ tb, Bnd t) (hF : ∀ t ∈ tb, Fact K.K t) (hz : ∀ y ∈ bltNames, PySem.W.nsIn K.K mainGlobals y = some none) (hg : ∀ x v, (x, v) ∈ gs.gs → GlF K x v) (hX : ∀ x ∈ gs.xs, XcK K.K gs.ys x) (hT : ∀ t ∈ tb, t.gn = true → ∃ p ∈ K.cs, TFact K.K t.g p.1 p.2) (w : World) :
    ∃ fd : FuncData, (∀ (s : Shared) (u : Value), BindsTo s fd ⟨[u], []⟩ [(x, u)]) ∧ ∀ base : Heap, K.K.In base → base.Ns mainGlobals mg → (∀ p ∈ K.cs, GxR.TabB base mg p.1 p.2) → FnOk P w K.K mg base (L2.CX P w) (2 * (n + 1)) fa fd [x] (spF K (sem K.kt (tb.map (·.d)) (n + 1)) li) := by
  have ok : ∀ t ∈ tb, FTok K mg t := fun t ht => .of X G (hF t ht) (hb t ht) (hT t ht)
  have hm : ∀ y ∈ bltNames, mg y = none := fun y hy => PySem.W.mg_none_of X G (hz y hy)
  have hgs : ∀ x v, (x, v) ∈ gs.gs → GlR K mg x v := fun x v h => by
    obtain ⟨u, w, h1, h2, h3⟩ := hg x v h
    exact ⟨u, w, PySem.W.mg_of X G h1, h2, h3⟩
  have htl := List.mem_of_getElem? hl
  obtain ⟨f, oc, kV, dc, pm, cd, ct, od, an, sl, h1, h2, h3, h4⟩ := hF tl htl
  have e := hfa.symm.trans (PySem.W.mg_of X G h1)
  cases e
  refine ⟨PySem.W.fnOf tl.g tl.g (defArgs tl.st) (defBody tl.st) (defScope tl.st) .none kV dc pm an cd ct, fun s u => .of_eq ?_, fun base Kb Gb Tb => ?_⟩
  · have := hb tl htl kV dc pm cd ct an [u] (by rw [hx]; rfl)
    rw [this, hx]; rfl
  · have := fn_step (P := P) (w := w) (base := base) (n := n) hm hgs (fun x hx => (hX x hx).of X G) hc (fns_ok hm hgs (fun x hx => (hX x hx).of X G) hc ok Tb n) hl (fun_mk (st := tl.st) h2 h3 h4) Tb fun hg => by
      obtain ⟨⟨c, P⟩, hp, f', oc', od', fd', sl', dd', vs', sl2', a, l, cdq, _⟩ := hT tl htl hg
      rw [h1] at a; cases a
      rw [h2] at l; cases l
      exact ⟨c, P, cdq, hp⟩
    rw [hx] at this
    exact this
theorem vals_int (K : KK) (S : AS) (H : Hp) : ∀ ns : List Int, RS K S H .st (ns.map Val.int) (ns.map V.int) []
  | [] => .nil _
  | n :: ns => .int (vals_int K S H ns)
theorem entry {K : KK} {cl : Calls} {f : Nat} {ns : List Int} {H : Hp} {a : Addr} {E : XK} (hS : SqL K.K H a (ns.map V.int)) (hT : ∀ p ∈ K.cs, H p.2 = some (.tbl #[])) (h : ∃ m fe, cl f [⟨false, .st, .lst (ns.map Val.int)⟩] = .ret m (.bl true) fe) : spF K cl f [.ref a] H (fun v _ => v = .bl true) E := by
  obtain ⟨m, fe, h⟩ := h
  have hT' : ∀ P ∈ K.tb, H P = some (.tbl #[]) := fun P hP => by
    obtain ⟨p, hp, rfl⟩ := List.mem_map.mp hP
    exact hT p hp
  refine ⟨fun x => (x = a ∧ H a ≠ none) ∨ x ∈ K.tb, [], [⟨false, .st, .lst (ns.map Val.int)⟩], ⟨by simp, by simp, fun x hx => ?_, fun P hP => ⟨.inr hP, #[], hT' P hP, True.intro⟩⟩, ?_, .inl ⟨m, .bl true, fe, h, fun S' H' w fo' g st o P R => (Rep.inv_bl R).1⟩⟩
  · rcases hx with hx | hx
    · rw [hx.1]; exact hx.2
    · rw [hT' x hx]; simp
  have hst : StL K (fun x => (x = a ∧ H a ≠ none) ∨ x ∈ K.tb) H a (ns.map V.int) := by
    rcases hS with (q | ⟨o, q⟩) | q
    · exact .inl ⟨.inl ⟨rfl, by rw [q]; simp⟩, q⟩
    · exact .inr (.inl ⟨o, q⟩)
    · exact .inr (.inr q)
  have := RS.cons (mk := .tc .st .tn) (Rep.lstS hst (vals_int K _ H ns)) (.nil _)
  exact this
/-- the law's promise at the head's heap -/
theorem law_G {l : PySem.W.OpenLaw} {w : World} {K0 : PySem.W.Frag} (kt : Bool) {h : Heap} {mg : Str → Option Value} {fa : Addr} {tb : List FT} {gs : Gt} {li : Nat} {tl : FT} {n m : Nat} {x : Str} {cs : List (Addr × Addr)} (X : K0.In h) (G : h.Ns mainGlobals mg) (hfa : mg tl.g = some (.ref fa)) (hl : tb[li]? = some tl) (hx : tl.ps = [x])
    (hc : tb.all (ftChk (tb.map (·.g)) gs) = true) (hb : ∀ t ∈ tb, Bnd t) (hT : TF2 K0 (gnOf tb) cs) (hO : ∀ g ∈ gnOf tb, ∀ f, mg g = some (.ref f) → LamX.OwnTab K0 f h)
    (ht : ∀ ns : List Int, ns.length ≤ m → (∀ z ∈ ns, PySem.Builtin.Int.intBits z ≤ 1048576) → ∃ mk fe, sem kt (tb.map (·.d)) (n + 1) li [⟨false, .st, .lst (ns.map Val.int)⟩] = .ret mk (.bl true) fe)
    (hF : ∀ t ∈ tb, Fact K0 t) (hz : ∀ y ∈ bltNames, PySem.W.nsIn K0 mainGlobals y = some none) (hg : ∀ x v, (x, v) ∈ gs.gs → GlF ⟨K0, kt, cs⟩ x v) (hX : ∀ x ∈ gs.xs, XcK K0 gs.ys x) :
    LamX.LawAtS l w K0 (L2.CX l.prog w) (2 * (n + 1)) m x mg fa h := by
  obtain ⟨g1, g2⟩ := hT.get
  have hT1 : ∀ t ∈ tb, t.gn = true → ∃ p ∈ cs, TFact K0 t.g p.1 p.2 := fun t ht hg => g1 t.g (List.mem_map.mpr ⟨t, List.mem_filter.mpr ⟨ht, hg⟩, rfl⟩)
  obtain ⟨fd, h1, h2⟩ := law_F (P := l.prog) (K := ⟨K0, kt, cs⟩) (n := n) X G hfa hl hx hc hb hF hz hg hX hT1 w
  refine ⟨fd, cs, spF ⟨K0, kt, cs⟩ (sem kt (tb.map (·.d)) (n + 1)) li, fun p hp => ?_, fun p hp => ?_, fun p hp => ?_, h1, fun H a ns h3 h4 h5 h6 => entry (K := ⟨K0, kt, cs⟩) h6 h5 (ht ns h3 h4), fun b hb hn ht => h2 b hb hn fun p hp => ⟨(ht p hp).code, (ht p hp).bm, (ht p hp).gP⟩⟩
  · obtain ⟨g, hg, f, oc, od, fd1, sl, dd, vs, sl2, a, lk, cdq, lc, v, _⟩ := g2 p hp
    exact hO g hg f (PySem.W.mg_of X G a) p.1 p.2 _ fd1 _ dd vs sl2 lk rfl cdq lc v
  · obtain ⟨g, hg, f, oc, od, fd1, sl, dd, vs, sl2, a, lk, cdq, lc, v, _, nn⟩ := g2 p hp
    exact nn
  · obtain ⟨g, hg, f, oc, od, fd1, sl, dd, vs, sl2, a, lk, cdq, lc, v, ⟨file, tf, flags, tg, inF, text, tt, v1, v2, v3, v4⟩, nn⟩ := g2 p hp
    refine ⟨_, vs, file, tf, flags, tg, inF, text, tt, X _ _ lc, rfl, rfl, v, ?_, v1, v2, v3, v4, fun e => ?_⟩
    · rw [Array.getD_eq_getD_getElem?, v]; rfl
    · rw [e] at lc
      rw [nn] at lc; cases lc
/-- the end of a law, the tables of the defs gs told -/
theorem walk_tabs {l : PySem.W.OpenLaw} {n k : Nat} {q : Program} {loose : List Str} {XP : (Str → Option Value) → Heap → Prop} {YP : World → Heap → Prop} {d : DefRec} {K : Params → PySem.W.Frag} {CX : World → CXT} {x : Str} (gs : List Str)
    (hn : l.most = some n) (hn2 : n ≤ sizeLine) (hdf : d.params.defaults = []) (hr : Room k callerA) (hrec : gs.all (fun g => (recsOf q).any fun e => e.name == g) = true) (hY : ∀ (w : World) (h : Heap), YP w h → (K w.params).In h)
    (F : ∀ (w : World) (mg : Str → Option Value) (fa : Addr) (h : Heap), YP w h → (K w.params).In h → h.Ns mainGlobals mg → mg d.name = some (.ref fa) → (∀ g ∈ gs, ∀ f, mg g = some (.ref f) → LamX.OwnTab (K w.params) f h) → LamX.LawAtS l w (K w.params) (CX w) k n x mg fa h)
    (hCX : ∀ (w : World) (H : Hp) (s : Shared) (e : Value) (s' : Shared), CX w [] H s (fun _ _ _ => False) e s' → False) :
    PySem.W.WalkO q loose XP YP l.row.toRowW d [] (fun f vs => PySem.call f vs) := by
  refine Att.attach_callB hn hdf fun w s₀ s₁ mg mb fa o pm cd doc a vs ns G Y ho hd hcd hmg hobj hints hlen hbits hg => ?_
  have KX := hY w _ Y
  have own : ∀ g ∈ gs, ∀ f, mg g = some (.ref f) → LamX.OwnTab (K w.params) f s₁.heap := fun g hgs f hmf c P o1 fd1 e dd vs1 sl k1 k2 k3 k4 k5 => by
    obtain ⟨dL, hm, hn1⟩ := List.any_eq_true.mp (List.all_eq_true.mp hrec g hgs)
    have hn2 : dL.name = g := beq_iff_eq.mp hn1
    obtain ⟨a', o', fd', c', P', h1, h2, h3, h4, h5, h6⟩ := G.T.tab dL hm
    rw [hn2, hmf] at h1
    cases h1
    have g1 := KX _ _ k1
    rw [g1] at h2
    cases h2
    rw [k2] at h3
    cases h3
    rw [k3] at h4
    cases h4
    obtain ⟨⟨oc, vc, e1, _, e3, e4⟩, hP⟩ := h6
    have g2 := KX _ _ k4
    rw [g2] at e1
    cases e1
    cases e3
    rw [k5] at e4
    cases e4
    exact hP
  obtain ⟨fd, cs, sp, hT, nT, C, hb, hsp, hF⟩ := F w mg fa _ Y KX G.T.g hmg own
  exact LamX.law_callTs KX G.T.g G.T.b G.T.builtins G.T.nolimit hg hT nT C G.T.bmain hobj hints (Nat.le_trans hlen hn2) hr hF hb (fun H hH hS => hsp H a ns hlen hbits hH hS) fun H e s' => hCX w H s₁ e s'
end Sh

/-! ShX: the evaluator at work: loops, comprehensions -/
namespace Sh
open PySem PySem.Spec PyProof.Rows L2
/-- a loop by what holds at each turn -/
theorem forL_rule {t : T} {m : Mk} {b : En → Res Fl} {P : List Val → En → Prop} {Post : Res Fl → Prop}
    (step : ∀ x xs e, P (x :: xs) e → ∃ e1, asgT t (m, x) e = some e1 ∧ ((∃ e2, (b e1 = .ok .nx e2 ∨ b e1 = .ok .ct e2) ∧ P xs e2) ∨ (∃ e2, b e1 = .ok .bk e2 ∧ Post (.ok .nx e2)) ∨ ∃ m' v e2, b e1 = .ok (.rt m' v) e2 ∧ Post (.ok (.rt m' v) e2)))
    (fin : ∀ e, P [] e → Post (.ok .nx e)) : ∀ (xs : List Val) (e : En), P xs e → Post (forL t m b xs e)
  | [], e, h => fin e h
  | x :: xs, e, h => by
    obtain ⟨e1, h1, h2⟩ := step x xs e h
    unfold forL
    rw [h1]
    simp only
    rcases h2 with ⟨e2, h2 | h2, h3⟩ | ⟨e2, h2, h3⟩ | ⟨m', v, e2, h2, h3⟩
    · rw [h2]; exact forL_rule step fin xs e2 h3
    · rw [h2]; exact forL_rule step fin xs e2 h3
    · rw [h2]; exact h3
    · rw [h2]; exact h3
/-- a loop without an end of its own -/
theorem forL_nx {t : T} {m : Mk} {b : En → Res Fl} {P : List Val → En → Prop} (step : ∀ x xs e, P (x :: xs) e → ∃ e1, asgT t (m, x) e = some e1 ∧ ∃ e2, b e1 = .ok .nx e2 ∧ P xs e2) {xs : List Val} {e : En} (h : P xs e) : ∃ e', forL t m b xs e = .ok .nx e' ∧ P [] e' := by
  refine forL_rule (P := P) (Post := fun r => ∃ e', r = .ok .nx e' ∧ P [] e') (fun x xs e h => ?_) (fun e h => ⟨e, rfl, h⟩) xs e h
  obtain ⟨e1, h1, e2, h2, h3⟩ := step x xs e h
  exact ⟨e1, h1, .inl ⟨e2, .inl h2, h3⟩⟩
theorem compL_eval {own : List Nat} {t : T} {b : En → Res (Option Val)} {o : Val → Option Val} {e0 : En} : ∀ {xs acc : List Val} {e : En}, setEmp e own = e0 → (∀ x ∈ xs, ∃ e2 e3, asgT t (.st, x) e0 = some e2 ∧ b e2 = .ok (o x) e3 ∧ setEmp e3 own = e0) → acc.length + xs.length ≤ sizeLine →
    ∃ e', compL own t .st b xs acc e = .ok (acc ++ xs.filterMap o) e' ∧ setEmp e' own = e0
  | [], acc, e, he, _, _ => ⟨e, by simp [compL], he⟩
  | x :: xs, acc, e, he, h, hl => by
    obtain ⟨e2, e3, h1, h2, h3⟩ := h x List.mem_cons_self
    unfold compL
    rw [he, h1]
    simp only
    rw [h2]
    simp only [Res.bind]
    simp only [List.length_cons] at hl
    cases ho : o x with
    | none =>
      obtain ⟨e', r, h4⟩ := compL_eval (acc := acc) h3 (fun y hy => h y (List.mem_cons_of_mem _ hy)) (by omega)
      exact ⟨e', by rw [r, List.filterMap_cons_none ho], h4⟩
    | some v =>
      simp only
      rw [if_pos (by omega)]
      obtain ⟨e', r, h4⟩ := compL_eval (acc := acc ++ [v]) h3 (fun y hy => h y (List.mem_cons_of_mem _ hy)) (by simp; omega)
      exact ⟨e', by rw [r, List.filterMap_cons_some ho]; simp, h4⟩
theorem backS_same {e e' : En} {own : List Nat} (h : setEmp e' own = setEmp e own) : backS e own e' = e := by
  have hl : e'.length = e.length := by
    have := congrArg List.length h
    rwa [setEmp_len, setEmp_len] at this
  refine List.ext_getElem? fun j => ?_
  rw [backS_get hl]
  split
  · rfl
  · rename_i hj
    have := congrArg (fun l => l[j]?) h
    simp only [setEmp_get hj] at this
    exact this
/-- a comprehension by its items -/
theorem comp_eval {kt : Bool} {c : Calls} {m : Mk} {own : List Nat} {t : T} {it cd elt : Sh.E} {e e1 : En} {xs : List Val} {o : Val → Option Val} (h1 : evW kt c it e = .ok (.st, xs) e1) (h2 : ownOk e1 own = true)
    (h : ∀ x ∈ xs, ∃ e2 e3, asgT t (.st, x) (setEmp e1 own) = some e2 ∧ ((evC kt c cd e2).bind fun k e => if k then (ev kt c elt e).bind fun x e => (takeA x e).bind fun v e => optR ((fit m v).map some) e else .ok none e) = .ok (o x) e3 ∧ setEmp e3 own = setEmp e1 own) (hl : xs.length ≤ sizeLine) :
    ev kt c (.comp m own t it cd elt) e = .ok (.tmp (.l m) (.lst (xs.filterMap o))) e1 := by
  simp only [ev]
  rw [h1]
  simp only [Res.bind, h2, Bool.not_true, Bool.false_eq_true, if_false]
  obtain ⟨e', r, h3⟩ := compL_eval (o := o) (acc := []) (e := setEmp e1 own) (e0 := setEmp e1 own) (own := own) (t := t) (xs := xs)
    (b := fun e => (evC kt c cd e).bind fun k e => if k then (ev kt c elt e).bind fun x e => (takeA x e).bind fun v e => optR ((fit m v).map some) e else .ok none e) (by
      have : ∀ (is : List Nat) (e : En), setEmp (setEmp e is) is = setEmp e is := fun is e => List.ext_getElem? fun j => by
        by_cases hj : j ∈ is
        · by_cases hjl : j < e.length
          · have q : ∀ {is : List Nat} {e : En}, j ∈ is → j < e.length → (setEmp e is)[j]? = some .emp := by
              intro is
              induction is with
              | nil => intro e h; simp at h
              | cons i is ih =>
                intro e h hl
                unfold setEmp
                rcases List.mem_cons.mp h with rfl | h
                · exact setEmp_emp (by rw [List.getElem?_set_self hl])
                · exact ih h (by simpa using hl)
            rw [q hj (by rw [setEmp_len]; exact hjl), q hj hjl]
          · rw [List.getElem?_eq_none (by rw [setEmp_len, setEmp_len]; omega), List.getElem?_eq_none (by rw [setEmp_len]; omega)]
        · rw [setEmp_get hj]
      exact this own e1) h (by simpa using hl)
  rw [List.nil_append] at r
  simp only [Res.bind] at r
  rw [r]
  simp only
  rw [backS_same h3]
end Sh

/-! ShY: the helpers that all laws have -/
namespace Sh
open PySem PySem.Spec PyProof.Rows L2
variable {kt : Bool}
def cTake : Sh.C := (.seq (.iff (.cmp .eq (.blt .len (.cons (.var 0) .nil)) (.int 0))
(.seq (.ret (.int 0))
.nil)
.nil)
(.seq (.ret (.bin .mod (.blt .int (.cons (.meth .pop (.var 0) .nil) .nil)) (.var 1)))
.nil))
/-- the last draw, and what is left -/
def takeV (ds : List Int) (m : Int) : Int := (ds.getLast?.getD 0).fmod m
abbrev ints' (ns : List Int) : Val := .lst (ns.map Val.int)
theorem take_nil {c : Calls} {m : Int} : run kt c ⟨2, 2, cTake⟩ [⟨true, .l .st, ints' []⟩, ⟨false, .st, .int m⟩] = .ret .st (.int 0) [.val true (.l .st) (ints' []), .val false .st (.int m)] := by
  rfl
theorem take_cons {c : Calls} {m d : Int} {ds : List Int} (hm : m ≠ 0) : run kt c ⟨2, 2, cTake⟩ [⟨true, .l .st, ints' (ds ++ [d])⟩, ⟨false, .st, .int m⟩] = .ret .st (.int (d.fmod m)) [.val true (.l .st) (ints' ds), .val false .st (.int m)] := by
  have h1 : ¬ ((((ds ++ [d]).map Val.int).length : Nat) : Int) = 0 := by simp; omega
  have h2 : ((ds ++ [d]).map Val.int)[((ds ++ [d]).map Val.int).length - 1]? = some (.int d) := by simp
  have h3 : ((ds ++ [d]).map Val.int).dropLast = ds.map Val.int := by simp
  simp only [run, List.length_cons, List.length_nil, if_true, List.map_cons, List.map_nil, paSlot, Nat.reduceSub, List.replicate_zero, List.cons_append, List.nil_append, List.append_nil, cTake, ex, ev, evs, argOf, optR, Res.bind, readA, readAs, isPart, Bool.false_and, Bool.false_eq_true, if_false, List.getElem?_cons_zero, List.getElem?_cons_succ, valR, bltV, cmpV, eqV, scalEq, Option.map_some, asB, h1, decide_false, isLS, Bool.not_true, takeAs, mutV, h2, h3, List.set_cons_zero, binV, ne_eq, hm, not_false_eq_true, takeA]
def npS : Slot → Bool
  | .val true _ _ => false
  | _ => true
theorem asgT_eqM {i : Nat} {m : Mk} {x : Val} {e : En} (hm : m ≠ .pr) : asgT (.nm i) (m, x) e = match e[i]? with
    | some s => if npS s = true then some (e.set i (.val false m x)) else none
    | none => none := by
  simp only [asgT]
  rw [if_neg hm]
  cases e[i]? with
  | none => rfl
  | some s =>
    cases s with
    | emp => rfl
    | val p m v => cases p <;> rfl
theorem asgT_eq {i : Nat} {x : Val} {e : En} : asgT (.nm i) (.st, x) e = match e[i]? with
    | some s => if npS s = true then some (e.set i (.val false .st x)) else none
    | none => none := asgT_eqM (by decide)
def cTurn : Sh.C := (.seq (.asg (.nm 6) (.bin .mod (.var 5) (.blt .len (.cons (.var 2) .nil))))
(.seq (.iff (.cmp .ge (.idx (.var 2) (.var 6)) (.bin .pow (.int 10) (.int 18)))
(.seq (.expr (.meth .append (.var 4) (.cons (.bin .mod (.blt .int (.cons (.idx (.var 3) (.var 6)) .nil)) (.int 1000)) .nil)))
(.seq (.sto (.var 3) (.var 6) (.bin .fdiv (.idx (.var 3) (.var 6)) (.int 1000)))
.nil))
(.seq (.asg (.nm 8) (.bin .mod (.blt .int (.cons (.bin .add (.bin .add (.bin .mul (.idx (.var 2) (.var 6)) (.int 48271)) (.bin .mul (.var 5) (.int 69621))) (.int 11)) .nil)) (.int 2147483647)))
(.seq (.expr (.meth .append (.var 4) (.cons (.bin .mod (.blt .int (.cons (.bin .add (.bin .add (.bin .mul (.var 8) (.var 8)) (.bin .mul (.int 3) (.var 8))) (.var 5)) .nil)) (.int 1000003)) .nil)))
.nil)))
.nil))
theorem fmod_nat {k n : Nat} : ((k : Int)).fmod (n : Int) = ((k % n : Nat) : Int) := by
  rw [Int.fmod_eq_emod_of_nonneg _ (by omega)]; rfl
theorem ixN_nat {n j : Nat} (h : j < n) : L2.ixN n (j : Int) = some j := by
  unfold L2.ixN
  rw [if_pos (by omega)]
  simp [h]
theorem atI_nat' {α : Type} {xs : List α} {j : Nat} {x : α} (h : xs[j]? = some x) : L2.atI xs (j : Int) = some x := by
  rw [atI_bind, ixN_nat (List.getElem?_eq_some_iff.mp h).1]
  exact h
theorem getI {xs : List Int} {j : Nat} {a : Int} (h : xs[j]? = some a) : (xs.map Val.int)[j]? = some (Val.int a) := by
  rw [List.getElem?_map, h]; rfl
theorem pow18 : ((10 : Int) ^ (18 : Int).toNat) = 1000000000000000000 := by decide
theorem nat10 : (Int.natAbs 10 < 18446744073709551616) = True := by simp
theorem nat1000 : (Int.natAbs 1000 < 1073741824) = True := by simp
theorem small_48271 (a : Int) : mulOk a 48271 = true := by simp [mulOk, smallI]
theorem small_69621 (a : Int) : mulOk a 69621 = true := by simp [mulOk, smallI]
theorem small_3 (a : Int) : mulOk 3 a = true := by simp [mulOk, smallI]
theorem small_once (x : Int) : mulOk (x.fmod 2147483647) (x.fmod 2147483647) = true := by
  have h1 : 0 ≤ x.fmod 2147483647 := Int.fmod_nonneg_of_pos _ (by decide)
  have h2 : x.fmod 2147483647 < 2147483647 := Int.fmod_lt_of_pos _ (by decide)
  have : smallI (x.fmod 2147483647) = true := by
    unfold smallI
    exact decide_eq_true ⟨by omega, by omega⟩
  simp [mulOk, this]
theorem ex_seq {c : Calls} {a b : Sh.C} {e e1 : En} (h : ex kt c a e = .ok .nx e1) : ex kt c (.seq a b) e = ex kt c b e1 := by
  simp only [ex, h, Res.bind]
theorem ex_one {c : Calls} {a : Sh.C} {e e1 : En} (h : ex kt c a e = .ok .nx e1) : ex kt c (.seq a .nil) e = .ok .nx e1 := by
  rw [ex_seq h]; rfl
theorem ex_iff {c : Calls} {t : Sh.E} {a b : Sh.C} {e e1 : En} {k : Bool} (h : ev kt c t e = .ok (.tmp .st (.bl k)) e1) : ex kt c (.iff t a b) e = if k then ex kt c a e1 else ex kt c b e1 := by
  simp only [ex, h, Res.bind, asB]
def cOnceQ (u v t q : Int) : Sh.E := (.bin .mod (.blt .int (.cons (.bin .add (.bin .add (.bin .mul (.idx (.var 2) (.var 6)) (.int u)) (.bin .mul (.var 5) (.int v))) (.int t)) .nil)) (.int q))
def cPutQ (q : Int) : Sh.C := (.expr (.meth .append (.var 4) (.cons (.bin .mod (.blt .int (.cons (.bin .add (.bin .add (.bin .mul (.var 8) (.var 8)) (.bin .mul (.int 3) (.var 8))) (.var 5)) .nil)) (.int q)) .nil)))
theorem ev_binI {kt : Bool} {c : Calls} {op : BOp} {a b : Sh.E} {e e1 e2 : En} {m m' : Mk} {i j z : Int} (h1 : ev kt c a e = .ok (.tmp m (.int i)) e1) (h2 : ev kt c b e1 = .ok (.tmp m' (.int j)) e2) (h3 : binV op (m, .int i) (m', .int j) = some (.st, .int z)) : ev kt c (.bin op a b) e = .ok (.tmp .st (.int z)) e2 := by
  simp only [ev, h1, Res.bind, isPart, Bool.false_and, Bool.false_eq_true, if_false, h2, readA, h3, valR]
theorem ev_intB {kt : Bool} {c : Calls} {a : Sh.E} {e e1 : En} {m : Mk} {i : Int} (h1 : ev kt c a e = .ok (.tmp m (.int i)) e1) : ev kt c (.blt .int (.cons a .nil)) e = .ok (.tmp .st (.int i)) e1 := by
  simp only [ev, evs, h1, Res.bind, isPart, Bool.false_and, Bool.false_eq_true, if_false, readAs, readA, bltV, valR]
theorem ev_vst {kt : Bool} {c : Calls} {e : En} {i : Nat} {p : Bool} {v : Val} (h : e[i]? = some (.val p .st v)) : ev kt c (.var i) e = .ok (.tmp .st v) e := by
  simp only [ev, h, argOf, optR]
theorem ev_vsl {kt : Bool} {c : Calls} {e : En} {i : Nat} {p : Bool} {m : Mk} {v : Val} (h : e[i]? = some (.val p (.l m) v)) : ev kt c (.var i) e = .ok (.slot i) e := by
  simp only [ev, h, argOf, optR]
/-- an item that never changes of a list of ours -/
theorem ev_ixl {kt : Bool} {c : Calls} {e e1 : En} {i : Nat} {p : Bool} {xs : List Val} {x : Sh.E} {m : Mk} {k : Int} {v : Val} (h : e[i]? = some (.val p (.l .st) (.lst xs))) (h1 : ev kt c x e = .ok (.tmp m (.int k)) e1) (h2 : e1[i]? = some (.val p (.l .st) (.lst xs))) (h3 : L2.atI xs k = some v) : ev kt c (.idx (.var i) x) e = .ok (.tmp .st v) e1 := by
  simp only [ev, h, argOf, optR, Res.bind, isPart, Bool.false_and, Bool.false_eq_true, if_false, h1, readA, idxA, h2, idxV, h3, Option.map_some, Mk.hd, if_true]
theorem bv_add {m m' : Mk} {i j : Int} : binV .add (m, .int i) (m', .int j) = some (.st, .int (i + j)) := rfl
theorem bv_sub {m m' : Mk} {i j : Int} : binV .sub (m, .int i) (m', .int j) = some (.st, .int (i - j)) := rfl
theorem bv_mul {m m' : Mk} {i j : Int} (h : mulOk i j = true) : binV .mul (m, .int i) (m', .int j) = some (.st, .int (i * j)) := by
  simp only [binV, h, if_true]
theorem bv_mod {m m' : Mk} {i j : Int} (h : j ≠ 0) : binV .mod (m, .int i) (m', .int j) = some (.st, .int (i.fmod j)) := by
  simp only [binV, ne_eq, h, not_false_eq_true, if_true]
theorem once_okQ {u v t q : Int} (hu : smallI u = true) (hv : smallI v = true) (hq0 : q ≠ 0) {c : Calls} {S M s7 s8 : Slot} {cells : List Int} {R Dr : Slot} {k j : Nat} {a : Int} (ha : cells[j]? = some a) :
    ev kt c (cOnceQ u v t q) [S, M, .val false (.l .st) (ints' cells), R, Dr, .val false .st (.int k), .val false .st (.int j), s7, s8] = .ok (.tmp .st (.int ((a * u + (k : Int) * v + t).fmod q))) [S, M, .val false (.l .st) (ints' cells), R, Dr, .val false .st (.int k), .val false .st (.int j), s7, s8] := by
  have ga := atI_nat' (getI ha)
  have hu' : mulOk a u = true := by simp [mulOk, hu]
  have hv' : mulOk (k : Int) v = true := by simp [mulOk, hv]
  exact ev_binI (ev_intB (ev_binI (ev_binI (ev_binI (ev_ixl rfl (ev_vst rfl) rfl ga) rfl (bv_mul hu')) (ev_binI (ev_vst rfl) rfl (bv_mul hv')) bv_add) rfl bv_add)) rfl (bv_mod hq0)
theorem small_q {q : Int} (h0 : 0 < q) (h1 : q < 2 ^ 64) (x : Int) : mulOk (x.fmod q) (x.fmod q) = true := by
  have a1 : 0 ≤ x.fmod q := Int.fmod_nonneg_of_pos _ h0
  have a2 : x.fmod q < q := Int.fmod_lt_of_pos _ h0
  have : smallI (x.fmod q) = true := by
    unfold smallI
    exact decide_eq_true ⟨by omega, by omega⟩
  simp [mulOk, this]
theorem put_okQ {q : Int} (hq0 : q ≠ 0) {c : Calls} {S M C R s6 s7 : Slot} {draws : List Int} {k : Nat} {o : Int} (ho : mulOk o o = true) (hd : draws.length < sizeLine) :
    ex kt c (cPutQ q) [S, M, C, R, .val false (.l .st) (ints' draws), .val false .st (.int k), s6, s7, .val false .st (.int o)] = .ok .nx [S, M, C, R, .val false (.l .st) (ints' (draws ++ [(o * o + 3 * o + (k : Int)).fmod q])), .val false .st (.int k), s6, s7, .val false .st (.int o)] := by
  have hdl : (draws.map Val.int).length < sizeLine := by rw [List.length_map]; exact hd
  have app : ∀ z : Int, draws.map Val.int ++ [Val.int z] = (draws ++ [z]).map Val.int := fun z => by simp
  simp only [cPutQ, ex, ev, evs, argOf, optR, Res.bind, readA, readAs, isPart, Bool.false_and, Bool.false_eq_true, if_false, List.getElem?_cons_zero, List.getElem?_cons_succ, valR, bltV, binV, ne_eq, not_false_eq_true, if_true, isLS, Bool.not_true, takeAs, mutV, List.set_cons_zero, List.set_cons_succ, takeA, small_3, ho, hdl, fit, true_or, app, Option.map_some, hq0, isTmp, Bool.and_true]
def bigQ : Int := 1000000000000000000
/-- the turn, its numbers as letters -/
def cTurnQ (p u v t q r : Int) : Sh.C := (.seq (.asg (.nm 6) (.bin .mod (.var 5) (.blt .len (.cons (.var 2) .nil))))
(.seq (.iff (.cmp .ge (.idx (.var 2) (.var 6)) (.bin .pow (.int 10) (.int p)))
(.seq (.expr (.meth .append (.var 4) (.cons (.bin .mod (.blt .int (.cons (.idx (.var 3) (.var 6)) .nil)) (.int 1000)) .nil)))
(.seq (.sto (.var 3) (.var 6) (.bin .fdiv (.idx (.var 3) (.var 6)) (.int 1000)))
.nil))
(.seq (.asg (.nm 8) (cOnceQ u v t q))
(.seq (cPutQ r)
.nil)))
.nil))
theorem turn_ok {p u v t q r : Int} (hu : smallI u = true) (hv : smallI v = true) (hp0 : 0 ≤ p) (hp1 : p ≤ 1000000) (hq0 : 0 < q) (hq1 : q < 2 ^ 64) (hr0 : r ≠ 0) {c : Calls} {S M s6 s8 : Slot} {cells rest draws : List Int} {k : Nat} {a b : Int} (hn : cells.length ≠ 0) (ha : cells[k % cells.length]? = some a) (hb : rest[k % cells.length]? = some b) (hd : draws.length < sizeLine) (h6 : npS s6 = true) (h8 : npS s8 = true) :
    ∃ rest' d s8', ex kt c (cTurnQ p u v t q r) [S, M, .val false (.l .st) (ints' cells), .val false (.l .st) (ints' rest), .val false (.l .st) (ints' draws), .val false .st (.int k), s6, .emp, s8] =
      .ok .nx [S, M, .val false (.l .st) (ints' cells), .val false (.l .st) (ints' rest'), .val false (.l .st) (ints' (draws ++ [d])), .val false .st (.int k), .val false .st (.int ((k % cells.length : Nat) : Int)), .emp, s8'] ∧ rest'.length = rest.length ∧ npS s8' = true := by
  have hnI : ¬ ((cells.map Val.int).length : Int) = 0 := by rw [List.length_map]; omega
  have fm : ((k : Int)).fmod ((cells.map Val.int).length : Int) = ((k % cells.length : Nat) : Int) := by rw [List.length_map]; exact fmod_nat
  have ga := atI_nat' (getI ha)
  have gb := atI_nat' (getI hb)
  have hix : L2.ixN (rest.map Val.int).length ((k % cells.length : Nat) : Int) = some (k % cells.length) := ixN_nat (by rw [List.length_map]; exact (List.getElem?_eq_some_iff.mp hb).1)
  have hdl : (draws.map Val.int).length < sizeLine := by rw [List.length_map]; exact hd
  have app : ∀ z : Int, draws.map Val.int ++ [Val.int z] = (draws ++ [z]).map Val.int := fun z => by simp
  have st : ∀ z : Int, (rest.map Val.int).set (k % cells.length) (Val.int z) = (rest.set (k % cells.length) z).map Val.int := fun z => by rw [List.map_set]
  have e1 : ex kt c (.asg (.nm 6) (.bin .mod (.var 5) (.blt .len (.cons (.var 2) .nil)))) [S, M, .val false (.l .st) (ints' cells), .val false (.l .st) (ints' rest), .val false (.l .st) (ints' draws), .val false .st (.int k), s6, .emp, s8] = .ok .nx [S, M, .val false (.l .st) (ints' cells), .val false (.l .st) (ints' rest), .val false (.l .st) (ints' draws), .val false .st (.int k), .val false .st (.int ((k % cells.length : Nat) : Int)), .emp, s8] := by
    simp only [ex, ev, evs, argOf, optR, Res.bind, readA, readAs, isPart, Bool.false_and, Bool.false_eq_true, if_false, List.getElem?_cons_zero, List.getElem?_cons_succ, valR, bltV, binV, ne_eq, not_false_eq_true, if_true, hnI, fm, takeA, asgT_eq, h6, List.set_cons_zero, List.set_cons_succ]
  have nat64 : (Int.natAbs 10 < 2 ^ 64) = True := by simp
  have e2 : ev kt c (.cmp .ge (.idx (.var 2) (.var 6)) (.bin .pow (.int 10) (.int p))) [S, M, .val false (.l .st) (ints' cells), .val false (.l .st) (ints' rest), .val false (.l .st) (ints' draws), .val false .st (.int k), .val false .st (.int ((k % cells.length : Nat) : Int)), .emp, s8] = .ok (.tmp .st (.bl (decide ((10 : Int) ^ p.toNat ≤ a)))) [S, M, .val false (.l .st) (ints' cells), .val false (.l .st) (ints' rest), .val false (.l .st) (ints' draws), .val false .st (.int k), .val false .st (.int ((k % cells.length : Nat) : Int)), .emp, s8] := by
    simp only [ev, argOf, optR, Res.bind, readA, isPart, Bool.false_and, Bool.false_eq_true, if_false, List.getElem?_cons_zero, List.getElem?_cons_succ, valR, binV, cmpV, if_true, idxA, idxV, ga, Mk.hd, hp0, hp1, nat64, and_self, Option.map_some]
  unfold cTurnQ
  rw [ex_seq e1]
  by_cases hbig : (10 : Int) ^ p.toNat ≤ a
  · refine ⟨rest.set (k % cells.length) (b.fdiv 1000), b.fmod 1000, s8, ?_, by simp, h8⟩
    refine ex_one ?_
    rw [ex_iff e2]
    simp only [hbig, decide_true, if_true]
    simp only [ex, ev, evs, argOf, optR, Res.bind, readA, readAs, isPart, Bool.false_and, Bool.false_eq_true, if_false, List.getElem?_cons_zero, List.getElem?_cons_succ, valR, bltV, Option.map_some, isLS, Bool.not_true, takeAs, mutV, List.set_cons_zero, List.set_cons_succ, binV, ne_eq, not_false_eq_true, takeA, if_true, idxA, idxV, gb, Mk.hd, hdl, fit, true_or, app, isV, stoS, stoV, hix, st, Int.reduceEq, nat1000, and_true, isTmp, Bool.and_true, quiet]
  · have ho := once_okQ (kt := kt) (u := u) (v := v) (t := t) (q := q) hu hv (by omega) (c := c) (S := S) (M := M) (s7 := .emp) (s8 := s8) (cells := cells) (R := .val false (.l .st) (ints' rest)) (Dr := .val false (.l .st) (ints' draws)) (k := k) (j := k % cells.length) (a := a) ha
    have hm := small_q hq0 hq1 (a * u + (k : Int) * v + t)
    generalize (a * u + (k : Int) * v + t).fmod q = o at ho hm
    have hp := put_okQ (kt := kt) hr0 (c := c) (S := S) (M := M) (C := .val false (.l .st) (ints' cells)) (R := .val false (.l .st) (ints' rest)) (s6 := .val false .st (.int ((k % cells.length : Nat) : Int))) (s7 := .emp) (draws := draws) (k := k) hm hd
    refine ⟨rest, (o * o + 3 * o + (k : Int)).fmod r, .val false .st (.int o), ?_, rfl, rfl⟩
    refine ex_one ?_
    rw [ex_iff e2]
    simp only [hbig, decide_false, Bool.false_eq_true, if_false]
    have e3 : ex kt c (.asg (.nm 8) (cOnceQ u v t q)) [S, M, .val false (.l .st) (ints' cells), .val false (.l .st) (ints' rest), .val false (.l .st) (ints' draws), .val false .st (.int k), .val false .st (.int ((k % cells.length : Nat) : Int)), .emp, s8] = .ok .nx [S, M, .val false (.l .st) (ints' cells), .val false (.l .st) (ints' rest), .val false (.l .st) (ints' draws), .val false .st (.int k), .val false .st (.int ((k % cells.length : Nat) : Int)), .emp, .val false .st (.int o)] := by
      simp only [ex, ho, Res.bind, takeA, asgT_eq, List.getElem?_cons_zero, List.getElem?_cons_succ, h8, if_true, List.set_cons_zero, List.set_cons_succ]
    rw [ex_seq e3]
    exact ex_one hp
theorem ex_asgT {c : Calls} {t : T} {x : Sh.E} {e e1 e2 : En} {m : Mk} {v : Val} (h : ev kt c x e = .ok (.tmp m v) e1) (ht : asgT t (m, v) e1 = some e2) : ex kt c (.asg t x) e = .ok .nx e2 := by
  simp only [ex, h, Res.bind, takeA, ht]
theorem ex_for {c : Calls} {t : T} {it : Sh.E} {b : Sh.C} {e e1 : En} {xs : List Val} (h : evW kt c it e = .ok (.st, xs) e1) : ex kt c (.forr t it b) e = forL t .st (ex kt c b) xs e1 := by
  simp only [ex, h, Res.bind]
/-- the helper's text, its numbers as letters -/
def cDrawsQ (p u v t q r : Int) : Sh.C := (.seq (.asg (.nm 2) (.comp .st [7] (.nm 7) (.one (.var 0)) .nop (.blt .int (.cons (.var 7) .nil))))
(.seq (.iff (.cmp .eq (.blt .len (.cons (.var 2) .nil)) (.int 0))
(.seq (.expr (.meth .append (.var 2) (.cons (.int 0) .nil)))
.nil)
.nil)
(.seq (.asg (.nm 3) (.blt .list (.cons (.var 2) .nil)))
(.seq (.asg (.nm 4) (.lst .st .nil))
(.seq (.forr (.nm 5) (.rng (.cons (.var 1) .nil)) (cTurnQ p u v t q r))
(.seq (.expr (.meth .reverse (.var 4) .nil))
(.seq (.ret (.var 4))
.nil)))))))

theorem tA1 {c : Calls} {ns : List Int} {many : Nat} (h1 : ns.length ≤ 63) (sz : 100000 < sizeLine) : ev kt c (.comp .st [7] (.nm 7) (.one (.var 0)) .nop (.blt .int (.cons (.var 7) .nil))) [.val false .st (ints' ns), .val false .st (.int many), .emp, .emp, .emp, .emp, .emp, .emp, .emp] = .ok (.tmp (.l .st) (ints' ns)) [.val false .st (ints' ns), .val false .st (.int many), .emp, .emp, .emp, .emp, .emp, .emp, .emp] := by
    have := comp_eval (kt := false) (c := c) (m := .st) (own := [7]) (t := .nm 7) (it := .one (.var 0)) (cd := .nop) (elt := .blt .int (.cons (.var 7) .nil)) (e := [.val false .st (ints' ns), .val false .st (.int many), .emp, .emp, .emp, .emp, .emp, .emp, .emp]) (e1 := [.val false .st (ints' ns), .val false .st (.int many), .emp, .emp, .emp, .emp, .emp, .emp, .emp]) (xs := ns.map Val.int) (o := some) rfl rfl (fun x hx => by
      obtain ⟨i, _, rfl⟩ := List.mem_map.mp hx
      exact ⟨_, _, rfl, rfl, rfl⟩) (by rw [List.length_map]; omega)
    rw [List.filterMap_some] at this
    exact this
theorem tSZ : (100000 : Nat) < sizeLine := by decide
theorem tA2 {c : Calls} {ns : List Int} {many : Nat} (h1 : ns.length ≤ 63) : ∃ cells : List Int, cells.length ≠ 0 ∧ cells.length ≤ 63 ∧ ex kt c (.iff (.cmp .eq (.blt .len (.cons (.var 2) .nil)) (.int 0)) (.seq (.expr (.meth .append (.var 2) (.cons (.int 0) .nil))) .nil) .nil) [.val false .st (ints' ns), .val false .st (.int many), .val false (.l .st) (ints' ns), .emp, .emp, .emp, .emp, .emp, .emp] =
      .ok .nx [.val false .st (ints' ns), .val false .st (.int many), .val false (.l .st) (ints' cells), .emp, .emp, .emp, .emp, .emp, .emp] := by
    cases ns with
    | nil => exact ⟨[0], by simp, by simp, rfl⟩
    | cons n ns => exact ⟨n :: ns, by simp, h1, rfl⟩
theorem tL {c : Calls} {a b : Slot} {cells : List Int} : ex kt c (.asg (.nm 3) (.blt .list (.cons (.var 2) .nil))) [a, b, .val false (.l .st) (ints' cells), .emp, .emp, .emp, .emp, .emp, .emp] = .ok .nx [a, b, .val false (.l .st) (ints' cells), .val false (.l .st) (ints' cells), .emp, .emp, .emp, .emp, .emp] := ex_asgT (m := .l .st) (v := ints' cells) rfl rfl
theorem tE {c : Calls} {a b C R s5 s6 s8 : Slot} {ds : List Int} : ex kt c (.seq (.expr (.meth .reverse (.var 4) .nil)) (.seq (.ret (.var 4)) .nil)) [a, b, C, R, .val false (.l .st) (ints' ds), s5, s6, .emp, s8] = .ok (.rt (.l .st) (ints' ds.reverse)) [a, b, C, R, .emp, s5, s6, .emp, s8] := by
    have : (ds.reverse).map Val.int = (ds.map Val.int).reverse := List.map_reverse
    simp only [ints', this]
    rfl
theorem tF {p u v t q r : Int} (hu : smallI u = true) (hv : smallI v = true) (hp0 : 0 ≤ p) (hp1 : p ≤ 1000000) (hq0 : 0 < q) (hq1 : q < 2 ^ 64) (hr0 : r ≠ 0) {c : Calls} {S M : Slot} {cells : List Int} {many : Nat} (hc0 : cells.length ≠ 0) (h2 : many ≤ 100000) (sz : 100000 < sizeLine) :
    ∃ rest ds : List Int, ∃ s5 s6 s8, ds.length = many ∧ forL (.nm 5) .st (ex kt c (cTurnQ p u v t q r)) (rangeL 0 many) [S, M, .val false (.l .st) (ints' cells), .val false (.l .st) (ints' cells), .val false (.l .st) (ints' []), .emp, .emp, .emp, .emp] = .ok .nx [S, M, .val false (.l .st) (ints' cells), .val false (.l .st) (ints' rest), .val false (.l .st) (ints' ds), s5, s6, .emp, s8] := by
  obtain ⟨e', lp, rest, ds, s5, s6, s8, he, _, hds, _⟩ := forL_nx (t := .nm 5) (m := .st) (b := ex kt c (cTurnQ p u v t q r)) (P := fun xs e => ∃ rest ds : List Int, ∃ s5 s6 s8, e = [S, M, .val false (.l .st) (ints' cells), .val false (.l .st) (ints' rest), .val false (.l .st) (ints' ds), s5, s6, .emp, s8] ∧ rest.length = cells.length ∧ ds.length + xs.length = many ∧ (npS s5 = true ∧ npS s6 = true ∧ npS s8 = true ∧ ∀ x ∈ xs, ∃ k : Nat, x = .int k)) (fun x xs e h => by
      obtain ⟨rest, ds, s5, s6, s8, rfl, hr, hd, n5, n6, n8, hx⟩ := h
      obtain ⟨k, rfl⟩ := hx x List.mem_cons_self
      have hk : k % cells.length < cells.length := Nat.mod_lt _ (by omega)
      simp only [List.length_cons] at hd
      obtain ⟨rest', d, s8', q1, q2, q3⟩ := turn_ok (kt := kt) (p := p) (u := u) (v := v) (t := t) (q := q) (r := r) hu hv hp0 hp1 hq0 hq1 hr0 (c := c) (S := S) (M := M) (cells := cells) (rest := rest) (draws := ds) (k := k) (s6 := s6) (s8 := s8) hc0 (List.getElem?_eq_getElem hk) (List.getElem?_eq_getElem (by omega)) (by omega) n6 n8
      refine ⟨_, ?_, _, q1, rest', ds ++ [d], _, _, s8', rfl, by omega, by simp; omega, rfl, rfl, q3, fun y hy => hx y (List.mem_cons_of_mem _ hy)⟩
      rw [asgT_eq]
      simp only [List.getElem?_cons_zero, List.getElem?_cons_succ, n5, if_true, List.set_cons_zero, List.set_cons_succ]) (xs := rangeL 0 many) (e := [S, M, .val false (.l .st) (ints' cells), .val false (.l .st) (ints' cells), .val false (.l .st) (ints' []), .emp, .emp, .emp, .emp])
    ⟨cells, [], .emp, .emp, .emp, rfl, rfl, by simp [rangeL], rfl, rfl, rfl, fun x hx => by
      obtain ⟨k, _, rfl⟩ := List.mem_map.mp hx
      exact ⟨k, by simp⟩⟩
  subst he
  simp only [List.length_nil, Nat.add_zero] at hds
  exact ⟨rest, ds, s5, s6, s8, hds, lp⟩
theorem evW_r1 {kt : Bool} {c : Calls} {x : Sh.E} {e e1 : En} {m : Mk} {n : Int} (h : ev kt c x e = .ok (.tmp m (.int n)) e1) (hs : sm62 n = true) : evW kt c (.rng (.cons x .nil)) e = .ok (.st, rangeL 0 n) e1 := by
  simp only [evW, evs, h, Res.bind, isPart, Bool.false_and, Bool.false_eq_true, if_false, readAs, readA, rngV, hs, if_true, Option.map_some, optR]
theorem sm_of {n : Nat} (h : n ≤ 100000) : sm62 (n : Int) = true := by
  unfold sm62
  exact decide_eq_true ⟨by omega, by omega⟩
theorem run_of {c : Calls} {np ns : Nat} {body : Sh.C} {args : List DA} {e0 e : En} {m : Mk} {v : Val} (h1 : args.length = np) (h2 : args.map paSlot ++ List.replicate (ns - np) .emp = e0) (h3 : ex kt c body e0 = .ok (.rt m v) e) : run kt c ⟨np, ns, body⟩ args = .ret m v e := by
  simp only [run, h1, if_true, h2, h3]
theorem draws_okQ {p u v t q r : Int} (hu : smallI u = true) (hv : smallI v = true) (hp0 : 0 ≤ p) (hp1 : p ≤ 1000000) (hq0 : 0 < q) (hq1 : q < 2 ^ 64) (hr0 : r ≠ 0) {c : Calls} {ns : List Int} {many : Nat} (h1 : ns.length ≤ 63) (h2 : many ≤ 100000) :
    ∃ ds fe, ds.length = many ∧ run kt c ⟨2, 9, cDrawsQ p u v t q r⟩ [⟨false, .st, ints' ns⟩, ⟨false, .st, .int many⟩] = .ret (.l .st) (ints' ds) fe := by
  obtain ⟨cells, hc0, hc1, a2⟩ := tA2 (kt := kt) (c := c) (many := many) h1
  obtain ⟨rest, ds, s5, s6, s8, hds, lp⟩ := tF (kt := kt) (p := p) (u := u) (v := v) (t := t) (q := q) (r := r) hu hv hp0 hp1 hq0 hq1 hr0 (c := c) (S := .val false .st (ints' ns)) (M := .val false .st (.int many)) hc0 h2 tSZ
  have main : ex kt c (cDrawsQ p u v t q r) [.val false .st (ints' ns), .val false .st (.int many), .emp, .emp, .emp, .emp, .emp, .emp, .emp] = .ok (.rt (.l .st) (ints' ds.reverse)) [.val false .st (ints' ns), .val false .st (.int many), .val false (.l .st) (ints' cells), .val false (.l .st) (ints' rest), .emp, s5, s6, .emp, s8] := by
    unfold cDrawsQ
    refine Eq.trans (ex_seq (e1 := [.val false .st (ints' ns), .val false .st (.int many), .val false (.l .st) (ints' ns), .emp, .emp, .emp, .emp, .emp, .emp]) (ex_asgT (tA1 (kt := kt) h1 tSZ) rfl)) ?_
    refine Eq.trans (ex_seq a2) ?_
    refine Eq.trans (ex_seq tL) ?_
    refine Eq.trans (ex_seq (e1 := [.val false .st (ints' ns), .val false .st (.int many), .val false (.l .st) (ints' cells), .val false (.l .st) (ints' cells), .val false (.l .st) (ints' []), .emp, .emp, .emp, .emp]) (ex_asgT (m := .l .st) (v := ints' []) rfl rfl)) ?_
    refine Eq.trans (ex_seq ((ex_for (evW_r1 (ev_vst rfl) (sm_of h2))).trans lp)) ?_
    exact tE
  exact ⟨ds.reverse, _, by simpa using hds, run_of rfl rfl main⟩
end Sh

/-! ShZ: more rules; the law's own comparison -/
namespace Sh
open PySem PySem.Spec PyProof.Rows L2
variable {kt : Bool}
section
variable {kt : Bool} {c : Calls} {e e1 e2 : En} {a b d x y : Sh.E} {m m' : Mk} {v v' w : Val} {k : Bool}
theorem ev_isiR {t : Ty} (h : ev kt c a e = .ok (.tmp m v) e1) : ev kt c (.isi a t) e = .ok (.tmp .st (.bl (t.ok v))) e1 := by
  simp only [ev, h, Res.bind, readA]
theorem ev_andT (h : ev kt c a e = .ok (.tmp m (.bl true)) e1) : ev kt c (.and a b) e = ev kt c b e1 := by
  simp only [ev, h, Res.bind, asB, if_true]
theorem ev_andF (h : ev kt c a e = .ok (.tmp m (.bl false)) e1) : ev kt c (.and a b) e = .ok (.tmp .st (.bl false)) e1 := by
  simp only [ev, h, Res.bind, asB, Bool.false_eq_true, if_false]
theorem ev_orT (h : ev kt c a e = .ok (.tmp m (.bl true)) e1) : ev kt c (.or a b) e = .ok (.tmp .st (.bl true)) e1 := by
  simp only [ev, h, Res.bind, asB, if_true]
theorem ev_orF (h : ev kt c a e = .ok (.tmp m (.bl false)) e1) : ev kt c (.or a b) e = ev kt c b e1 := by
  simp only [ev, h, Res.bind, asB, Bool.false_eq_true, if_false]
theorem ev_oneR : ev kt c (.one a) e = ev kt c a e := by simp only [ev]
theorem ev_notR (h : ev kt c a e = .ok (.tmp m (.bl k)) e1) : ev kt c (.not a) e = .ok (.tmp .st (.bl (!k))) e1 := by
  simp only [ev, h, Res.bind, asB]
theorem ev_cmpR {op : COp} (h1 : ev kt c a e = .ok (.tmp m v) e1) (h2 : ev kt c b e1 = .ok (.tmp m' w) e2) (h3 : cmpV kt op v w = some k) : ev kt c (.cmp op a b) e = .ok (.tmp .st (.bl k)) e2 := by
  simp only [ev, h1, Res.bind, isPart, Bool.false_and, Bool.false_eq_true, if_false, h2, readA, h3, Option.map_some, optR]
theorem ev_b1 {f : Blt} {r : MV} (h1 : ev kt c a e = .ok (.tmp m v) e1) (h2 : bltV f [(m, v)] = some r) : ev kt c (.blt f (.cons a .nil)) e = .ok (.tmp r.1 r.2) e1 := by
  simp only [ev, evs, h1, Res.bind, isPart, Bool.false_and, Bool.false_eq_true, if_false, readAs, readA, h2, valR]
theorem ev_ixt {xs : List Val} {n : Int} (h1 : ev kt c a e = .ok (.tmp .st (.tup xs)) e1) (h2 : ev kt c b e1 = .ok (.tmp m (.int n)) e2) (h3 : L2.atI xs n = some v) : ev kt c (.idx a b) e = .ok (.tmp .st v) e2 := by
  have h4 : idxV kt (.st, .tup xs) (.int n) = some (.st, v) := by
    rw [atI_bind] at h3
    obtain ⟨j, q1, q2⟩ := Option.bind_eq_some_iff.mp h3
    simp only [idxV, q1, q2, Option.map_some, Mk.at_st]
  simp only [ev, h1, Res.bind, isPart, Bool.false_and, Bool.false_eq_true, if_false, h2, readA, idxA, h4]
theorem ev_call2 {f : Nat} {fe : En} {r : Val} (h1 : ev kt c a e = .ok (.tmp m v) e1) (h2 : ev kt c b e1 = .ok (.tmp m' w) e2) (h3 : c f [⟨false, .st, v⟩, ⟨false, .st, w⟩] = .ret .st r fe) : ev kt c (.call f [.frz, .frz] (.cons a (.cons b .nil))) e = .ok (.tmp .st r) e2 := by
  simp only [ev, evs, h1, h2, Res.bind, isPart, Bool.false_and, Bool.false_eq_true, if_false, callF, passN, pass1, frzA, isTmp, Bool.and_true, Bool.and_self, List.map_cons, List.map_nil, h3, anyLent, List.any_cons, List.any_nil, Bool.or_false, Bool.not_false, Bool.true_or, if_true, putBack]
theorem ex_retT (h : ev kt c a e = .ok (.tmp m v) e1) : ex kt c (.ret a) e = .ok (.rt m v) e1 := by
  simp only [ex, h, Res.bind, takeA]
theorem ex_seqR {p q : Sh.C} (h : ex kt c p e = .ok (.rt m v) e1) : ex kt c (.seq p q) e = .ok (.rt m v) e1 := by
  simp only [ex, h, Res.bind]
end
def cSameA (i : Nat) : Sh.C := (.seq (.iff (.isi (.var 1) .bool)
(.seq (.ret (.and (.isi (.var 0) .bool) (.one (.cmp .eq (.var 0) (.var 1)))))
.nil)
.nil)
(.seq (.iff (.isi (.var 1) .int)
(.seq (.ret (.and (.isi (.var 0) .int) (.and (.not (.isi (.var 0) .bool)) (.one (.cmp .eq (.var 0) (.var 1))))))
.nil)
.nil)
(.seq (.iff (.isi (.var 1) .str)
(.seq (.ret (.and (.isi (.var 0) .str) (.one (.cmp .eq (.var 0) (.var 1)))))
.nil)
.nil)
(.seq (.iff (.cmp .is_ (.var 1) .non)
(.seq (.ret (.cmp .is_ (.var 0) .non))
.nil)
.nil)
(.seq (.iff (.or (.not (.isi (.var 0) .tuple)) (.one (.cmp .ne (.blt .len (.cons (.var 0) .nil)) (.blt .len (.cons (.var 1) .nil)))))
(.seq (.ret (.bl false))
.nil)
.nil)
(.seq (.forr (.nm 2) (.rng (.cons (.blt .len (.cons (.var 1) .nil)) .nil))
(.seq (.iff (.not (.call i [.frz, .frz] (.cons (.idx (.var 0) (.var 2)) (.cons (.idx (.var 1) (.var 2)) .nil))))
(.seq (.ret (.bl false))
.nil)
.nil)
.nil))
(.seq (.ret (.bl true))
.nil)))))))
/-- plain data of fewer than n floors -/
def plainD : Nat → Val → Bool
  | 0, _ => false
  | n + 1, .tup xs => xs.all (plainD n) && decide (xs.length ≤ 100000)
  | _ + 1, .lst _ => false | _ + 1, .dk _ => false | _ + 1, .dt _ => false
  | _ + 1, _ => true
theorem iff_no {c : Calls} {t : Sh.E} {p : Sh.C} {e e1 : En} (h : ev kt c t e = .ok (.tmp .st (.bl false)) e1) : ex kt c (.iff t p .nil) e = .ok .nx e1 := by
  rw [ex_iff h]; simp only [Bool.false_eq_true, if_false, ex]
theorem iff_ret {c : Calls} {t r : Sh.E} {q : Sh.C} {e e1 e2 : En} {m : Mk} {v : Val} (h : ev kt c t e = .ok (.tmp .st (.bl true)) e1) (h2 : ev kt c r e1 = .ok (.tmp m v) e2) : ex kt c (.iff t (.seq (.ret r) .nil) q) e = .ok (.rt m v) e2 := by
  rw [ex_iff h]; simp only [if_true]; exact ex_seqR (ex_retT h2)
theorem eq_self_int {i : Int} : cmpV kt .eq (.int i) (.int i) = some true := by simp [cmpV, eqV, scalEq]
theorem same_refl {D : List Def} {i : Nat} (hD : D[i]? = some ⟨2, 3, cSameA i⟩) : ∀ (n : Nat) (x : Val), plainD n x = true → ∃ fe, sem kt D n i [⟨false, .st, x⟩, ⟨false, .st, x⟩] = .ret .st (.bl true) fe
  | 0, x, h => by cases h
  | n + 1, x, h => by
    have step : ∀ {fe : En}, ex kt (sem kt D n) (cSameA i) [.val false .st x, .val false .st x, .emp] = .ok (.rt .st (.bl true)) fe → ∃ fe, sem kt D (n + 1) i [⟨false, .st, x⟩, ⟨false, .st, x⟩] = .ret .st (.bl true) fe := fun {fe} he => ⟨fe, by
      have : sem kt D (n + 1) i [⟨false, .st, x⟩, ⟨false, .st, x⟩] = run kt (sem kt D n) ⟨2, 3, cSameA i⟩ [⟨false, .st, x⟩, ⟨false, .st, x⟩] := by
        simp only [sem, hD]
      rw [this]
      exact run_of rfl rfl he⟩
    have v0 : ∀ {s : Slot}, ev kt (sem kt D n) (.var 0) [.val false .st x, .val false .st x, s] = .ok (.tmp .st x) [.val false .st x, .val false .st x, s] := fun {s} => ev_vst rfl
    have v1 : ∀ {s : Slot}, ev kt (sem kt D n) (.var 1) [.val false .st x, .val false .st x, s] = .ok (.tmp .st x) [.val false .st x, .val false .st x, s] := fun {s} => ev_vst rfl
    cases x with
    | bl b => exact step (ex_seqR (iff_ret (ev_isiR v1) ((ev_andT (ev_isiR v0)).trans (ev_oneR.trans (ev_cmpR v0 v1 (by simp [cmpV, eqV, scalEq]))))))
    | int j => exact step ((ex_seq (iff_no (ev_isiR v1))).trans (ex_seqR (iff_ret (ev_isiR v1) ((ev_andT (ev_isiR v0)).trans ((ev_andT (ev_notR (ev_isiR v0))).trans (ev_oneR.trans (ev_cmpR v0 v1 (by simp [cmpV, eqV, scalEq]))))))))
    | str z => exact step ((ex_seq (iff_no (ev_isiR v1))).trans ((ex_seq (iff_no (ev_isiR v1))).trans (ex_seqR (iff_ret (ev_isiR v1) ((ev_andT (ev_isiR v0)).trans (ev_oneR.trans (ev_cmpR v0 v1 (by simp [cmpV, eqV, scalEq]))))))))
    | non => exact step ((ex_seq (iff_no (ev_isiR v1))).trans ((ex_seq (iff_no (ev_isiR v1))).trans ((ex_seq (iff_no (ev_isiR v1))).trans (ex_seqR (iff_ret (ev_cmpR v1 rfl rfl) (ev_cmpR v0 rfl rfl))))))
    | tup xs =>
      simp only [plainD, Bool.and_eq_true, decide_eq_true_eq] at h
      obtain ⟨hall, hlen⟩ := h
      have hw : evW kt (sem kt D n) (.rng (.cons (.blt .len (.cons (.var 1) .nil)) .nil)) [.val false .st (.tup xs), .val false .st (.tup xs), .emp] = .ok (.st, rangeL 0 xs.length) [.val false .st (.tup xs), .val false .st (.tup xs), .emp] := evW_r1 (m := .st) (ev_b1 (r := (.st, .int xs.length)) v1 rfl) (sm_of hlen)
      obtain ⟨e', hl, s, he, _⟩ := forL_nx (t := .nm 2) (m := .st) (b := ex kt (sem kt D n) (.seq (.iff (.not (.call i [.frz, .frz] (.cons (.idx (.var 0) (.var 2)) (.cons (.idx (.var 1) (.var 2)) .nil)))) (.seq (.ret (.bl false)) .nil) .nil) .nil))
        (P := fun ys e => ∃ s, e = [.val false .st (.tup xs), .val false .st (.tup xs), s] ∧ npS s = true ∧ ∀ y ∈ ys, ∃ k : Nat, k < xs.length ∧ y = .int k) (fun y ys e hP => by
          obtain ⟨s, rfl, hs, hy⟩ := hP
          obtain ⟨k, hk, rfl⟩ := hy y List.mem_cons_self
          have hat : L2.atI xs (k : Int) = some xs[k] := atI_nat' (List.getElem?_eq_getElem hk)
          have hx := List.all_eq_true.mp hall xs[k] (List.getElem_mem hk)
          obtain ⟨fe, hc⟩ := same_refl hD n xs[k] hx
          have a0 : ev kt (sem kt D n) (.idx (.var 0) (.var 2)) [.val false .st (.tup xs), .val false .st (.tup xs), .val false .st (.int k)] = .ok (.tmp .st xs[k]) [.val false .st (.tup xs), .val false .st (.tup xs), .val false .st (.int k)] := ev_ixt v0 (ev_vst rfl) hat
          have a1 : ev kt (sem kt D n) (.idx (.var 1) (.var 2)) [.val false .st (.tup xs), .val false .st (.tup xs), .val false .st (.int k)] = .ok (.tmp .st xs[k]) [.val false .st (.tup xs), .val false .st (.tup xs), .val false .st (.int k)] := ev_ixt v1 (ev_vst rfl) hat
          refine ⟨[.val false .st (.tup xs), .val false .st (.tup xs), .val false .st (.int k)], ?_, _, ex_one (iff_no (ev_notR (ev_call2 a0 a1 hc))), _, rfl, rfl, fun z hz => hy z (List.mem_cons_of_mem _ hz)⟩
          rw [asgT_eq]
          simp only [List.getElem?_cons_zero, List.getElem?_cons_succ, hs, if_true, List.set_cons_zero, List.set_cons_succ])
        (xs := rangeL 0 xs.length) (e := [.val false .st (.tup xs), .val false .st (.tup xs), .emp]) ⟨.emp, rfl, rfl, fun y hy => by
          obtain ⟨k, hk, rfl⟩ := List.mem_map.mp hy
          exact ⟨k, by simpa using hk, by simp⟩⟩
      subst he
      refine step ((ex_seq (iff_no (ev_isiR v1))).trans ((ex_seq (iff_no (ev_isiR v1))).trans ((ex_seq (iff_no (ev_isiR v1))).trans ((ex_seq (iff_no (ev_cmpR v1 rfl rfl))).trans ((ex_seq (iff_no ((ev_orF (ev_notR (ev_isiR v0))).trans (ev_oneR.trans (ev_cmpR (ev_b1 (r := (.st, .int xs.length)) v0 rfl) (ev_b1 (r := (.st, .int xs.length)) v1 rfl) (by simp [cmpV, eqV, scalEq])))))).trans ((ex_seq ((ex_for hw).trans hl)).trans (ex_seqR (ex_retT rfl))))))))
    | lst xs => simp [plainD] at h
    | dk xs => simp [plainD] at h
    | dt xs => simp [plainD] at h
end Sh

/-! Wp: the evaluator step by step: what is to be shown at each piece of syntax -/
namespace Sh
open PySem PySem.Spec PyProof.Rows L2
/-- an environment changed at a place, as a list -/
inductive Up : En → Nat → Slot → En → Prop where
  | z {s t : Slot} {e : En} : Up (s :: e) 0 t (t :: e)
  | s {s t : Slot} {e e' : En} {i : Nat} : Up e i t e' → Up (s :: e) (i + 1) t (s :: e')
theorem Up.eq {e e' : En} {i : Nat} {s : Slot} (h : Up e i s e') : e.set i s = e' := by
  induction h with
  | z => rfl
  | s _ ih => rw [List.set_cons_succ, ih]
/-- several places emptied -/
inductive UpE : En → List Nat → En → Prop where
  | nil {e : En} : UpE e [] e
  | cons {e e' e2 : En} {i : Nat} {is : List Nat} : Up e i .emp e' → UpE e' is e2 → UpE e (i :: is) e2
theorem UpE.eq {e e' : En} {is : List Nat} (h : UpE e is e') : setEmp e is = e' := by
  induction h with
  | nil => rfl
  | cons h _ ih => unfold setEmp; rw [h.eq, ih]
def gd (p : Bool) (P : Prop) : Prop := p = false ∧ P
theorem gd_ok {P : Prop} (h : P) : gd false P := ⟨rfl, h⟩

section
variable (kt : Bool) (c : Calls)
structure wE (a : Sh.E) (e : En) (Q : Arg → En → Prop) : Prop where mk :: (h : ∃ x e1, ev kt c a e = .ok x e1 ∧ Q x e1)
structure wEs (a : Sh.E) (e : En) (Q : List Arg → En → Prop) : Prop where mk :: (h : ∃ x e1, evs kt c a e = .ok x e1 ∧ Q x e1)
structure wO (a : Sh.E) (e : En) (Q : Option Int → En → Prop) : Prop where mk :: (h : ∃ x e1, evO kt c a e = .ok x e1 ∧ Q x e1)
structure wC (a : Sh.E) (e : En) (Q : Bool → En → Prop) : Prop where mk :: (h : ∃ x e1, evC kt c a e = .ok x e1 ∧ Q x e1)
structure wW (a : Sh.E) (e : En) (Q : Mk → List Val → En → Prop) : Prop where mk :: (h : ∃ m xs e1, evW kt c a e = .ok (m, xs) e1 ∧ Q m xs e1)
def flP (N B K : En → Prop) (R : Mk → Val → En → Prop) : Fl → En → Prop
  | .nx, e => N e | .bk, e => B e | .ct, e => K e | .rt m v, e => R m v e | .xc _, _ => False
structure wX (s : Sh.C) (e : En) (N B K : En → Prop) (R : Mk → Val → En → Prop) : Prop where mk :: (h : ∃ f e1, ex kt c s e = .ok f e1 ∧ flP N B K R f e1)
structure wF (t : T) (m : Mk) (b : Sh.C) (xs : List Val) (e : En) (N : En → Prop) (R : Mk → Val → En → Prop) : Prop where mk :: (h : ∃ f e1, forL t m (ex kt c b) xs e = .ok f e1 ∧ flP N (fun _ => False) (fun _ => False) R f e1)
structure cl (f : Nat) (md : List Md) (as : List Arg) (e : En) (Q : Arg → En → Prop) : Prop where mk :: (h : ∃ x e1, callF c f md as e = .ok x e1 ∧ Q x e1)
end
structure rd (x : Arg) (e : En) (Q : Mk → Val → Prop) : Prop where mk :: (h : ∃ m v, readA e x = some (m, v) ∧ Q m v)
structure rds (x : List Arg) (e : En) (Q : List MV → Prop) : Prop where mk :: (h : ∃ vs, readAs e x = some vs ∧ Q vs)
structure tk (x : Arg) (e : En) (Q : Mk → Val → En → Prop) : Prop where mk :: (h : ∃ m v e1, takeA x e = .ok (m, v) e1 ∧ Q m v e1)
structure tks (fl : Bool) (x : List Arg) (e : En) (Q : List MV → En → Prop) : Prop where mk :: (h : ∃ vs e1, takeAs fl x e = .ok vs e1 ∧ Q vs e1)
structure frz (x : Arg) (e : En) (Q : Val → En → Prop) : Prop where mk :: (h : ∃ v e1, frzA x e = .ok v e1 ∧ Q v e1)
structure asn (t : T) (m : Mk) (v : Val) (e : En) (N : En → Prop) : Prop where mk :: (h : ∃ e1, asgT t (m, v) e = some e1 ∧ N e1)
structure asns (t : T) (m : Mk) (v : List Val) (e : En) (N : En → Prop) : Prop where mk :: (h : ∃ e1, asgTs t m v e = some e1 ∧ N e1)
structure bo (x : Arg) (Q : Bool → Prop) : Prop where mk :: (h : ∃ m k, x = .tmp m (.bl k) ∧ Q k)
structure br (k : Bool) (P P' : Prop) : Prop where
  t : k = true → P
  f : k = false → P'
structure ud (e : En) (i : Nat) (s : Slot) (Q : En → Prop) : Prop where mk :: (h : Q (e.set i s))
structure bi (op : BOp) (m : Mk) (v : Val) (m' : Mk) (w : Val) (e : En) (Q : Arg → En → Prop) : Prop where mk :: (h : ∃ r, binV op (m, v) (m', w) = some r ∧ Q (.tmp r.1 r.2) e)
structure cp (kt : Bool) (op : COp) (v w : Val) (Q : Bool → Prop) : Prop where mk :: (h : ∃ k, cmpV kt op v w = some k ∧ Q k)
structure bf (b : Blt) (vs : List MV) (Q : Mk → Val → Prop) : Prop where mk :: (h : ∃ m v, bltV b vs = some (m, v) ∧ Q m v)
structure ixx (kt : Bool) (x : Arg) (w : Val) (e : En) (Q : Arg → En → Prop) : Prop where mk :: (h : ∃ a e1, idxA kt e x w = .ok a e1 ∧ Q a e1)
structure sl (m : Mk) (v : Val) (lo hi : Option Int) (Q : Mk → Val → Prop) : Prop where mk :: (h : ∃ m' w, slcV (m, v) lo hi = some (m', w) ∧ Q m' w)
structure mu (mt : Mt) (i : Nat) (vs : List MV) (e : En) (Q : Mk → Val → En → Prop) : Prop where mk :: (h : ∃ p m xs ys r, e[i]? = some (.val p (.l m) (.lst xs)) ∧ mutV m xs mt vs = some (ys, r) ∧ Q r.1 r.2 (e.set i (.val p (.l m) (.lst ys))))
structure ps (fl : Bool) (md : List Md) (as : List Arg) (e : En) (Q : List (DA × Bk) → En → Prop) : Prop where mk :: (h : ∃ l e1, passN fl md as e = .ok l e1 ∧ Q l e1)
structure pb (bs : List Bk) (fe e : En) (Q : En → Prop) : Prop where mk :: (h : ∃ e1, putBack bs fe e = some e1 ∧ Q e1)
structure cc (c : Calls) (f : Nat) (l : List (DA × Bk)) (e : En) (Q : Arg → En → Prop) : Prop where mk :: (h : ∃ m v fe, c f (l.map (·.1)) = .ret m v fe ∧ (!anyLent (l.map (·.2)) || (pureAt m v && chgPure (l.map (·.2)) fe)) = true ∧ pb (l.map (·.2)) fe e (Q (.tmp m v)))
structure tg (op : BOp) (u v : Val) (Q : Val → Prop) : Prop where mk :: (h : ∃ w, augV op u v = some w ∧ Q w)
structure wsto (kt : Bool) (k : Nat) (i : Val) (m : Mk) (v : Val) (e : En) (N : En → Prop) : Prop where mk :: (h : ∃ p m0 w w', e[k]? = some (.val p (.l m0) w) ∧ stoV kt m0 w i (m, v) = some w' ∧ N (e.set k (.val p (.l m0) w')))
structure tq (vs : List MV) (P : Mk → Val → Prop) : Prop where mk :: (h : vs.length ≤ sizeLine ∧ P (tupMk vs) (.tup (vs.map (·.2))))
structure lq (m : Mk) (vs : List MV) (P : Val → Prop) : Prop where mk :: (h : ∃ v xs, fits m vs = some xs ∧ xs.length ≤ sizeLine ∧ v = .lst xs ∧ P v)
structure isI (x : Arg) (P : Int → Prop) : Prop where mk :: (h : ∃ m z, x = .tmp m (.int z) ∧ P z)
structure rgq (vs : List MV) (P : List Val → Prop) : Prop where mk :: (h : ∃ xs, rngV vs = some xs ∧ P xs)
structure itq (v : Val) (P : List Val → Prop) : Prop where mk :: (h : ∃ xs, itemsOf v = some xs ∧ P xs)
structure rvq (v : Val) (P : List Val → Prop) : Prop where mk :: (h : ∃ xs, (v = .lst xs ∨ v = .tup xs) ∧ P xs)
structure enq (v : Val) (P : List Val → Prop) : Prop where mk :: (h : ∃ xs, (v = .lst xs ∨ v = .tup xs) ∧ P (enumL xs))
structure zpq (u v : Val) (P : List Val → Prop) : Prop where mk :: (h : ∃ xs ys, ((u = .lst xs ∧ v = .lst ys) ∨ (u = .tup xs ∧ v = .tup ys)) ∧ P (zipL xs ys))
structure rq1 (l : Bool) (x : Arg) (P : Arg → Prop) : Prop where mk :: (h : ∃ m n, x = .tmp m (.int n) ∧ rgOk 0 n = true ∧ P (rgT l 0 n))
structure rq2 (l : Bool) (x y : Arg) (P : Arg → Prop) : Prop where mk :: (h : ∃ m n m' n', x = .tmp m (.int n) ∧ y = .tmp m' (.int n') ∧ rgOk n n' = true ∧ P (rgT l n n'))
structure ftq (m : Mk) (m' : Mk) (v : Val) (P : Val → Prop) : Prop where mk :: (h : ∃ y, fit m (m', v) = some y ∧ P y)
structure inq (u : Val) (vs : List MV) (P : Int → Prop) : Prop where mk :: (h : ∃ xs mv k, u = .lst xs ∧ vs = [mv] ∧ indexV mv.2 xs = some k ∧ P k)
structure pt (kt : Bool) (p : PM) (u : Val) (P : Prop) : Prop where mk :: (h : pmTy kt p u = true ∧ P)
structure pq (p : PM) (u : MV) (vs : List MV) (P : Mk → Val → Prop) : Prop where mk :: (h : ∃ r, pmV p u vs = some r ∧ P r.1 r.2)
/-- what a def does -/
structure Sp (c : Calls) (f : Nat) (args : List DA) (Q : Mk → Val → En → Prop) : Prop where mk :: (h : ∃ m v fe, c f args = .ret m v fe ∧ Q m v fe)

section
variable {kt : Bool} {c : Calls} {e e' e1 e2 : En} {Q : Arg → En → Prop} {a b d t : Sh.E} {m m' m0 : Mk} {v w : Val} {k : Bool} {p : Bool} {i j : Nat}
/-! ### expressions -/
theorem wE_st (h : e[i]? = some (.val p .st v)) (q : Q (.tmp .st v) e) : wE kt c (.var i) e Q := ⟨_, _, by simp only [ev, h, argOf, optR], q⟩
theorem wE_l (h : e[i]? = some (.val p (.l m) v)) (q : Q (.slot i) e) : wE kt c (.var i) e Q := ⟨_, _, by simp only [ev, h, argOf, optR], q⟩
theorem wE_fzs (h : e[i]? = some (.val p .st v)) (q : Q (.tmp .st v) e) : wE kt c (.fz i) e Q := ⟨_, _, by simp only [ev, h, argOf, optR, Res.bind, frzA], q⟩
theorem wE_fzl (h : e[i]? = some (.val p (.l m) v)) (u : Up e i (.val p .st v) e') (q : Q (.tmp .st v) e') : wE kt c (.fz i) e Q := ⟨_, _, by simp only [ev, h, argOf, optR, Res.bind, frzA, u.eq], q⟩
theorem wE_tc (h : e[i]? = some (.val p (.tc m m') v)) (q : Q (.slot i) e) : wE kt c (.var i) e Q := ⟨_, _, by simp only [ev, h, argOf, optR], q⟩
theorem wE_int {z : Int} (q : Q (.tmp .st (.int z)) e) : wE kt c (.int z) e Q := ⟨_, _, by simp only [ev], q⟩
theorem wE_bl (q : Q (.tmp .st (.bl k)) e) : wE kt c (.bl k) e Q := ⟨_, _, by simp only [ev], q⟩
theorem wE_non (q : Q (.tmp .st .non) e) : wE kt c .non e Q := ⟨_, _, by simp only [ev], q⟩
theorem wE_str {x : Str} (q : Q (.tmp .st (.str x)) e) : wE kt c (.str x) e Q := ⟨_, _, by simp only [ev], q⟩
theorem wE_bin {op : BOp} (h : wE kt c a e fun x e1 => gd (isPart x && !quiet b) (wE kt c b e1 fun y e2 => rd x e2 fun m v => rd y e2 fun m' w => bi op m v m' w e2 Q)) : wE kt c (.bin op a b) e Q := by
  obtain ⟨x, e1, h1, h2, y, e2, h3, m, v, h4, m', w, h5, r, h6, q⟩ := h
  exact ⟨_, _, by simp only [ev, h1, Res.bind, h2, Bool.false_eq_true, if_false, h3, h4, h5, h6, valR], q⟩
theorem wE_neg (h : wE kt c a e fun x e1 => isI x fun z => Q (.tmp .st (.int (-z))) e1) : wE kt c (.neg a) e Q := by
  obtain ⟨x, e1, h1, m, z, rfl, q⟩ := h
  exact ⟨_, _, by simp only [ev, h1, Res.bind], q⟩
theorem wE_cmp {op : COp} (h : wE kt c a e fun x e1 => gd (isPart x && !quiet b) (wE kt c b e1 fun y e2 => rd x e2 fun m v => rd y e2 fun m' w => cp kt op v w fun k => Q (.tmp .st (.bl k)) e2)) : wE kt c (.cmp op a b) e Q := by
  obtain ⟨x, e1, h1, h2, y, e2, h3, m, v, h4, m', w, h5, r, h6, q⟩ := h
  exact ⟨_, _, by simp only [ev, h1, Res.bind, h2, Bool.false_eq_true, if_false, h3, h4, h5, h6, Option.map_some, optR], q⟩
theorem wE_chn {op op' : COp} (h : wE kt c a e fun x e1 => wE kt c b e1 fun y e2 => ∃ m v m' w, x = .tmp m v ∧ y = .tmp m' w ∧ cp kt op v w fun k => br k (wE kt c d e2 fun z e3 => ∃ m2 u, z = .tmp m2 u ∧ cp kt op' w u fun k' => Q (.tmp .st (.bl k')) e3) (Q (.tmp .st (.bl false)) e2)) : wE kt c (.chn op op' a b d) e Q := by
  obtain ⟨x, e1, h1, y, e2, h2, m, v, m', w, rfl, rfl, k, h3, h4, h5⟩ := h
  cases k with
  | true =>
    obtain ⟨z, e3, h6, m2, u, rfl, k', h7, q⟩ := h4 rfl
    exact ⟨_, _, by simp only [ev, h1, Res.bind, h2, h3, h6, h7, Option.map_some, optR], q⟩
  | false => exact ⟨_, _, by simp only [ev, h1, Res.bind, h2, h3], h5 rfl⟩
theorem wE_and (h : wE kt c a e fun x e1 => bo x fun k => br k (wE kt c b e1 Q) (Q (.tmp .st (.bl false)) e1)) : wE kt c (.and a b) e Q := by
  obtain ⟨x, e1, h1, m, k, rfl, h2, h3⟩ := h
  cases k with
  | true =>
    obtain ⟨y, e2, h4, q⟩ := h2 rfl
    exact ⟨_, _, by simp only [ev, h1, Res.bind, asB, if_true, h4], q⟩
  | false => exact ⟨_, _, by simp only [ev, h1, Res.bind, asB, Bool.false_eq_true, if_false], h3 rfl⟩
theorem wE_or (h : wE kt c a e fun x e1 => bo x fun k => br k (Q (.tmp .st (.bl true)) e1) (wE kt c b e1 Q)) : wE kt c (.or a b) e Q := by
  obtain ⟨x, e1, h1, m, k, rfl, h2, h3⟩ := h
  cases k with
  | false =>
    obtain ⟨y, e2, h4, q⟩ := h3 rfl
    exact ⟨_, _, by simp only [ev, h1, Res.bind, asB, Bool.false_eq_true, if_false, h4], q⟩
  | true => exact ⟨_, _, by simp only [ev, h1, Res.bind, asB, if_true], h2 rfl⟩
theorem wE_one (h : wE kt c a e Q) : wE kt c (.one a) e Q := by
  obtain ⟨x, e1, h1, q⟩ := h
  exact ⟨_, _, by simp only [ev, h1], q⟩
theorem wE_not (h : wE kt c a e fun x e1 => bo x fun k => Q (.tmp .st (.bl (!k))) e1) : wE kt c (.not a) e Q := by
  obtain ⟨x, e1, h1, m, k, rfl, q⟩ := h
  exact ⟨_, _, by simp only [ev, h1, Res.bind, asB], q⟩
theorem wE_ite (h : wE kt c t e fun x e1 => bo x fun k => br k (wE kt c a e1 Q) (wE kt c b e1 Q)) : wE kt c (.ite t a b) e Q := by
  obtain ⟨x, e1, h1, m, k, rfl, h2, h3⟩ := h
  cases k with
  | true =>
    obtain ⟨y, e2, h4, q⟩ := h2 rfl
    exact ⟨_, _, by simp only [ev, h1, Res.bind, asB, if_true, h4], q⟩
  | false =>
    obtain ⟨y, e2, h4, q⟩ := h3 rfl
    exact ⟨_, _, by simp only [ev, h1, Res.bind, asB, Bool.false_eq_true, if_false, h4], q⟩
theorem wE_tup (h : wEs kt c a e fun as e1 => tks true as e1 fun vs e2 => tq vs fun m v => Q (.tmp m v) e2) : wE kt c (.tup a) e Q := by
  obtain ⟨x, e1, h1, vs, e2, h2, h3, q⟩ := h
  exact ⟨_, _, by simp only [ev, h1, Res.bind, h2, h3, if_true], q⟩
theorem wE_lst (h : wEs kt c a e fun as e1 => tks true as e1 fun vs e2 => lq m vs fun v => Q (.tmp (.l m) v) e2) : wE kt c (.lst m a) e Q := by
  obtain ⟨x, e1, h1, vs, e2, h2, v, xs, h3, h4, rfl, q⟩ := h
  exact ⟨_, _, by simp only [ev, h1, Res.bind, h2, h3, h4, if_true], q⟩
theorem wE_dnk (q : Q (.tmp (.l m) (.dk [])) e) : wE kt c (.dnk m) e Q := ⟨_, _, by simp only [ev], q⟩
theorem wE_dnt (q : Q (.tmp (.l m) (.dt [])) e) : wE kt c (.dnt m) e Q := ⟨_, _, by simp only [ev], q⟩
theorem wE_idx (h : wE kt c a e fun x e1 => gd (isPart x && !quiet b) (wE kt c b e1 fun y e2 => rd y e2 fun _ w => ixx kt x w e2 Q)) : wE kt c (.idx a b) e Q := by
  obtain ⟨x, e1, h1, h2, y, e2, h3, m, v, h4, z, e3, h5, q⟩ := h
  exact ⟨_, _, by simp only [ev, h1, Res.bind, h2, Bool.false_eq_true, if_false, h3, h4, h5], q⟩
theorem wE_slc {lo hi : Sh.E} (h : wE kt c a e fun x e1 => gd (isPart x && !(quiet lo && quiet hi)) (wO kt c lo e1 fun l e2 => wO kt c hi e2 fun h e3 => rd x e3 fun m v => sl m v l h fun m' w => Q (.tmp m' w) e3)) : wE kt c (.slc a lo hi) e Q := by
  obtain ⟨x, e1, h1, h2, l, e2, h3, h, e3, h4, m, v, h5, m', w, h6, q⟩ := h
  exact ⟨_, _, by simp only [ev, h1, Res.bind, h2, Bool.false_eq_true, if_false, h3, h4, h5, h6, valR], q⟩
theorem wE_blt {f : Blt} (h : wEs kt c a e fun as e1 => rds as e1 fun vs => bf f vs fun m v => Q (.tmp m v) e1) : wE kt c (.blt f a) e Q := by
  obtain ⟨x, e1, h1, vs, h2, m, v, h3, q⟩ := h
  exact ⟨_, _, by simp only [ev, h1, Res.bind, h2, h3, valR], q⟩
theorem wE_isi {y : Ty} (h : wE kt c a e fun x e1 => rd x e1 fun _ v => Q (.tmp .st (.bl (y.ok v))) e1) : wE kt c (.isi a y) e Q := by
  obtain ⟨x, e1, h1, m, v, h2, q⟩ := h
  exact ⟨_, _, by simp only [ev, h1, Res.bind, h2], q⟩
theorem wE_lrg1 {l : Bool} (h : wE kt c a e fun x e1 => rq1 l x fun y => Q y e1) : wE kt c (.lrg1 l a) e Q := by
  obtain ⟨x, e1, h1, m, n, rfl, h2, q⟩ := h
  exact ⟨_, _, by simp only [ev, h1, Res.bind, h2, if_true], q⟩
theorem wE_lrg2 {l : Bool} (h : wE kt c a e fun x e1 => wE kt c b e1 fun y e2 => rq2 l x y fun z => Q z e2) : wE kt c (.lrg2 l a b) e Q := by
  obtain ⟨x, e1, h1, y, e2, h2, m, n, m', n', rfl, rfl, h3, q⟩ := h
  exact ⟨_, _, by simp only [ev, h1, h2, Res.bind, h3, if_true], q⟩
theorem wE_call {f : Nat} {md : List Md} (h : wEs kt c a e fun as e1 => cl c f md as e1 Q) : wE kt c (.call f md a) e Q := by
  obtain ⟨as, e1, h1, x, e2, h2, q⟩ := h
  exact ⟨_, _, by simp only [ev, h1, Res.bind, h2], q⟩
theorem cl_mk {f : Nat} {md : List Md} {as : List Arg} (h : ps true md as e fun l e1 => cc c f l e1 Q) : cl c f md as e Q := by
  obtain ⟨l, e1, h1, m, v, fe, h2, h3, e2, h4, q⟩ := h
  exact ⟨_, _, by unfold callF; simp only [h1, Res.bind, h2, h3, if_true, h4], q⟩
theorem wE_index (h : wE kt c a e fun x e1 => gd (!quiet b) (wEs kt c b e1 fun as e2 => rd x e2 fun _ u => rds as e2 fun vs => inq u vs fun k => Q (.tmp .st (.int k)) e2)) : wE kt c (.meth .index a b) e Q := by
  obtain ⟨x, e1, h1, h2, as, e2, h3, m, v, h4, vs, h5, xs, mv, k, rfl, rfl, h6, q⟩ := h
  exact ⟨_, _, by simp only [ev, h1, Res.bind, h2, Bool.false_eq_true, if_false, h3, h4, h5, h6, Option.map_some, optR], q⟩
theorem wE_pm {p : PM} (h : wE kt c a e fun x e1 => gd (isPart x && !quiet b) (rd x e1 fun _ u0 => pt kt p u0 (wEs kt c b e1 fun as e2 => rd x e2 fun m u => rds as e2 fun vs => pq p (m, u) vs fun m v => Q (.tmp m v) e2))) : wE kt c (.pm p a b) e Q := by
  obtain ⟨x, e1, h1, h2, m, u0, h3, h4, as, e2, h5, m', u, h6, vs, h7, r, h8, q⟩ := h
  exact ⟨_, _, by simp only [ev, h1, Res.bind, h2, Bool.false_eq_true, if_false, h3, h4, Bool.not_true, h5, h6, h7, h8, valR], q⟩
theorem pt_ok {p : PM} {u : Val} {P : Prop} (h : pmTy kt p u = true) (q : P) : pt kt p u P := ⟨h, q⟩
theorem wE_mut {mt : Mt} {xs0 : List Val} (hm : mt ≠ .index) (h0 : e[i]? = some (.val p (.l m0) (.lst xs0))) (h : wEs kt c a e fun as e1 => tks true as e1 fun vs e2 => mu mt i vs e2 fun m v e3 => Q (.tmp m v) e3) : wE kt c (.meth mt (.var i) a) e Q := by
  obtain ⟨as, e1, h1, vs, e2, h2, p, m, xs, ys, r, h3, h4, q⟩ := h
  have hI : isLS e i = true := by unfold isLS; rw [h0]
  have hv : ev kt c (.var i) e = .ok (.slot i) e := by simp only [ev, h0, argOf, optR]
  refine ⟨_, _, ?_, q⟩
  cases mt
  case index => exact absurd rfl hm
  all_goals
    unfold ev
    simp only [hv, Res.bind, hI, Bool.not_true, Bool.false_eq_true, if_false, h1, h2, h3, h4]
theorem wEs_nil {Q : List Arg → En → Prop} (q : Q [] e) : wEs kt c .nil e Q := ⟨_, _, by simp only [evs], q⟩
theorem wEs_cons {Q : List Arg → En → Prop} (h : wE kt c a e fun x e1 => gd (isPart x && !quiet b) (wEs kt c b e1 fun xs e2 => Q (x :: xs) e2)) : wEs kt c (.cons a b) e Q := by
  obtain ⟨x, e1, h1, h2, xs, e2, h3, q⟩ := h
  exact ⟨_, _, by simp only [evs, h1, Res.bind, h2, Bool.false_eq_true, if_false, h3], q⟩
theorem wO_nop {Q : Option Int → En → Prop} (q : Q none e) : wO kt c .nop e Q := ⟨_, _, by simp only [evO], q⟩
theorem wO_one {Q : Option Int → En → Prop} (h : wE kt c a e fun x e1 => isI x fun z => Q (some z) e1) : wO kt c (.one a) e Q := by
  obtain ⟨x, e1, h1, m, z, rfl, q⟩ := h
  exact ⟨_, _, by simp only [evO, h1, Res.bind], q⟩
theorem isint {P : Int → Prop} {z : Int} (h : P z) : isI (.tmp m (.int z)) P := ⟨m, z, rfl, h⟩
theorem wC_nop {Q : Bool → En → Prop} (q : Q true e) : wC kt c .nop e Q := ⟨_, _, by simp only [evC], q⟩
theorem wC_one {Q : Bool → En → Prop} (h : wE kt c a e fun x e1 => bo x fun k => Q k e1) : wC kt c (.one a) e Q := by
  obtain ⟨x, e1, h1, m, k, rfl, q⟩ := h
  exact ⟨_, _, by simp only [evC, h1, Res.bind, asB], q⟩
/-! ### what a loop walks -/
variable {W : Mk → List Val → En → Prop}
theorem wW_rng (h : wEs kt c a e fun as e1 => rds as e1 fun vs => rgq vs fun xs => W .st xs e1) : wW kt c (.rng a) e W := by
  obtain ⟨as, e1, h1, vs, h2, xs, h3, q⟩ := h
  exact ⟨_, _, _, by simp only [evW, h1, Res.bind, h2, h3, Option.map_some, optR], q⟩
theorem wW_enum (h : wE kt c a e fun x e1 => frz x e1 fun v e2 => enq v fun xs => W .pr xs e2) : wW kt c (.enum a) e W := by
  obtain ⟨x, e1, h1, v, e2, h2, xs, h3, q⟩ := h
  rcases h3 with rfl | rfl
  · exact ⟨_, _, _, by simp only [evW, h1, Res.bind, h2], q⟩
  · exact ⟨_, _, _, by simp only [evW, h1, Res.bind, h2], q⟩
theorem wW_zip (h : wE kt c a e fun x e1 => frz x e1 fun u e2 => wE kt c b e2 fun y e3 => frz y e3 fun v e4 => zpq u v fun xs => W .pr xs e4) : wW kt c (.zip a b) e W := by
  obtain ⟨x, e1, h1, u, e2, h2, y, e3, h3, v, e4, h4, xs, ys, h5, q⟩ := h
  rcases h5 with ⟨rfl, rfl⟩ | ⟨rfl, rfl⟩ <;> exact ⟨_, _, _, by simp only [evW, h1, Res.bind, h2, h3, h4], q⟩
theorem wW_rev (h : wE kt c a e fun x e1 => frz x e1 fun v e2 => rvq v fun xs => W .st xs.reverse e2) : wW kt c (.rev a) e W := by
  obtain ⟨x, e1, h1, v, e2, h2, xs, h3, q⟩ := h
  rcases h3 with rfl | rfl <;> exact ⟨_, _, _, by simp only [evW, h1, Res.bind, h2], q⟩
theorem wW_one (h : wE kt c a e fun x e1 => frz x e1 fun v e2 => itq v fun xs => W .st xs e2) : wW kt c (.one a) e W := by
  obtain ⟨x, e1, h1, v, e2, h2, xs, h3, q⟩ := h
  exact ⟨_, _, _, by simp only [evW, h1, Res.bind, walkA, h2, h3], q⟩
theorem rv_lst {xs : List Val} {P : List Val → Prop} (h : P xs) : rvq (.lst xs) P := ⟨_, .inl rfl, h⟩
theorem rv_tup {xs : List Val} {P : List Val → Prop} (h : P xs) : rvq (.tup xs) P := ⟨_, .inr rfl, h⟩
theorem it_lst {xs : List Val} {P : List Val → Prop} (h : P xs) : itq (.lst xs) P := ⟨_, rfl, h⟩
theorem it_tup {xs : List Val} {P : List Val → Prop} (h : P xs) : itq (.tup xs) P := ⟨_, rfl, h⟩
theorem en_lst {xs : List Val} {P : List Val → Prop} (h : P (enumL xs)) : enq (.lst xs) P := ⟨_, .inl rfl, h⟩
theorem zp_lst {xs ys : List Val} {P : List Val → Prop} (h : P (zipL xs ys)) : zpq (.lst xs) (.lst ys) P := ⟨_, _, .inl ⟨rfl, rfl⟩, h⟩
theorem zp_tup {xs ys : List Val} {P : List Val → Prop} (h : P (zipL xs ys)) : zpq (.tup xs) (.tup ys) P := ⟨_, _, .inr ⟨rfl, rfl⟩, h⟩
theorem rangeL_nat {n : Nat} : rangeL 0 (n : Int) = (List.range n).map fun k : Nat => .int (k : Int) := by
  unfold rangeL
  rw [Int.sub_zero, Int.toNat_natCast]
  exact List.map_congr_left fun k _ => by rw [Int.zero_add]
theorem rangeL_int {n : Int} : rangeL 0 n = (List.range n.toNat).map fun k : Nat => .int (k : Int) := by
  unfold rangeL
  rw [Int.sub_zero]
  exact List.map_congr_left fun k _ => by rw [Int.zero_add]
theorem rg_nat {n : Nat} {P : List Val → Prop} (hn : sm62 (n : Int) = true) (h : P ((List.range n).map fun k : Nat => .int (k : Int))) : rgq [(m, .int (n : Int))] P := ⟨rangeL 0 (n : Int), by simp only [rngV, hn, if_true], by rw [rangeL_nat]; exact h⟩
theorem rg_one {n : Int} {P : List Val → Prop} (hn : sm62 n = true) (h : P (rangeL 0 n)) : rgq [(m, .int n)] P := ⟨_, by simp only [rngV, hn, if_true], h⟩
theorem rg_two {n n' : Int} {P : List Val → Prop} (hn : sm62 n = true) (hn' : sm62 n' = true) (h : P (rangeL n n')) : rgq [(m, .int n), (m', .int n')] P := ⟨_, by simp only [rngV, hn, hn', Bool.and_self, if_true], h⟩
theorem rq_l {n : Nat} {P : Arg → Prop} (hn : rgOk 0 (n : Int) = true) (h : P (.tmp (.l .st) (.lst ((List.range n).map fun k : Nat => .int (k : Int))))) : rq1 true (.tmp m (.int (n : Int))) P := ⟨_, _, rfl, hn, by unfold rgT; rw [if_pos rfl, rangeL_nat]; exact h⟩
theorem rq_t {n : Nat} {P : Arg → Prop} (hn : rgOk 0 (n : Int) = true) (h : P (.tmp .st (.tup ((List.range n).map fun k : Nat => .int (k : Int))))) : rq1 false (.tmp m (.int (n : Int))) P := ⟨_, _, rfl, hn, by unfold rgT; rw [if_neg (by decide), rangeL_nat]; exact h⟩
/-! ### displays -/
section
variable {P : Mk → Val → Prop} {P' : Val → Prop} {v1 v2 v3 v4 v5 v6 v7 v8 : Val} {m1 m2 m3 m4 m5 m6 m7 m8 : Mk}
theorem tq0 (q : P .st (.tup [])) : tq [] P := ⟨by simp [sizeLine], q⟩
theorem tq1 (q : P .st (.tup [v1])) : tq [(.st, v1)] P := ⟨by simp [sizeLine], q⟩
theorem tq2 (q : P .st (.tup [v1, v2])) : tq [(.st, v1), (.st, v2)] P := ⟨by simp [sizeLine], q⟩
theorem tq3 (q : P .st (.tup [v1, v2, v3])) : tq [(.st, v1), (.st, v2), (.st, v3)] P := ⟨by simp [sizeLine], q⟩
theorem tq4 (q : P .st (.tup [v1, v2, v3, v4])) : tq [(.st, v1), (.st, v2), (.st, v3), (.st, v4)] P := ⟨by simp [sizeLine], q⟩
theorem tq5 (q : P .st (.tup [v1, v2, v3, v4, v5])) : tq [(.st, v1), (.st, v2), (.st, v3), (.st, v4), (.st, v5)] P := ⟨by simp [sizeLine], q⟩
theorem tq6 (q : P .st (.tup [v1, v2, v3, v4, v5, v6])) : tq [(.st, v1), (.st, v2), (.st, v3), (.st, v4), (.st, v5), (.st, v6)] P := ⟨by simp [sizeLine], q⟩
theorem tq7 (q : P .st (.tup [v1, v2, v3, v4, v5, v6, v7])) : tq [(.st, v1), (.st, v2), (.st, v3), (.st, v4), (.st, v5), (.st, v6), (.st, v7)] P := ⟨by simp [sizeLine], q⟩
theorem fit_st : fit .st (m1, v1) = some v1 := by simp [fit]
theorem fit_eq : fit m1 (m1, v1) = some v1 := by simp [fit]
theorem ft_st {P : Val → Prop} (q : P v1) : ftq .st m1 v1 P := ⟨_, fit_st, q⟩
theorem ft_eq {P : Val → Prop} (q : P v1) : ftq m1 m1 v1 P := ⟨_, fit_eq, q⟩
theorem lq0 (q : P' (.lst [])) : lq m [] P' := ⟨_, [], rfl, by simp [sizeLine], rfl, q⟩
theorem lq1 (f1 : fit m (m1, v1) = some w) (q : P' (.lst [w])) : lq m [(m1, v1)] P' := ⟨_, [w], by simp [fits, f1], by simp [sizeLine], rfl, q⟩
theorem lq2 {w2 : Val} (f1 : fit m (m1, v1) = some w) (f2 : fit m (m2, v2) = some w2) (q : P' (.lst [w, w2])) : lq m [(m1, v1), (m2, v2)] P' := ⟨_, [w, w2], by simp [fits, f1, f2], by simp [sizeLine], rfl, q⟩
theorem lq3 {w2 w3 : Val} (f1 : fit m (m1, v1) = some w) (f2 : fit m (m2, v2) = some w2) (f3 : fit m (m3, v3) = some w3) (q : P' (.lst [w, w2, w3])) : lq m [(m1, v1), (m2, v2), (m3, v3)] P' := ⟨_, [w, w2, w3], by simp [fits, f1, f2, f3], by simp [sizeLine], rfl, q⟩
theorem lq4 {w2 w3 w4 : Val} (f1 : fit m (m1, v1) = some w) (f2 : fit m (m2, v2) = some w2) (f3 : fit m (m3, v3) = some w3) (f4 : fit m (m4, v4) = some w4) (q : P' (.lst [w, w2, w3, w4])) : lq m [(m1, v1), (m2, v2), (m3, v3), (m4, v4)] P' := ⟨_, [w, w2, w3, w4], by simp [fits, f1, f2, f3, f4], by simp [sizeLine], rfl, q⟩
theorem lq5 {w2 w3 w4 w5 : Val} {m1 m2 m3 m4 m5 : Mk} {v1 v2 v3 v4 v5 : Val} (f1 : fit m (m1, v1) = some w) (f2 : fit m (m2, v2) = some w2) (f3 : fit m (m3, v3) = some w3) (f4 : fit m (m4, v4) = some w4) (f5 : fit m (m5, v5) = some w5) (q : P' (.lst [w, w2, w3, w4, w5])) : lq m [(m1, v1), (m2, v2), (m3, v3), (m4, v4), (m5, v5)] P' := ⟨_, [w, w2, w3, w4, w5], by simp [fits, f1, f2, f3, f4, f5], by simp [sizeLine], rfl, q⟩
theorem lq6 {w2 w3 w4 w5 w6 : Val} {m1 m2 m3 m4 m5 m6 : Mk} {v1 v2 v3 v4 v5 v6 : Val} (f1 : fit m (m1, v1) = some w) (f2 : fit m (m2, v2) = some w2) (f3 : fit m (m3, v3) = some w3) (f4 : fit m (m4, v4) = some w4) (f5 : fit m (m5, v5) = some w5) (f6 : fit m (m6, v6) = some w6) (q : P' (.lst [w, w2, w3, w4, w5, w6])) : lq m [(m1, v1), (m2, v2), (m3, v3), (m4, v4), (m5, v5), (m6, v6)] P' := ⟨_, [w, w2, w3, w4, w5, w6], by simp [fits, f1, f2, f3, f4, f5, f6], by simp [sizeLine], rfl, q⟩
theorem fits_st : ∀ vs : List MV, fits .st vs = some (vs.map (·.2))
  | [] => rfl
  | (m, v) :: vs => by simp only [fits, fit_st, fits_st vs, List.map_cons]
theorem lq_st {vs : List MV} (hl : vs.length ≤ sizeLine) (q : P' (.lst (vs.map (·.2)))) : lq .st vs P' := ⟨_, vs.map (·.2), fits_st vs, by simpa using hl, rfl, q⟩
end
/-! ### read, take -/
theorem rd_tmp {P : Mk → Val → Prop} (q : P m v) : rd (.tmp m v) e P := ⟨_, _, rfl, q⟩
theorem rd_slot {P : Mk → Val → Prop} (h : e[i]? = some (.val p m v)) (q : P m v) : rd (.slot i) e P := ⟨_, _, by simp only [readA, h], q⟩
theorem rd_part {P : Mk → Val → Prop} (q : P m v) : rd (.part i m0 m v) e P := ⟨_, _, rfl, q⟩
theorem rds_nil {P : List MV → Prop} (q : P []) : rds [] e P := ⟨_, rfl, q⟩
theorem rds_cons {x : Arg} {xs : List Arg} {P : List MV → Prop} (h : rd x e fun m v => rds xs e fun vs => P ((m, v) :: vs)) : rds (x :: xs) e P := by
  obtain ⟨m, v, h1, vs, h2, q⟩ := h
  exact ⟨_, by simp only [readAs, h1, h2], q⟩
theorem tk_tmp {P : Mk → Val → En → Prop} (q : P m v e) : tk (.tmp m v) e P := ⟨_, _, _, rfl, q⟩
theorem tk_slot {P : Mk → Val → En → Prop} (h : e[i]? = some (.val false m v)) (u : Up e i .emp e') (q : P m v e') : tk (.slot i) e P := ⟨_, _, _, by simp only [takeA, h, u.eq], q⟩
theorem fz_tmp {P : Val → En → Prop} (q : P v e) : frz (.tmp m v) e P := ⟨_, _, rfl, q⟩
theorem fz_slot {P : Val → En → Prop} (h : e[i]? = some (.val p m v)) (u : Up e i (.val p .st v) e') (q : P v e') : frz (.slot i) e P := ⟨_, _, by simp only [frzA, h, u.eq], q⟩
theorem fz_part {P : Val → En → Prop} (h : e[i]? = some (.val p m w)) (hl : m0 = .st ∨ (m0 = .l .st ∧ m.isL = true)) (u : Up e i (.val p m0 w) e') (q : P v e') : frz (.part i m0 m' v) e P := ⟨_, _, by simp only [frzA, h, hl, if_true, u.eq], q⟩
theorem tk_part {P : Mk → Val → En → Prop} (h : e[i]? = some (.val p m w)) (hl : m0 = .st ∨ (m0 = .l .st ∧ m.isL = true)) (u : Up e i (.val p m0 w) e') (q : P .st v e') : tk (.part i m0 m' v) e P := ⟨_, _, _, by simp only [takeA, frzA, h, hl, if_true, u.eq, Res.bind], q⟩
theorem tks_nil {fl : Bool} {P : List MV → En → Prop} (q : P [] e) : tks fl [] e P := ⟨_, _, rfl, q⟩
theorem tks_cons {fl : Bool} {x : Arg} {xs : List Arg} {P : List MV → En → Prop} (h : gd (isPart x && !fl) (tk x e fun m v e1 => tks (fl && isTmp x) xs e1 fun vs e2 => P ((m, v) :: vs) e2)) : tks fl (x :: xs) e P := by
  obtain ⟨h0, m, v, e1, h1, vs, e2, h2, q⟩ := h
  exact ⟨_, _, by simp only [takeAs, h0, Bool.false_eq_true, if_false, h1, Res.bind, h2], q⟩
theorem bo_ok {P : Bool → Prop} (q : P k) : bo (.tmp m (.bl k)) P := ⟨_, _, rfl, q⟩
/-! ### ways -/
theorem br_dec {p : Prop} [Decidable p] {P P' : Prop} (h : p → P) (h' : ¬ p → P') : br (decide p) P P' := ⟨fun q => h (of_decide_eq_true q), fun q => h' (of_decide_eq_false q)⟩
theorem br_not {P P' : Prop} (h : br k P' P) : br (!k) P P' := ⟨fun q => h.f (by simpa using q), fun q => h.t (by simpa using q)⟩
theorem br_and {k' : Bool} {P P' : Prop} (h : br k (br k' P P') P') : br (k && k') P P' := by
  cases k with
  | true => exact ⟨fun q => (h.t rfl).t (by rw [Bool.true_and] at q; exact q), fun q => (h.t rfl).f (by rw [Bool.true_and] at q; exact q)⟩
  | false => exact ⟨fun q => (by rw [Bool.false_and] at q; cases q), fun q => h.f rfl⟩
theorem br_or {k' : Bool} {P P' : Prop} (h : br k P (br k' P P')) : br (k || k') P P' := by
  cases k with
  | false => exact ⟨fun q => (h.f rfl).t (by rw [Bool.false_or] at q; exact q), fun q => (h.f rfl).f (by rw [Bool.false_or] at q; exact q)⟩
  | true => exact ⟨fun _ => h.t rfl, fun q => by rw [Bool.true_or] at q; cases q⟩
theorem br_t {P P' : Prop} (h : P) : br true P P' := ⟨fun _ => h, fun q => by cases q⟩
theorem br_f {P P' : Prop} (h : P') : br false P P' := ⟨fun q => (by cases q), fun _ => h⟩
theorem br_b {P P' : Prop} (h : k = true → P) (h' : k = false → P') : br k P P' := ⟨h, h'⟩
/-! ### operators -/
section
variable {x y : Int} {xs ys : List Val}
theorem bi_add (q : Q (.tmp .st (.int (x + y))) e) : bi .add m (.int x) m' (.int y) e Q := ⟨_, rfl, q⟩
theorem bi_sub (q : Q (.tmp .st (.int (x - y))) e) : bi .sub m (.int x) m' (.int y) e Q := ⟨_, rfl, q⟩
theorem bi_mul (h : mulOk x y = true) (q : Q (.tmp .st (.int (x * y))) e) : bi .mul m (.int x) m' (.int y) e Q := ⟨_, bv_mul h, q⟩
theorem bi_mod (h : y ≠ 0) (q : Q (.tmp .st (.int (x.fmod y))) e) : bi .mod m (.int x) m' (.int y) e Q := ⟨_, bv_mod h, q⟩
theorem bi_fdiv (h : y ≠ 0) (h2 : y.natAbs < 1073741824) (q : Q (.tmp .st (.int (x.fdiv y))) e) : bi .fdiv m (.int x) m' (.int y) e Q := ⟨(.st, .int (x.fdiv y)), by simp only [binV, ne_eq, h, not_false_eq_true, h2, and_self, if_true], q⟩
theorem bi_cat (h : xs.length + ys.length ≤ sizeLine) (h1 : m.hd = .st) (h2 : m'.hd = .st) (q : Q (.tmp (.l .st) (.lst (xs ++ ys))) e) : bi .add m (.lst xs) m' (.lst ys) e Q := ⟨(.l .st, .lst (xs ++ ys)), by simp only [binV, catV, h, h1, h2, and_self, if_true], q⟩
theorem bi_catM {α : Type} {f : α → Val} {X Y : List α} (h : X.length + Y.length ≤ sizeLine) (h1 : m.hd = .st) (h2 : m'.hd = .st) (q : Q (.tmp (.l .st) (.lst ((X ++ Y).map f))) e) : bi .add m (.lst (X.map f)) m' (.lst (Y.map f)) e Q := bi_cat (by rw [List.length_map, List.length_map]; exact h) h1 h2 (by rw [← List.map_append]; exact q)
theorem bi_cat1 {α : Type} {f : α → Val} {X : List α} {a : α} (h : X.length + 1 ≤ sizeLine) (h1 : m.hd = .st) (h2 : m'.hd = .st) (q : Q (.tmp (.l .st) (.lst ((X ++ [a]).map f))) e) : bi .add m (.lst (X.map f)) m' (.lst [f a]) e Q := bi_catM (Y := [a]) (by simpa using h) h1 h2 q
theorem bi_1cat {α : Type} {f : α → Val} {X : List α} {a : α} (h : X.length + 1 ≤ sizeLine) (h1 : m.hd = .st) (h2 : m'.hd = .st) (q : Q (.tmp (.l .st) (.lst ((a :: X).map f))) e) : bi .add m (.lst [f a]) m' (.lst (X.map f)) e Q := bi_catM (X := [a]) (by simp; omega) h1 h2 q
theorem bi_catt (h : xs.length + ys.length ≤ sizeLine) (q : Q (.tmp .st (.tup (xs ++ ys))) e) : bi .add .st (.tup xs) .st (.tup ys) e Q := ⟨(.st, .tup (xs ++ ys)), by simp only [binV, cattV, h, and_self, if_true], q⟩
theorem bi_cattM {α : Type} {f : α → Val} {X Y : List α} (h : X.length + Y.length ≤ sizeLine) (q : Q (.tmp .st (.tup ((X ++ Y).map f))) e) : bi .add .st (.tup (X.map f)) .st (.tup (Y.map f)) e Q := bi_catt (by rw [List.length_map, List.length_map]; exact h) (by rw [← List.map_append]; exact q)
theorem bi_1catt {α : Type} {f : α → Val} {X : List α} {a : α} (h : X.length + 1 ≤ sizeLine) (q : Q (.tmp .st (.tup ((a :: X).map f))) e) : bi .add .st (.tup [f a]) .st (.tup (X.map f)) e Q := bi_cattM (X := [a]) (by simp; omega) q
theorem bi_catt1 {α : Type} {f : α → Val} {X : List α} {a : α} (h : X.length + 1 ≤ sizeLine) (q : Q (.tmp .st (.tup ((X ++ [a]).map f))) e) : bi .add .st (.tup (X.map f)) .st (.tup [f a]) e Q := bi_cattM (Y := [a]) (by simpa using h) q
variable {P : Bool → Prop}
theorem cp_eqI (q : P (decide (x = y))) : cp kt .eq (.int x) (.int y) P := ⟨_, rfl, q⟩
theorem cp_neI (q : P (!decide (x = y))) : cp kt .ne (.int x) (.int y) P := ⟨_, rfl, q⟩
theorem cp_eqN {x y : Nat} (q : P (decide (x = y))) : cp kt .eq (.int (x : Int)) (.int (y : Int)) P := ⟨_, rfl, by
  have : decide ((x : Int) = (y : Int)) = decide (x = y) := by rw [decide_eq_decide]; omega
  rw [this]; exact q⟩
theorem cp_neN {x y : Nat} (q : P (!decide (x = y))) : cp kt .ne (.int (x : Int)) (.int (y : Int)) P := ⟨_, rfl, by
  have : decide ((x : Int) = (y : Int)) = decide (x = y) := by rw [decide_eq_decide]; omega
  rw [this]; exact q⟩
theorem cp_ltI (q : P (decide (x < y))) : cp kt .lt (.int x) (.int y) P := ⟨_, rfl, q⟩
theorem cp_leI (q : P (decide (x ≤ y))) : cp kt .le (.int x) (.int y) P := ⟨_, rfl, q⟩
theorem cp_gtI (q : P (decide (y < x))) : cp kt .gt (.int x) (.int y) P := ⟨_, rfl, q⟩
theorem cp_geI (q : P (decide (y ≤ x))) : cp kt .ge (.int x) (.int y) P := ⟨_, rfl, q⟩
theorem cp_is (q : P (isNon v)) : cp kt .is_ v .non P := ⟨_, rfl, q⟩
theorem cp_isnot (q : P (!isNon v)) : cp kt .isnot v .non P := ⟨_, rfl, q⟩
theorem cp_notin (h : cp kt .isin v w fun k => P (!k)) : cp kt .notin v w P := by
  obtain ⟨k, h1, q⟩ := h
  exact ⟨_, by simp only [cmpV] at h1 ⊢; rw [h1]; rfl, q⟩
end
/-! ### in -/
theorem ds_ints : ∀ T : List Int, Val.Ds (T.map Val.int) = T.map PyData.int
  | [] => by simp [Val.Ds]
  | k :: T => by
    show Val.Ds (Val.int k :: T.map Val.int) = _
    rw [Val.Ds, ds_ints T]; rfl
theorem eqv_ints (a b : Int) : PyData.eqv (.int a) (.int b) = decide (a = b) := by
  simp [PyData.eqv, Bool.beq_eq_decide_eq]
theorem lay_ints : ∀ T : List Int, PyData.canLayAll0 (T.map PyData.int) = true ∧ PyData.depthAll (T.map PyData.int) ≤ 1
  | [] => by simp [PyData.canLayAll0, PyData.depthAll]
  | k :: T => by
    obtain ⟨h1, h2⟩ := lay_ints T
    simp only [List.map_cons, PyData.canLayAll0, PyData.canLay0, h1, Bool.and_self, PyData.depthAll, PyData.depth, true_and]
    omega
theorem ok_int (i : Int) : okV (.int i) = true := rfl
theorem ok_intL (T : List Int) : okV (.lst (T.map Val.int)) = true := by
  unfold okV
  rw [Val.D, ds_ints]
  obtain ⟨h1, h2⟩ := lay_ints T
  unfold SeqAt.shaped
  rw [Bool.and_eq_true]
  refine ⟨by rw [PyData.canLay0]; exact h1, decide_eq_true ?_⟩
  rw [PyData.depth]
  omega
theorem ok_intT (T : List Int) : okV (.tup (T.map Val.int)) = true := by
  unfold okV
  rw [Val.D, ds_ints]
  obtain ⟨h1, h2⟩ := lay_ints T
  unfold SeqAt.shaped
  rw [Bool.and_eq_true]
  refine ⟨by rw [PyData.canLay0]; exact h1, decide_eq_true ?_⟩
  rw [PyData.depth]
  omega
theorem any_ints (x : Int) : ∀ T : List Int, ((T.map Val.int).any fun z => PyData.eqv z.D (Val.int x).D) = decide (x ∈ T)
  | [] => by simp
  | t :: T => by
    rw [List.map_cons, List.any_cons, any_ints x T]
    show (PyData.eqv (.int t) (.int x) || decide (x ∈ T)) = _
    rw [eqv_ints]
    by_cases h : t = x
    · simp [h]
    · have h' : ¬ x = t := fun q => h q.symm
      simp [h, h']
theorem nats_ints (T : List Nat) : (T.map fun k : Nat => Val.int (k : Int)) = (T.map fun k : Nat => (k : Int)).map Val.int := by rw [List.map_map]; rfl
theorem mem_nats {T : List Nat} {k : Nat} : decide ((k : Int) ∈ T.map fun k : Nat => (k : Int)) = decide (k ∈ T) := by
  rw [decide_eq_decide, List.mem_map]
  exact ⟨fun ⟨a, h, e⟩ => (by have : a = k := by omega
                              exact this ▸ h), fun h => ⟨k, h, rfl⟩⟩
theorem in_nat {U : List Nat} {n j : Nat} {P : Int → Prop} (h : U.findIdx? (fun z => decide (z = n)) = some j) (q : P (j : Int)) : inq (.lst (U.map fun k : Nat => .int (k : Int))) [(m, .int (n : Int))] P := by
  refine ⟨_, _, (j : Int), rfl, rfl, ?_, q⟩
  unfold indexV
  rw [nats_ints]
  simp only [ok_int, ok_intL, Bool.and_self, if_true]
  rw [← nats_ints, List.findIdx?_map]
  have : ((fun z => PyData.eqv (Val.D z) (Val.D (.int (n : Int)))) ∘ fun k : Nat => Val.int (k : Int)) = fun z : Nat => decide (z = n) := by
    funext z
    show PyData.eqv (.int z) (.int n) = _
    rw [eqv_ints, decide_eq_decide]
    omega
  rw [this, h]; rfl
section
variable {P : Bool → Prop} {x : Int} {T : List Int} {n : Nat} {U : List Nat}
theorem pq_natL {U : List Nat} {n j : Nat} {m m' : Mk} {P : Mk → Val → Prop} (h : U.findIdx? (fun z => decide (z = n)) = some j) (q : P .st (.int (j : Int))) : pq .lindex (m, .lst (U.map fun k : Nat => .int (k : Int))) [(m', .int (n : Int))] P := by
  obtain ⟨xs, mv, k, h1, h2, h3, h4⟩ := in_nat (m := m') (P := fun k => P .st (.int k)) h q
  cases h1; cases h2
  exact ⟨(.st, .int k), by simp only [pmV, h3, Option.map_some], h4⟩
theorem pq_nat {U : List Nat} {n j : Nat} {m m' : Mk} {P : Mk → Val → Prop} (h : U.findIdx? (fun z => decide (z = n)) = some j) (q : P .st (.int (j : Int))) : pq .tindex (m, .tup (U.map fun k : Nat => .int (k : Int))) [(m', .int (n : Int))] P := by
  obtain ⟨xs, mv, k, h1, h2, h3, h4⟩ := in_nat (m := .st) (P := fun k => P .st (.int k)) h q
  cases h1; cases h2
  have ok : (okV (.int (n : Int)) && okV (.tup (U.map fun k : Nat => .int (k : Int)))) = true := by rw [nats_ints, ok_intT]; rfl
  have e : tindexV (.int (n : Int)) (U.map fun k : Nat => .int (k : Int)) = some k := by
    unfold tindexV
    rw [if_pos ok]
    unfold indexV at h3
    split at h3
    · exact h3
    · cases h3
  exact ⟨(.st, .int k), by simp only [pmV, e, Option.map_some], h4⟩
theorem cp_inL (q : P (decide (x ∈ T))) : cp kt .isin (.int x) (.lst (T.map Val.int)) P := ⟨_, by simp only [cmpV, Sh.inV, ok_int, ok_intL, Bool.and_self, if_true, any_ints], q⟩
theorem cp_inT (q : P (decide (x ∈ T))) : cp kt .isin (.int x) (.tup (T.map Val.int)) P := ⟨_, by simp only [cmpV, Sh.inV, ok_int, ok_intT, Bool.and_self, if_true, any_ints], q⟩
theorem cp_inLN (q : P (decide (n ∈ U))) : cp kt .isin (.int (n : Int)) (.lst (U.map fun k : Nat => .int (k : Int))) P := by
  rw [nats_ints]
  exact cp_inL (by rw [mem_nats]; exact q)
theorem cp_inTN (q : P (decide (n ∈ U))) : cp kt .isin (.int (n : Int)) (.tup (U.map fun k : Nat => .int (k : Int))) P := by
  rw [nats_ints]
  exact cp_inT (by rw [mem_nats]; exact q)
end
/-! ### builtins -/
section
variable {P : Mk → Val → Prop} {x y : Int} {xs : List Val}
theorem bf_lenM {α : Type} {f : α → Val} {X : List α} (q : P .st (.int X.length)) : bf .len [(m, .lst (X.map f))] P := ⟨.st, .int (X.map f).length, rfl, by rw [List.length_map]; exact q⟩
theorem bf_lentM {α : Type} {f : α → Val} {X : List α} (q : P .st (.int X.length)) : bf .len [(m, .tup (X.map f))] P := ⟨.st, .int (X.map f).length, rfl, by rw [List.length_map]; exact q⟩
theorem bf_len (q : P .st (.int xs.length)) : bf .len [(m, .lst xs)] P := ⟨_, _, rfl, q⟩
theorem bf_lent (q : P .st (.int xs.length)) : bf .len [(m, .tup xs)] P := ⟨_, _, rfl, q⟩
theorem bf_int (q : P .st (.int x)) : bf .int [(m, .int x)] P := ⟨_, _, rfl, q⟩
theorem bf_intb (q : P .st (.int (if k then 1 else 0))) : bf .int [(m, .bl k)] P := ⟨_, _, rfl, q⟩
theorem bf_abs (q : P .st (.int (if x < 0 then -x else x))) : bf .abs [(m, .int x)] P := ⟨_, _, rfl, q⟩
theorem bf_list (h : m.hd = .st) (q : P (.l .st) (.lst xs)) : bf .list [(m, .lst xs)] P := ⟨_, _, by simp only [bltV, h, if_true], q⟩
theorem bf_listt (q : P (.l .st) (.lst xs)) : bf .list [(.st, .tup xs)] P := ⟨_, _, rfl, q⟩
theorem bf_tuple (h : m.hd = .st) (q : P .st (.tup xs)) : bf .tuple [(m, .lst xs)] P := ⟨_, _, by simp only [bltV, h, if_true], q⟩
theorem bf_tuplet (q : P .st (.tup xs)) : bf .tuple [(.st, .tup xs)] P := ⟨_, _, rfl, q⟩
theorem intsOf_map : ∀ X : List Int, intsOf (X.map Val.int) = some X
  | [] => rfl
  | x :: X => by simp only [List.map_cons, intsOf, intsOf_map X, Option.map_some]
theorem bf_sum {X : List Int} (q : P .st (.int X.sum)) : bf .sum [(m, .lst (X.map Val.int))] P := ⟨_, _, by simp only [bltV, intsOf_map, Option.map_some], q⟩
theorem bf_sumT {X : List Int} (q : P .st (.int X.sum)) : bf .sum [(m, .tup (X.map Val.int))] P := ⟨_, _, by simp only [bltV, intsOf_map, Option.map_some], q⟩
theorem bf_max2 (q : P .st (.int (if y > x then y else x))) : bf .max [(m, .int x), (m', .int y)] P := ⟨_, _, rfl, q⟩
theorem bf_min2 (q : P .st (.int (if y < x then y else x))) : bf .min [(m, .int x), (m', .int y)] P := ⟨_, _, rfl, q⟩
theorem bf_maxM {n : Int} {X : List Int} (q : P .st (.int (listMax (n :: X)))) : bf .max [(m, .lst ((n :: X).map Val.int))] P := ⟨_, _, by simp only [bltV, intsOf_map], q⟩
theorem bf_minM {n : Int} {X : List Int} (q : P .st (.int (listMin (n :: X)))) : bf .min [(m, .lst ((n :: X).map Val.int))] P := ⟨_, _, by simp only [bltV, intsOf_map], q⟩
end
/-! ### index, slice -/
theorem ixN_natI {n j : Nat} (h : j < n) : L2.ixN n (j : Int) = some j := ixN_nat h
theorem atI_natM {α : Type} {f : α → Val} {X : List α} {j : Nat} {x : α} (h : X[j]? = some x) : L2.atI (X.map f) (j : Int) = some (f x) := atI_nat' (by rw [List.getElem?_map, h]; rfl)
theorem ixx_tup {xs : List Val} {z : Int} (h : L2.atI xs z = some v) (q : Q (.tmp .st v) e) : ixx kt (.tmp .st (.tup xs)) (.int z) e Q := by
  have h4 : idxV kt (.st, .tup xs) (.int z) = some (.st, v) := by
    rw [atI_bind] at h
    obtain ⟨j, q1, q2⟩ := Option.bind_eq_some_iff.mp h
    simp only [idxV, q1, q2, Option.map_some, Mk.at_st]
  exact ⟨_, _, by simp only [idxA, readA, h4], q⟩
theorem ixx_tmpl {xs : List Val} {z : Int} (h : L2.atI xs z = some v) (hm : m.hd = m') (q : Q (.tmp m' v) e) : ixx kt (.tmp m (.lst xs)) (.int z) e Q := ⟨_, _, by simp only [idxA, readA, idxV, h, Option.map_some, hm], q⟩
theorem ixx_slot {xs : List Val} {z : Int} (h0 : e[i]? = some (.val p (.l .st) (.lst xs))) (h : L2.atI xs z = some v) (q : Q (.tmp .st v) e) : ixx kt (.slot i) (.int z) e Q := ⟨_, _, by simp only [idxA, readA, h0, idxV, h, Option.map_some, Mk.hd, if_true], q⟩
theorem ixx_slotl {xs : List Val} {z : Int} (h0 : e[i]? = some (.val p (.l (.l m)) (.lst xs))) (h : L2.atI xs z = some v) (q : Q (.part i (.l .st) (.l m) v) e) : ixx kt (.slot i) (.int z) e Q := ⟨_, _, by simp only [idxA, readA, h0, idxV, h, Option.map_some, Mk.hd, Mk.isL, if_true]; rfl, q⟩
theorem ixx_part {xs : List Val} {z : Int} (h : L2.atI xs z = some v) (hm : m.hd = .st) (q : Q (.tmp .st v) e) : ixx kt (.part i m0 m (.lst xs)) (.int z) e Q := ⟨_, _, by simp only [idxA, readA, idxV, h, Option.map_some, hm, if_true], q⟩
theorem ixx_partt {xs : List Val} {z : Int} (h : L2.atI xs z = some v) (q : Q (.tmp .st v) e) : ixx kt (.part i m0 .st (.tup xs)) (.int z) e Q := by
  have h4 : idxV kt (.st, .tup xs) (.int z) = some (.st, v) := by
    rw [atI_bind] at h
    obtain ⟨j, q1, q2⟩ := Option.bind_eq_some_iff.mp h
    simp only [idxV, q1, q2, Option.map_some, Mk.at_st]
  exact ⟨_, _, by simp only [idxA, readA, h4, if_true], q⟩
theorem ixx_dk {kvs : List (Key × Val)} {z : Key} (h0 : e[i]? = some (.val p (.l .st) (.dk kvs))) (hk : keyOf w = some z) (h : dget kvs z = some v) (q : Q (.tmp .st v) e) : ixx kt (.slot i) w e Q := ⟨_, _, by simp only [idxA, readA, h0, idxV, hk, h, Option.map_some, Mk.hd, if_true], q⟩
theorem cutL_map {α : Type} {f : α → Val} {X : List α} {lo hi : Option Int} : cutL (X.map f) lo hi = (cutL X lo hi).map f := by
  unfold cutL
  rw [List.length_map, ← List.map_drop, ← List.map_take]
theorem cutL_to {α : Type} {X : List α} {n : Nat} : cutL X none (some (n : Int)) = X.take n := by
  unfold cutL
  rw [HT.sIx_none, HT.sIx_nat, List.drop_zero, Nat.sub_zero]
  by_cases h : n ≤ X.length
  · rw [Nat.min_eq_left h]
  · rw [Nat.min_eq_right (by omega), List.take_length, List.take_of_length_le (by omega)]
theorem cutL_from {α : Type} {X : List α} {n : Nat} : cutL X (some (n : Int)) none = X.drop n := by
  unfold cutL
  rw [HT.sIx_none, HT.sIx_nat]
  by_cases h : n ≤ X.length
  · rw [Nat.min_eq_left h, List.take_of_length_le (by simp)]
  · rw [Nat.min_eq_right (by omega), List.drop_length, List.drop_of_length_le (by omega)]; simp
theorem cutL_mem {α : Type} {X : List α} {lo hi : Option Int} {a : α} (h : a ∈ cutL X lo hi) : a ∈ X := List.mem_of_mem_drop (List.mem_of_mem_take h)
theorem cutL_len {α : Type} {X : List α} {lo hi : Option Int} : (cutL X lo hi).length ≤ X.length := by
  unfold cutL
  rw [List.length_take, List.length_drop]
  omega
theorem sl_lstM {α : Type} {f : α → Val} {X : List α} {lo hi : Option Int} {P : Mk → Val → Prop} (h : m.hd = .st) (q : P (.l .st) (.lst ((cutL X lo hi).map f))) : sl m (.lst (X.map f)) lo hi P := ⟨.l .st, .lst (cutL (X.map f) lo hi), by simp only [slcV, h, if_true], by rw [cutL_map]; exact q⟩
theorem sl_tupM {α : Type} {f : α → Val} {X : List α} {lo hi : Option Int} {P : Mk → Val → Prop} (q : P .st (.tup ((cutL X lo hi).map f))) : sl .st (.tup (X.map f)) lo hi P := ⟨.st, .tup (cutL (X.map f) lo hi), by simp only [slcV], by rw [cutL_map]; exact q⟩
theorem sl_lst {xs : List Val} {lo hi : Option Int} {P : Mk → Val → Prop} (h : m.hd = .st) (q : P (.l .st) (.lst (cutL xs lo hi))) : sl m (.lst xs) lo hi P := ⟨_, _, by simp only [slcV, h, if_true], q⟩
theorem sl_tup {xs : List Val} {lo hi : Option Int} {P : Mk → Val → Prop} (q : P .st (.tup (cutL xs lo hi))) : sl .st (.tup xs) lo hi P := ⟨_, _, by simp only [slcV], q⟩
/-! ### methods -/
section
variable {P : Mk → Val → En → Prop} {xs : List Val} {y : Val}
theorem mu_app (h : e[i]? = some (.val p (.l m) (.lst xs))) (hf : fit m (m', v) = some y) (hl : xs.length < sizeLine) (u : Up e i (.val p (.l m) (.lst (xs ++ [y]))) e') (q : P .st .non e') : mu .append i [(m', v)] e P := ⟨_, _, _, xs ++ [y], (.st, .non), h, by simp only [mutV, hl, if_true, hf, Option.map_some], by rw [u.eq]; exact q⟩
theorem mu_appM {α : Type} {f : α → Val} {X : List α} {a : α} (h : e[i]? = some (.val p (.l m) (.lst (X.map f)))) (hf : fit m (m', v) = some (f a)) (hl : X.length < sizeLine) (u : Up e i (.val p (.l m) (.lst ((X ++ [a]).map f))) e') (q : P .st .non e') : mu .append i [(m', v)] e P := mu_app h hf (by simpa using hl) (by rw [List.map_append] at u; exact u) q
theorem mu_rev {α : Type} {f : α → Val} {X : List α} (h : e[i]? = some (.val p (.l m) (.lst (X.map f)))) (u : Up e i (.val p (.l m) (.lst (X.reverse.map f))) e') (q : P .st .non e') : mu .reverse i [] e P := ⟨_, _, _, (X.map f).reverse, (.st, .non), h, rfl, by rw [← List.map_reverse, u.eq]; exact q⟩
theorem mu_ins {α : Type} {f : α → Val} {X : List α} {a : α} {z : Int} (h : e[i]? = some (.val p (.l m) (.lst (X.map f)))) (h0 : 0 ≤ z) (h1 : z < 2 ^ 63) (hf : fit m (m', v) = some (f a)) (hl : X.length < sizeLine) (u : Up e i (.val p (.l m) (.lst ((X.take z.toNat ++ [a] ++ X.drop z.toNat).map f))) e') (q : P .st .non e') : mu .insert i [(m0, .int z), (m', v)] e P := ⟨_, _, _, (X.map f).take z.toNat ++ [f a] ++ (X.map f).drop z.toNat, (.st, .non), h, by simp only [mutV, List.length_map, hl, h0, h1, and_self, if_true, hf, Option.map_some], by rw [List.map_append, List.map_append, List.map_take, List.map_drop] at u; rw [show [f a] = List.map f [a] from rfl, u.eq]; exact q⟩
theorem mu_pop {α : Type} {f : α → Val} {X : List α} {a : α} (h : e[i]? = some (.val p (.l m) (.lst (X.map f)))) (hl : X.getLast? = some a) (u : Up e i (.val p (.l m) (.lst (X.dropLast.map f))) e') (q : P m (f a) e') : mu .pop i [] e P := by
  have h1 : (X.map f)[(X.map f).length - 1]? = some (f a) := by
    rw [List.length_map, List.getElem?_map, ← List.getLast?_eq_getElem?, hl]; rfl
  have h2 : (X.map f).dropLast = X.dropLast.map f := by rw [List.map_dropLast]
  exact ⟨_, _, _, X.dropLast.map f, (m, f a), h, by simp only [mutV, h1, h2], by rw [u.eq]; exact q⟩
end
/-! ### calls -/
section
variable {L : List (DA × Bk) → En → Prop} {fl : Bool} {md : List Md} {as : List Arg}
theorem ps_nil (q : L [] e) : ps fl [] [] e L := ⟨_, _, rfl, q⟩
theorem ps_frz (h : ps (fl && true) md as e fun l e1 => L ((⟨false, .st, v⟩, .no) :: l) e1) : ps fl (.frz :: md) (.tmp m v :: as) e L := by
  obtain ⟨l, e1, h1, q⟩ := h
  exact ⟨_, _, by simp only [passN, isPart, Bool.false_and, Bool.false_eq_true, if_false, pass1, frzA, Res.bind, isTmp, h1], q⟩
theorem ps_bor (h : ps (fl && true) md as e fun l e1 => L ((⟨false, .st, v⟩, .no) :: l) e1) : ps fl (.bor :: md) (.tmp m v :: as) e L := by
  obtain ⟨l, e1, h1, q⟩ := h
  exact ⟨_, _, by simp only [passN, isPart, Bool.false_and, Bool.false_eq_true, if_false, pass1, frzA, Res.bind, isTmp, h1], q⟩
theorem ps_mov (h : ps (fl && true) md as e fun l e1 => L ((⟨false, m, v⟩, .no) :: l) e1) : ps fl (.mov :: md) (.tmp m v :: as) e L := by
  obtain ⟨l, e1, h1, q⟩ := h
  exact ⟨_, _, by simp only [passN, isPart, Bool.false_and, Bool.false_eq_true, if_false, pass1, takeA, Res.bind, isTmp, h1], q⟩
theorem ps_frzs (h0 : e[i]? = some (.val p m v)) (u : Up e i (.val p .st v) e') (h : ps (fl && false) md as e' fun l e1 => L ((⟨false, .st, v⟩, .no) :: l) e1) : ps fl (.frz :: md) (.slot i :: as) e L := by
  obtain ⟨l, e1, h1, q⟩ := h
  exact ⟨_, _, by simp only [passN, isPart, Bool.false_and, Bool.false_eq_true, if_false, pass1, frzA, h0, u.eq, Res.bind, isTmp, h1], q⟩
theorem ps_movs (h0 : e[i]? = some (.val false m v)) (u : Up e i .emp e') (h : ps (fl && false) md as e' fun l e1 => L ((⟨false, m, v⟩, .no) :: l) e1) : ps fl (.mov :: md) (.slot i :: as) e L := by
  obtain ⟨l, e1, h1, q⟩ := h
  exact ⟨_, _, by simp only [passN, isPart, Bool.false_and, Bool.false_eq_true, if_false, pass1, takeA, h0, u.eq, Res.bind, isTmp, h1], q⟩
theorem ps_bors (h0 : e[i]? = some (.val p m v)) (hlo : lendOk m v = true) (u : Up e i .emp e') (h : ps (fl && false) md as e' fun l e1 => L ((⟨false, .st, v⟩, .lent i (.val p m v)) :: l) e1) : ps fl (.bor :: md) (.slot i :: as) e L := by
  obtain ⟨l, e1, h1, q⟩ := h
  exact ⟨_, _, by simp only [passN, isPart, Bool.false_and, Bool.false_eq_true, if_false, pass1, h0, hlo, if_true, u.eq, Res.bind, isTmp, h1], q⟩
theorem ps_borl {xs : List Val} (h0 : e[i]? = some (.val p (.l .st) (.lst xs))) (u : Up e i .emp e') (h : ps (fl && false) md as e' fun l e1 => L ((⟨false, .st, .lst xs⟩, .lent i (.val p (.l .st) (.lst xs))) :: l) e1) : ps fl (.bor :: md) (.slot i :: as) e L := ps_bors h0 (by simp [lendOk]) u h
theorem ps_ino (h0 : e[i]? = some (.val p m v)) (u : Up e i .emp e') (h : ps (fl && false) md as e' fun l e1 => L ((⟨true, m, v⟩, .chg i p) :: l) e1) : ps fl (.ino :: md) (.slot i :: as) e L := by
  obtain ⟨l, e1, h1, q⟩ := h
  exact ⟨_, _, by simp only [passN, isPart, Bool.false_and, Bool.false_eq_true, if_false, pass1, h0, u.eq, Res.bind, isTmp, h1], q⟩
variable {fe : En} {N : En → Prop} {bs : List Bk}
theorem pb_nil (q : N e) : pb [] fe e N := ⟨_, rfl, q⟩
theorem pb_no (h : pb bs fe.tail e N) : pb (.no :: bs) fe e N := by
  obtain ⟨e1, h1, q⟩ := h
  exact ⟨_, by simp only [putBack, h1], q⟩
theorem pb_lent {s : Slot} (h : pb bs fe.tail e fun e1 => ud e1 i s N) : pb (.lent i s :: bs) fe e N := by
  obtain ⟨e1, h1, ⟨q⟩⟩ := h
  exact ⟨_, by simp only [putBack, h1, Option.map_some], q⟩
theorem pb_chg (h0 : fe.head? = some (.val k m v)) (h : pb bs fe.tail e fun e1 => ud e1 i (.val p m v) N) : pb (.chg i p :: bs) fe e N := by
  obtain ⟨e1, h1, ⟨q⟩⟩ := h
  exact ⟨_, by simp only [putBack, h0, h1, Option.map_some], q⟩
theorem ud_ok {s : Slot} (u : Up e i s e') (q : N e') : ud e i s N := ⟨by rw [u.eq]; exact q⟩
variable {f : Nat} {l : List (DA × Bk)} {S : Mk → Val → En → Prop}
/-- by what the def does -/
theorem cc_sp (h : Sp c f (l.map (·.1)) S) (hl : anyLent (l.map (·.2)) = false) (q : ∀ m v fe, S m v fe → pb (l.map (·.2)) fe e (Q (.tmp m v))) : cc c f l e Q := by
  obtain ⟨m, v, fe, h1, h2⟩ := h
  exact ⟨m, v, fe, h1, by rw [hl]; rfl, q m v fe h2⟩
theorem cc_rt (h : ∃ fe, c f (l.map (·.1)) = .ret m v fe) (hl : anyLent (l.map (·.2)) = false) (q : ∀ fe, pb (l.map (·.2)) fe e (Q (.tmp m v))) : cc c f l e Q := by
  obtain ⟨fe, h1⟩ := h
  exact ⟨m, v, fe, h1, by rw [hl]; rfl, q fe⟩
theorem cc_lent (h : Sp c f (l.map (·.1)) S) (hl : ∀ m v fe, S m v fe → (pureAt m v && chgPure (l.map (·.2)) fe) = true) (q : ∀ m v fe, S m v fe → pb (l.map (·.2)) fe e (Q (.tmp m v))) : cc c f l e Q := by
  obtain ⟨m, v, fe, h1, h2⟩ := h
  exact ⟨m, v, fe, h1, by rw [hl m v fe h2, Bool.or_true], q m v fe h2⟩
end
/-! ### targets -/
section
variable {N : En → Prop} {s : Slot}
theorem as_nm (hm : m ≠ .pr) (h : e[i]? = some s) (hn : npS s = true) (u : Up e i (.val false m v) e') (q : N e') : asn (.nm i) m v e N := ⟨_, by rw [asgT_eqM hm, h]; simp only [hn, if_true, u.eq], q⟩
theorem as_tp {ts : T} {xs : List Val} (hm : m.isL = false) (h : asns ts m xs e N) : asn (.tp ts) m (.tup xs) e N := by
  obtain ⟨e1, h1, q⟩ := h
  exact ⟨_, by simp only [asgT, hm, Bool.false_eq_true, if_false, h1], q⟩
theorem ass_nil (q : N e) : asns .nil m [] e N := ⟨_, rfl, q⟩
theorem ass_st {t ts : T} {x : Val} {xs : List Val} (h : asn t .st x e fun e1 => asns ts .st xs e1 N) : asns (.cons t ts) .st (x :: xs) e N := by
  obtain ⟨e1, h1, e2, h2, q⟩ := h
  exact ⟨_, by unfold asgTs; simp only [Mk.hd, Mk.tl, h1, h2], q⟩
theorem ass_pr {t ts : T} {x : Val} {xs : List Val} (h : asn t .st x e fun e1 => asns ts .st xs e1 N) : asns (.cons t ts) .pr (x :: xs) e N := by
  obtain ⟨e1, h1, e2, h2, q⟩ := h
  exact ⟨_, by unfold asgTs; simp only [Mk.hd, Mk.tl, h1, h2], q⟩
theorem ass_tc {t ts : T} {x : Val} {xs : List Val} (h : asn t m x e fun e1 => asns ts m' xs e1 N) : asns (.cons t ts) (.tc m m') (x :: xs) e N := by
  obtain ⟨e1, h1, e2, h2, q⟩ := h
  exact ⟨_, by unfold asgTs; simp only [Mk.hd, Mk.tl, h1, h2], q⟩
end
/-! ### statements -/
section
variable {N B K : En → Prop} {R : Mk → Val → En → Prop} {s s' : Sh.C} {tt : T}
theorem wX_nil (q : N e) : wX kt c .nil e N B K R := ⟨.nx, _, by simp only [ex], q⟩
theorem wX_seq (h : wX kt c s e (fun e1 => wX kt c s' e1 N B K R) B K R) : wX kt c (.seq s s') e N B K R := by
  obtain ⟨f, e1, h1, h2⟩ := h
  cases f with
  | nx =>
    obtain ⟨f, e2, h3, h4⟩ := h2
    exact ⟨f, e2, by simp only [ex, h1, Res.bind, h3], h4⟩
  | bk => exact ⟨.bk, _, by simp only [ex, h1, Res.bind], h2⟩
  | ct => exact ⟨.ct, _, by simp only [ex, h1, Res.bind], h2⟩
  | rt m v => exact ⟨.rt m v, _, by simp only [ex, h1, Res.bind], h2⟩
  | xc x => exact h2.elim
theorem wX_asg (h : wE kt c a e fun x e1 => tk x e1 fun m v e2 => asn tt m v e2 N) : wX kt c (.asg tt a) e N B K R := by
  obtain ⟨x, e1, h1, m, v, e2, h2, e3, h3, q⟩ := h
  exact ⟨.nx, _, by simp only [ex, h1, Res.bind, h2, h3], q⟩
theorem wX_sto (h : wE kt c b e fun x e1 => tk x e1 fun m v e2 => gd (!isV e2 i) (wE kt c a e2 fun y e3 => rd y e3 fun _ z => wsto kt i z m v e3 N)) : wX kt c (.sto (.var i) a b) e N B K R := by
  obtain ⟨x, e1, h1, m, v, e2, h2, h3, y, e3, h4, m', z, h5, p, m0, w, w', h6, h7, q⟩ := h
  exact ⟨.nx, _, by simp only [ex, h1, Res.bind, h2, h3, Bool.false_eq_true, if_false, h4, h5, stoS, h6, h7], q⟩
theorem wsto_lst {xs : List Val} {z : Int} {y : Val} (h : e[i]? = some (.val p (.l m0) (.lst xs))) (hz : L2.ixN xs.length z = some j) (hf : fit m0 (m, v) = some y) (u : Up e i (.val p (.l m0) (.lst (xs.set j y))) e') (q : N e') : wsto kt i (.int z) m v e N := ⟨_, _, _, .lst (xs.set j y), h, by simp only [stoV, hf, hz, Option.map_some], by rw [u.eq]; exact q⟩
theorem wsto_lstM {α : Type} {f : α → Val} {X : List α} {z : Int} {x : α} (h : e[i]? = some (.val p (.l m0) (.lst (X.map f)))) (hz : L2.ixN X.length z = some j) (hf : fit m0 (m, v) = some (f x)) (u : Up e i (.val p (.l m0) (.lst ((X.set j x).map f))) e') (q : N e') : wsto kt i (.int z) m v e N := wsto_lst h (by rw [List.length_map]; exact hz) hf (by rw [List.map_set] at u; exact u) q
theorem wsto_dk {kvs : List (Key × Val)} {z : Key} (h : e[i]? = some (.val p (.l .st) (.dk kvs))) (hk : keyOf w = some z) (hl : kvs.length < sizeLine) (u : Up e i (.val p (.l .st) (.dk (putD kvs z v))) e') (q : N e') : wsto kt i w m v e N := ⟨_, _, _, .dk (putD kvs z v), h, by simp only [stoV, fit, or_true, if_true, hk, hl, and_self], by rw [u.eq]; exact q⟩
theorem wX_aug {op : BOp} (h0 : e[i]? = some (.val false .st v)) (h : wE kt c a e fun y e1 => rd y e1 fun _ w => tg op v w fun z => ud e1 i (.val false .st z) N) : wX kt c (.aug i op a) e N B K R := by
  obtain ⟨y, e1, h1, m, w, h2, z, h3, ⟨q⟩⟩ := h
  exact ⟨.nx, _, by simp only [ex, h0, h1, Res.bind, h2, h3], q⟩
theorem tg_add {x y : Int} {P : Val → Prop} (q : P (.int (x + y))) : tg .add (.int x) (.int y) P := ⟨_, rfl, q⟩
theorem tg_sub {x y : Int} {P : Val → Prop} (q : P (.int (x - y))) : tg .sub (.int x) (.int y) P := ⟨_, rfl, q⟩
theorem wX_expr (h : wE kt c a e fun _ e1 => N e1) : wX kt c (.expr a) e N B K R := by
  obtain ⟨x, e1, h1, q⟩ := h
  exact ⟨.nx, _, by simp only [ex, h1, Res.bind], q⟩
theorem wX_ret (h : wE kt c a e fun x e1 => tk x e1 R) : wX kt c (.ret a) e N B K R := by
  obtain ⟨x, e1, h1, m, v, e2, h2, q⟩ := h
  exact ⟨.rt m v, _, by simp only [ex, h1, Res.bind, h2], q⟩
theorem wX_retN (q : R .st .non e) : wX kt c .retN e N B K R := ⟨.rt .st .non, _, by simp only [ex], q⟩
theorem wX_iff (h : wE kt c t e fun x e1 => bo x fun k => br k (wX kt c s e1 N B K R) (wX kt c s' e1 N B K R)) : wX kt c (.iff t s s') e N B K R := by
  obtain ⟨x, e1, h1, m, k, rfl, h2, h3⟩ := h
  cases k with
  | true =>
    obtain ⟨f, e2, h4, q⟩ := h2 rfl
    exact ⟨f, e2, by simp only [ex, h1, Res.bind, asB, if_true, h4], q⟩
  | false =>
    obtain ⟨f, e2, h4, q⟩ := h3 rfl
    exact ⟨f, e2, by simp only [ex, h1, Res.bind, asB, Bool.false_eq_true, if_false, h4], q⟩
/-- both ways of a branch meet again -/
theorem br_join {e2 : En} (P : En → Prop) (h : br k (wX kt c s e P B K R) (wX kt c s' e2 P B K R)) (q : ∀ e, P e → N e) : br k (wX kt c s e N B K R) (wX kt c s' e2 N B K R) := by
  have go : ∀ {s : Sh.C} {e : En}, wX kt c s e P B K R → wX kt c s e N B K R := fun {s e} h => by
    obtain ⟨f, e1, h1, h2⟩ := h
    refine ⟨f, e1, h1, ?_⟩
    cases f with
    | nx => exact q _ h2
    | bk => exact h2
    | ct => exact h2
    | rt m v => exact h2
    | xc x => exact h2.elim
  exact ⟨fun hk => go (h.t hk), fun hk => go (h.f hk)⟩
theorem wX_join (P : En → Prop) (h : wX kt c s e P B K R) (q : ∀ e, P e → N e) : wX kt c s e N B K R := by
  obtain ⟨f, e1, h1, h2⟩ := h
  refine ⟨f, e1, h1, ?_⟩
  cases f with
  | nx => exact q _ h2
  | bk => exact h2
  | ct => exact h2
  | rt m v => exact h2
  | xc x => exact h2.elim
theorem wX_brk (q : B e) : wX kt c .brk e N B K R := ⟨.bk, _, by simp only [ex], q⟩
theorem wX_cnt (q : K e) : wX kt c .cnt e N B K R := ⟨.ct, _, by simp only [ex], q⟩
theorem wX_pass (q : N e) : wX kt c .pass e N B K R := ⟨.nx, _, by simp only [ex], q⟩
theorem wX_for (h : wW kt c a e fun m xs e1 => wF kt c tt m s xs e1 N R) : wX kt c (.forr tt a s) e N B K R := by
  obtain ⟨m, xs, e1, h1, f, e2, h2, q⟩ := h
  refine ⟨f, e2, by simp only [ex, h1, Res.bind, h2], ?_⟩
  cases f with
  | nx => exact q
  | rt m v => exact q
  | bk => exact q.elim
  | ct => exact q.elim
  | xc x => exact q.elim
theorem wF_nil (q : N e) : wF kt c tt m s [] e N R := ⟨.nx, _, rfl, q⟩
theorem wF_cons {x : Val} {xs : List Val} (h : asn tt m x e fun e1 => wX kt c s e1 (fun e2 => wF kt c tt m s xs e2 N R) N (fun e2 => wF kt c tt m s xs e2 N R) R) : wF kt c tt m s (x :: xs) e N R := by
  obtain ⟨e1, h1, f, e2, h2, h3⟩ := h
  cases f with
  | nx =>
    obtain ⟨f, e3, h4, q⟩ := h3
    exact ⟨f, e3, by unfold forL; rw [h1]; simp only; rw [h2]; exact h4, q⟩
  | ct =>
    obtain ⟨f, e3, h4, q⟩ := h3
    exact ⟨f, e3, by unfold forL; rw [h1]; simp only; rw [h2]; exact h4, q⟩
  | bk => exact ⟨.nx, e2, by unfold forL; rw [h1]; simp only; rw [h2]; rfl, h3⟩
  | rt m v => exact ⟨.rt m v, e2, by unfold forL; rw [h1]; simp only; rw [h2]; rfl, h3⟩
  | xc x => exact h3.elim
/-- a loop by what holds behind each beginning of what it walks -/
theorem wF_inv {α : Type} {f : α → Val} (I : List α → En → Prop) : ∀ {X done : List α} {e : En}, I done e →
    (∀ d a r e, done ++ X = d ++ a :: r → I d e → asn tt m (f a) e fun e1 => wX kt c s e1 (I (d ++ [a])) N (I (d ++ [a])) R) → (∀ e, I (done ++ X) e → N e) → wF kt c tt m s (X.map f) e N R
  | [], done, e, h0, _, hf => wF_nil (hf e (by simpa using h0))
  | a :: X, done, e, h0, hs, hf => by
    refine wF_cons (x := f a) (xs := X.map f) ?_
    obtain ⟨e1, h1, g, e2, h2, h3⟩ := hs done a X e rfl h0
    refine ⟨e1, h1, g, e2, h2, ?_⟩
    have go : ∀ e2, I (done ++ [a]) e2 → wF kt c tt m s (X.map f) e2 N R := fun e2 h => wF_inv I (done := done ++ [a]) h (fun d a' r e q h => hs d a' r e (by simpa using q) h) (fun e h => hf e (by simpa using h))
    cases g with
    | nx => exact go _ h3
    | ct => exact go _ h3
    | bk => exact h3
    | rt m v => exact h3
    | xc x => exact h3.elim
theorem wF_iv {α : Type} {f : α → Val} {X : List α} (I : List α → En → Prop) (h0 : I [] e)
    (hs : ∀ d a r e, X = d ++ a :: r → I d e → asn tt m (f a) e fun e1 => wX kt c s e1 (I (d ++ [a])) N (I (d ++ [a])) R) (hf : ∀ e, I X e → N e) : wF kt c tt m s (X.map f) e N R := wF_inv I (done := []) h0 hs hf
/-- a loop over 0 .. n-1 -/
theorem wF_rg {n : Nat} {f : Nat → Val} (I : Nat → En → Prop) (h0 : I 0 e)
    (hs : ∀ k e, k < n → I k e → asn tt m (f k) e fun e1 => wX kt c s e1 (I (k + 1)) N (I (k + 1)) R) (hf : ∀ e, I n e → N e) : wF kt c tt m s ((List.range n).map f) e N R := by
  refine wF_iv (fun d e => I d.length e) h0 (fun d a r e q h => ?_) (fun e h => hf e (by simpa using h))
  have h1 : a = d.length := by
    have := congrArg (fun l => l[d.length]?) q
    simp only [List.getElem?_append_right (Nat.le_refl _), Nat.sub_self, List.getElem?_cons_zero] at this
    have hlt : d.length < (List.range n).length := by rw [q]; simp
    rw [List.getElem?_eq_getElem hlt] at this
    simpa using this.symm
  have h2 : d.length < n := by
    have := congrArg List.length q
    simp at this
    omega
  have := hs d.length e h2 h
  rw [h1]
  simpa using this
/-- a loop over items by an invariant of their number -/
theorem wF_ix {α : Type} {f : α → Val} {X : List α} (I : Nat → En → Prop) (h0 : I 0 e)
    (hs : ∀ k a e, X[k]? = some a → I k e → asn tt m (f a) e fun e1 => wX kt c s e1 (I (k + 1)) N (I (k + 1)) R) (hf : ∀ e, I X.length e → N e) : wF kt c tt m s (X.map f) e N R := by
  refine wF_iv (fun d e => I d.length e) h0 (fun d a r e q h => ?_) (fun e h => hf e (by simpa using h))
  have := hs d.length a e (by rw [q]; simp) h
  simpa using this
end
/-! ### comprehensions -/
section
variable {own : List Nat} {tt : T} {elt : Sh.E}
structure wP (kt : Bool) (c : Calls) (t : T) (mk : Mk) (cd elt : Sh.E) (m : Mk) (x : Val) (e : En) (Y : Val → En → Prop) (Z : En → Prop) : Prop where
  mk :: (h : asn t mk x e fun e2 => wC kt c cd e2 fun k e3 => br k (wE kt c elt e3 fun x e4 => tk x e4 fun m' v e5 => ftq m m' v fun y => Y y e5) (Z e3))
theorem setEmp_idem : ∀ (is : List Nat) (e : En), setEmp (setEmp e is) is = setEmp e is := fun is e => List.ext_getElem? fun j => by
  by_cases hj : j ∈ is
  · by_cases hjl : j < e.length
    · have q : ∀ {is : List Nat} {e : En}, j ∈ is → j < e.length → (setEmp e is)[j]? = some .emp := by
        intro is
        induction is with
        | nil => intro e h; simp at h
        | cons i is ih =>
          intro e h hl
          unfold setEmp
          rcases List.mem_cons.mp h with rfl | h
          · exact setEmp_emp (by rw [List.getElem?_set_self hl])
          · exact ih h (by simpa using hl)
      rw [q hj (by rw [setEmp_len]; exact hjl), q hj hjl]
    · rw [List.getElem?_eq_none (by rw [setEmp_len, setEmp_len]; omega), List.getElem?_eq_none (by rw [setEmp_len]; omega)]
  · rw [setEmp_get hj]
theorem compL_inv {α : Type} {f : α → Val} {mk : Mk} (I : List α → List Val → En → Prop) : ∀ {X done : List α} {acc : List Val} {e : En}, I done acc e → acc.length ≤ done.length → (done ++ X).length ≤ sizeLine →
    (∀ d a r acc e, done ++ X = d ++ a :: r → I d acc e → wP kt c tt mk d' elt m (f a) (setEmp e own) (fun y e5 => I (d ++ [a]) (acc ++ [y]) e5) (fun e5 => I (d ++ [a]) acc e5)) →
    ∃ acc' e', compL own tt mk (fun e => (evC kt c d' e).bind fun k e => if k then (ev kt c elt e).bind fun x e => (takeA x e).bind fun v e => optR ((fit m v).map some) e else .ok none e) (X.map f) acc e = .ok acc' e' ∧ I (done ++ X) acc' e'
  | [], done, acc, e, h0, _, _, _ => ⟨acc, e, by simp [compL], by simpa using h0⟩
  | a :: X, done, acc, e, h0, hl, hz, hs => by
    obtain ⟨e2, h1, k, e3, h2, ⟨h3, h4⟩⟩ := hs done a X acc e rfl h0
    have go : ∀ acc2 e2, I (done ++ [a]) acc2 e2 → acc2.length ≤ (done ++ [a]).length → _ := fun acc2 e2 h hl => compL_inv I (X := X) (done := done ++ [a]) h hl (by simpa using hz) (fun d a' r acc e q h => hs d a' r acc e (by simpa using q) h)
    simp only [List.map_cons]
    unfold compL
    rw [h1]
    simp only
    rw [h2]
    cases k with
    | true =>
      obtain ⟨x, e4, h5, m', v, e5, h6, y, h7, h8⟩ := h3 rfl
      obtain ⟨acc', e', h9, h10⟩ := go (acc ++ [y]) e5 h8 (by simpa using hl)
      refine ⟨acc', e', ?_, by simpa using h10⟩
      simp only [Res.bind, if_true, h5, h6, h7, Option.map_some, optR]
      have : acc.length < sizeLine := by simp only [List.length_append, List.length_cons] at hz; omega
      rw [if_pos this]
      exact h9
    | false =>
      obtain ⟨acc', e', h9, h10⟩ := go acc e3 (h4 rfl) (by simp; omega)
      refine ⟨acc', e', ?_, by simpa using h10⟩
      simp only [Res.bind, Bool.false_eq_true, if_false]
      exact h9
structure wK (kt : Bool) (c : Calls) (own : List Nat) (t : T) (mk : Mk) (cd elt : Sh.E) (m : Mk) (xs : List Val) (e : En) (Q : Arg → En → Prop) : Prop where
  mk :: (h : ∃ acc e', ownOk e own = true ∧ compL own t mk (fun e => (evC kt c cd e).bind fun k e => if k then (ev kt c elt e).bind fun x e => (takeA x e).bind fun v e => optR ((fit m v).map some) e else .ok none e) xs [] (setEmp e own) = .ok acc e' ∧ Q (.tmp (.l m) (.lst acc)) (backS e own e'))
theorem wE_comp (h : wW kt c a e fun mk xs e1 => wK kt c own tt mk d' elt m xs e1 Q) : wE kt c (.comp m own tt a d' elt) e Q := by
  obtain ⟨mk, xs, e1, h1, acc, e', ho, h2, q⟩ := h
  refine ⟨_, _, ?_, q⟩
  simp only [ev]
  rw [h1]
  simp only [Res.bind, ho, Bool.not_true, Bool.false_eq_true, if_false]
  simp only [Res.bind] at h2
  rw [h2]
/-- over a list of ours, which lies aside meanwhile -/
theorem wE_kc {xs : List Val} (h0 : e[i]? = some (.val p (.l .st) (.lst xs))) (u : Up e i .emp e1) (h : wK kt c own tt .st d' elt m xs e1 fun x e2 => ud e2 i (.val p (.l .st) (.lst xs)) (Q x)) : wE kt c (.kcomp m own tt (.var i) d' elt) e Q := by
  obtain ⟨acc, e', ho, h2, ⟨q⟩⟩ := h
  have u := u.eq
  refine ⟨_, _, ?_, q⟩
  have h1 : optR (argOf i (.val p (.l .st) (.lst xs))) e = .ok (.slot i) e := rfl
  simp only [ev, h0]
  rw [h1]
  simp only [Res.bind, h0, u, ho, Bool.not_true, Bool.false_eq_true, if_false]
  simp only [Res.bind] at h2
  rw [h2]
/-- a comprehension by what holds behind each beginning -/
theorem wK_inv {α : Type} {f : α → Val} {mk : Mk} {X : List α} (I : List α → List Val → En → Prop) (ho : ownOk e own = true) (hz : X.length ≤ sizeLine)
    (h0 : I [] [] (setEmp e own)) (hs : ∀ d a r acc e, X = d ++ a :: r → I d acc e → wP kt c tt mk d' elt m (f a) (setEmp e own) (fun y e5 => I (d ++ [a]) (acc ++ [y]) e5) (fun e5 => I (d ++ [a]) acc e5))
    (hf : ∀ acc e', I X acc e' → Q (.tmp (.l m) (.lst acc)) (backS e own e')) : wK kt c own tt mk d' elt m (X.map f) e Q := by
  obtain ⟨acc, e', h2, h3⟩ := compL_inv (own := own) (kt := kt) (c := c) (tt := tt) (d' := d') (elt := elt) (m := m) (f := f) (mk := mk) I (X := X) (done := []) (acc := []) (e := setEmp e own) h0 (by simp) (by simpa using hz) hs
  exact ⟨acc, e', ho, h2, hf acc e' h3⟩
/-- a comprehension that changes nothing else: what passes the test, each made into an item -/
theorem wK_F {α : Type} {f : α → Val} {mk : Mk} {X : List α} {e0 : En} (t : α → Bool) (g : α → Val) (ho : ownOk e own = true) (hz : X.length ≤ sizeLine) (h0 : UpE e own e0)
    (hs : ∀ a ∈ X, wP kt c tt mk d' elt m (f a) e0 (fun y e5 => t a = true ∧ y = g a ∧ UpE e5 own e0) (fun e5 => t a = false ∧ UpE e5 own e0))
    (q : Q (.tmp (.l m) (.lst ((X.filter t).map g))) e) : wK kt c own tt mk d' elt m (X.map f) e Q := by
  refine wK_inv (I := fun d acc e => acc = (d.filter t).map g ∧ setEmp e own = e0) ho hz ⟨rfl, by rw [setEmp_idem, h0.eq]⟩ (fun d a r acc e hX hI => ?_) (fun acc e' hI => ?_)
  · obtain ⟨rfl, h⟩ := hI
    rw [h]
    obtain ⟨e2, h1, k, e3, h2, h3, h4⟩ := hs a (by rw [hX]; simp)
    refine ⟨e2, h1, k, e3, h2, fun hk => ?_, fun hk => ?_⟩
    · obtain ⟨x, e4, h5, m', v, e5, h6, y, h7, h8, rfl, h9⟩ := h3 hk
      exact ⟨x, e4, h5, m', v, e5, h6, _, h7, by rw [List.filter_append, List.filter_cons_of_pos h8]; simp, h9.eq⟩
    · obtain ⟨h5, h6⟩ := h4 hk
      exact ⟨by rw [List.filter_append, List.filter_cons_of_neg (by simp [h5])]; simp, h6.eq⟩
  · obtain ⟨rfl, h⟩ := hI
    rw [backS_same (by rw [h, h0.eq])]
    exact q
theorem own1 {i : Nat} {s : Slot} (h : e[i]? = some s) (hn : npS s = true) : ownOk e [i] = true := by
  unfold ownOk
  simp only [List.nodup_cons, List.not_mem_nil, not_false_eq_true, List.nodup_nil, and_self, decide_true, Bool.true_and, List.all_cons, List.all_nil, Bool.and_true, h]
  cases s with
  | emp => rfl
  | val p m v => cases p with
    | true => cases hn
    | false => rfl
theorem own2 {i j : Nat} {s s' : Slot} (hij : i ≠ j) (h : e[i]? = some s) (hn : npS s = true) (h' : e[j]? = some s') (hn' : npS s' = true) : ownOk e [i, j] = true := by
  have a := own1 h hn
  have b := own1 h' hn'
  unfold ownOk at a b ⊢
  rw [Bool.and_eq_true] at a b ⊢
  simp only [List.all_cons, List.all_nil, Bool.and_true] at a b ⊢
  exact ⟨decide_eq_true (by simp [hij]), by rw [a.2, b.2]; rfl⟩
/-- without a test -/
theorem wK_M {α : Type} {f : α → Val} {mk : Mk} {X : List α} {e0 : En} (g : α → Val) (ho : ownOk e own = true) (hz : X.length ≤ sizeLine) (h0 : UpE e own e0)
    (hs : ∀ a ∈ X, asn tt mk (f a) e0 fun e2 => wE kt c elt e2 fun x e4 => tk x e4 fun m' v e5 => ftq m m' v fun y => y = g a ∧ UpE e5 own e0)
    (q : Q (.tmp (.l m) (.lst (X.map g))) e) : wK kt c own tt mk .nop elt m (X.map f) e Q := by
  refine wK_F (fun _ => true) g ho hz h0 (fun a ha => ?_) (by rw [List.filter_eq_self.mpr (fun _ _ => rfl)]; exact q)
  obtain ⟨e2, h1, x, e4, h2, m', v, e5, h3, y, h4, h5, h6⟩ := hs a ha
  exact ⟨e2, h1, true, e2, by simp only [evC], fun _ => ⟨x, e4, h2, m', v, e5, h3, _, h4, rfl, h5, h6⟩, fun h => by cases h⟩
end
end
/-! ### defs -/
inductive Ar : List DA → Nat → En → Prop where
  | nil : Ar [] 0 []
  | emp {k : Nat} {e : En} : Ar [] k e → Ar [] (k + 1) (.emp :: e)
  | cons {p : Bool} {m : Mk} {v : Val} {as : List DA} {k : Nat} {e : En} : Ar as k e → Ar (⟨p, m, v⟩ :: as) k (.val p m v :: e)
theorem Ar.eq {as : List DA} {k : Nat} {e : En} (h : Ar as k e) : as.map paSlot ++ List.replicate k .emp = e := by
  induction h with
  | nil => rfl
  | emp _ ih => simpa [List.replicate_succ] using ih
  | cons _ ih => simpa [paSlot] using ih
theorem sp_run {kt : Bool} {D : List Def} {n f : Nat} {d : Def} {args : List DA} {e0 : En} {S : Mk → Val → En → Prop} (hD : D[f]? = some d) (hl : args.length = d.np) (he : Ar args (d.ns - d.np) e0)
    (h : wX kt (sem kt D n) d.body e0 (fun e => S .st .non e) (fun _ => False) (fun _ => False) S) : Sp (sem kt D (n + 1)) f args S := by
  obtain ⟨g, e1, h1, h2⟩ := h
  cases g with
  | nx => exact ⟨_, _, _, by simp only [sem, hD, run, hl, if_true, he.eq, h1], h2⟩
  | rt m v => exact ⟨m, v, e1, by simp only [sem, hD, run, hl, if_true, he.eq, h1], h2⟩
  | bk => exact h2.elim
  | ct => exact h2.elim
  | xc x => exact h2.elim
theorem Sp.mono {c : Calls} {f : Nat} {args : List DA} {S S' : Mk → Val → En → Prop} (h : Sp c f args S) (q : ∀ m v fe, S m v fe → S' m v fe) : Sp c f args S' := by
  obtain ⟨m, v, fe, h1, h2⟩ := h
  exact ⟨m, v, fe, h1, q _ _ _ h2⟩
theorem Sp.rt {c : Calls} {f : Nat} {args : List DA} {m : Mk} {v : Val} (h : Sp c f args fun m' v' _ => m' = m ∧ v' = v) : ∃ fe, c f args = .ret m v fe := by
  obtain ⟨m', v', fe, h1, rfl, rfl⟩ := h
  exact ⟨fe, h1⟩
theorem Sp.of {c : Calls} {f : Nat} {args : List DA} {m : Mk} {v : Val} (h : ∃ fe, c f args = .ret m v fe) : Sp c f args fun m' v' _ => m' = m ∧ v' = v := by
  obtain ⟨fe, h1⟩ := h
  exact ⟨m, v, fe, h1, rfl, rfl⟩
section
variable {kt : Bool} {c : Calls} {s s' : Sh.C} {e : En} {N B K : En → Prop} {R : Mk → Val → En → Prop}
theorem wX_iffC {op : COp} {a b : Sh.E} (h : wE kt c (.cmp op a b) e fun x e1 => bo x fun k => br k (wX kt c s e1 N B K R) (wX kt c s' e1 N B K R)) : wX kt c (.iff (.cmp op a b) s s') e N B K R := wX_iff h
theorem wX_iffH {op op' : COp} {a b d : Sh.E} (h : wE kt c (.chn op op' a b d) e fun x e1 => bo x fun k => br k (wX kt c s e1 N B K R) (wX kt c s' e1 N B K R)) : wX kt c (.iff (.chn op op' a b d) s s') e N B K R := wX_iff h
theorem wX_iffN {a : Sh.E} (h : wE kt c (.not a) e fun x e1 => bo x fun k => br k (wX kt c s e1 N B K R) (wX kt c s' e1 N B K R)) : wX kt c (.iff (.not a) s s') e N B K R := wX_iff h
theorem wX_iffV {i : Nat} (h : wE kt c (.var i) e fun x e1 => bo x fun k => br k (wX kt c s e1 N B K R) (wX kt c s' e1 N B K R)) : wX kt c (.iff (.var i) s s') e N B K R := wX_iff h
theorem wX_iffI {a : Sh.E} {y : Ty} (h : wE kt c (.isi a y) e fun x e1 => bo x fun k => br k (wX kt c s e1 N B K R) (wX kt c s' e1 N B K R)) : wX kt c (.iff (.isi a y) s s') e N B K R := wX_iff h
theorem wX_iffF {f : Nat} {md : List Md} {a : Sh.E} (h : wE kt c (.call f md a) e fun x e1 => bo x fun k => br k (wX kt c s e1 N B K R) (wX kt c s' e1 N B K R)) : wX kt c (.iff (.call f md a) s s') e N B K R := wX_iff h
end
/-! ### special constructs, walks of dicts -/
structure spq (k : Sk) (u : MV) (P : Mk → Val → Prop) : Prop where mk :: (h : ∃ r, spV k u = some r ∧ P r.1 r.2)
structure wkq (k : Wk) (v : Val) (P : Mk → List Val → Prop) : Prop where mk :: (h : ∃ ms, wkV k v = some ms ∧ P ms.1 ms.2)
section
variable {kt : Bool} {c : Calls} {a : Sh.E} {e : En} {Q : Arg → En → Prop} {W : Mk → List Val → En → Prop} {m : Mk} {v : Val}
theorem wE_sp {k : Sk} (h : wE kt c a e fun x e1 => rd x e1 fun m v => spq k (m, v) fun m v => Q (.tmp m v) e1) : wE kt c (.sp k a) e Q := by
  obtain ⟨x, e1, h1, ⟨m, v, h2, ⟨r, h3, q⟩⟩⟩ := h
  exact ⟨_, _, by simp only [ev, h1, Res.bind, h2, h3, valR], q⟩
theorem wE_con {x : Str} (q : Q (.tmp .st v) e) : wE kt c (.con x v) e Q := ⟨_, _, by simp only [ev], q⟩
theorem wW_wk {k : Wk} (h : wE kt c a e fun x e1 => frz x e1 fun v e2 => wkq k v fun m xs => W m xs e2) : wW kt c (.wk k a) e W := by
  obtain ⟨x, e1, h1, ⟨v, e2, h2, ⟨ms, h3, q⟩⟩⟩ := h
  exact ⟨_, _, _, by simp only [evW, h1, Res.bind, h2, h3, optR], q⟩
theorem wk_keys {kvs : List (Key × Val)} {P : Mk → List Val → Prop} (q : P .st (kvs.map fun p => keyV p.1)) : wkq .keys (.dk kvs) P := ⟨_, rfl, q⟩
theorem wk_dict {kvs : List (Key × Val)} {P : Mk → List Val → Prop} (q : P .st (kvs.map fun p => keyV p.1)) : wkq .dict (.dk kvs) P := ⟨_, rfl, q⟩
theorem wk_vals {kvs : List (Key × Val)} {P : Mk → List Val → Prop} (q : P .st (kvs.map (·.2))) : wkq .vals (.dk kvs) P := ⟨_, rfl, q⟩
theorem wk_items {kvs : List (Key × Val)} {P : Mk → List Val → Prop} (q : P .pr (kvs.map fun p => .tup [keyV p.1, p.2])) : wkq .items (.dk kvs) P := ⟨_, rfl, q⟩
theorem sp_trev {xs : List Val} {P : Mk → Val → Prop} (h : m.hd = .st) (q : P .st (.tup xs.reverse)) : spq .trev (m, .lst xs) P := ⟨(.st, .tup xs.reverse), by simp only [spV, h, if_true], q⟩
theorem sp_mind0 {m : Mk} {P : Mk → Val → Prop} (q : P .st .non) : spq .mind (m, .lst []) P := ⟨(.st, .non), rfl, q⟩
theorem sp_mindM {m : Mk} {n : Int} {X : List Int} {P : Mk → Val → Prop} (q : P .st (.int (listMin (n :: X)))) : spq .mind (m, .lst ((n :: X).map Val.int)) P := ⟨(.st, .int (listMin (n :: X))), by simp only [spV, intsOf_map], q⟩
theorem sp_stup {xs : List Val} {P : Mk → Val → Prop} (h : srtOk xs = true) (q : P (.l .st) (.lst (sortV xs))) : spq .stup (.st, .tup xs) P := ⟨(.l .st, .lst (sortV xs)), by simp only [spV, h, if_true], q⟩
theorem sp_skeys {kvs : List (Key × Val)} {P : Mk → Val → Prop} (h : srtOk (kvs.map fun p => keyV p.1) = true) (q : P (.l .st) (.lst (sortV (kvs.map fun p => keyV p.1)))) : spq .skeys (m, .dk kvs) P := ⟨(.l .st, .lst (sortV (kvs.map fun p => keyV p.1))), by simp only [spV, h, if_true], q⟩
theorem bf_sorted {xs : List Val} {P : Mk → Val → Prop} (hm : m.hd = .st) (h : srtOk xs = true) (q : P (.l .st) (.lst (sortV xs))) : bf .sorted [(m, .lst xs)] P := ⟨_, _, by simp only [bltV, hm, h, and_self, if_true], q⟩
theorem en_tup {xs : List Val} {P : List Val → Prop} (h : P (enumL xs)) : enq (.tup xs) P := ⟨_, .inr rfl, h⟩
theorem ixx_str {x : Str} {z : Int} {ch : Nat} (hl : x.length ≤ sizeLine) (h : L2.atI x.cps.toList z = some ch) (q : Q (.tmp .st (.str ⟨#[ch]⟩)) e) : ixx kt (.tmp m (.str x)) (.int z) e Q := ⟨_, _, by simp only [idxA, readA, idxV, hl, if_true, h, Option.map_some], q⟩
end
/-! ### any, all of a generator expression; a[i] op= v -/
section
variable {kt : Bool} {c : Calls} {own : List Nat} {tt : T} {elt a b : Sh.E} {e : En} {Q : Arg → En → Prop} {al : Bool} {N B K : En → Prop} {R : Mk → Val → En → Prop}
structure wN (kt : Bool) (c : Calls) (al : Bool) (own : List Nat) (t : T) (mk : Mk) (elt : Sh.E) (xs : List Val) (e : En) (Q : Arg → En → Prop) : Prop where
  mk :: (h : ∃ k e', ownOk e own = true ∧ anyL al own t mk (fun e => (ev kt c elt e).bind fun x e => asB x e) xs (setEmp e own) = .ok k e' ∧ Q (.tmp .st (.bl k)) (backS e own e'))
theorem wE_anyg (h : wW kt c a e fun mk xs e1 => wN kt c al own tt mk elt xs e1 Q) : wE kt c (.anyg al own tt a elt) e Q := by
  obtain ⟨mk, xs, e1, h1, k, e', ho, h2, q⟩ := h
  refine ⟨_, _, ?_, q⟩
  simp only [ev]
  rw [h1]
  simp only [Res.bind, ho, Bool.not_true, Bool.false_eq_true, if_false]
  simp only [Res.bind] at h2
  rw [h2]
theorem anyL_of {α : Type} {f : α → Val} {mk : Mk} {e0 : En} (al : Bool) (p : α → Bool) : ∀ {X : List α} {e : En}, setEmp e own = e0 → (∀ a ∈ X, asn tt mk (f a) e0 fun e2 => wE kt c elt e2 fun x e5 => bo x fun k => k = p a ∧ UpE e5 own e0) →
    ∃ e', anyL al own tt mk (fun e => (ev kt c elt e).bind fun x e => asB x e) (X.map f) e = .ok (if al then X.all p else X.any p) e' ∧ setEmp e' own = e0
  | [], e, h0, _ => ⟨e, by cases al <;> simp [anyL], h0⟩
  | a :: X, e, h0, hs => by
    obtain ⟨e2, h1, x, e5, h2, m, k, rfl, hk, hu⟩ := hs a List.mem_cons_self
    obtain ⟨e', h3, h4⟩ := anyL_of al p (X := X) (e := e5) hu.eq fun a ha => hs a (List.mem_cons_of_mem _ ha)
    simp only [List.map_cons]
    unfold anyL
    rw [h0, h1]
    simp only [h2, Res.bind, asB]
    by_cases hka : k = al
    · rw [if_pos hka]
      refine ⟨e', ?_, h4⟩
      simp only [Res.bind, asB] at h3
      rw [h3]
      congr 1
      rw [List.all_cons, List.any_cons, ← hk, hka]
      cases al <;> simp
    · rw [if_neg hka]
      refine ⟨e5, ?_, hu.eq⟩
      congr 1
      rw [List.all_cons, List.any_cons, ← hk]
      cases al <;> cases k <;> simp at hka ⊢
/-- each item is tested alone -/
theorem wN_M {α : Type} {f : α → Val} {mk : Mk} {X : List α} {e0 : En} (p : α → Bool) (ho : ownOk e own = true) (h0 : UpE e own e0) (hs : ∀ a ∈ X, asn tt mk (f a) e0 fun e2 => wE kt c elt e2 fun x e5 => bo x fun k => k = p a ∧ UpE e5 own e0)
    (q : Q (.tmp .st (.bl (if al then X.all p else X.any p))) e) : wN kt c al own tt mk elt (X.map f) e Q := by
  obtain ⟨e', h1, h2⟩ := anyL_of (kt := kt) (c := c) (own := own) (tt := tt) (elt := elt) (mk := mk) (f := f) al p (X := X) (e := setEmp e own) (by rw [setEmp_idem, h0.eq]) hs
  refine ⟨_, e', ho, h1, ?_⟩
  rw [backS_same (by rw [h2, h0.eq])]
  exact q
/-- the item that is changed in place -/
structure agt (k : Nat) (z : Val) (e : En) (N : Mk → Val → Prop) : Prop where mk :: (h : ∃ p m xs j u, e[k]? = some (.val p (.l m) (.lst xs)) ∧ z = .int j ∧ L2.atI xs j = some u ∧ N m u)
theorem agt_mk {k : Nat} {p : Bool} {m : Mk} {xs : List Val} {j : Int} {u : Val} {N : Mk → Val → Prop} (h : e[k]? = some (.val p (.l m) (.lst xs))) (hz : L2.atI xs j = some u) (q : N m u) : agt k (.int j) e N := ⟨p, m, xs, j, u, h, rfl, hz, q⟩
theorem wX_augS {k : Nat} {op : BOp} (h : gd (!isV e k) (wE kt c a e fun y e1 => rd y e1 fun _ z => agt k z e1 fun m u => gd (!quiet b) (wE kt c b e1 fun y2 e2 => rd y2 e2 fun _ w => tg op u w fun r => wsto kt k z m r e2 N))) : wX kt c (.augS (.var k) a op b) e N B K R := by
  obtain ⟨h0, y, e1, h1, m1, z, h2, p, m, xs, j, u, h3, rfl, h4, h5, y2, e2, h6, m3, w, h7, r, h8, p4, m0, w4, w', h9, h10, q⟩ := h
  refine ⟨.nx, _, ?_, q⟩
  simp only [ex, h0, Bool.false_eq_true, if_false, h1, Res.bind, h3, h2, h4, h5, h6, h7, h8, stoS, h9, h10]
/-- an item of a tuple in a slot that is ours -/
theorem ixx_slott {i j : Nat} {p : Bool} {m m' : Mk} {xs : List Val} {v : Val} {z : Int} (h0 : e[i]? = some (.val p m (.tup xs))) (hj : L2.ixN xs.length z = some j) (hx : xs[j]? = some v) (hm : m.at j = m') (hl : m.isL = false) (hn : m' ≠ .st) (q : Q (.part i .st m' v) e) : ixx kt (.slot i) (.int z) e Q := by
  have h4 : idxV kt (m, .tup xs) (.int z) = some (m', v) := by
    simp only [idxV, hl, Bool.false_eq_true, if_false, hj, hx, hm, Option.bind, Option.map_some]
  exact ⟨_, _, by simp only [idxA, readA, h0, h4, if_neg hn, hl, Bool.false_eq_true, if_false], q⟩
end

/-! WpT: what the helpers do that all laws have -/

open PySem PySem.Spec PyProof.Rows L2
variable {kt : Bool}

-- side conditions; a place changed; one step; all steps
local macro_rules | `(tactic| sizeOf_list_dec) => `(tactic| first | with_reducible assumption | with_reducible rfl | decide | omega | (simp; done) | (simp; omega))
local macro_rules | `(tactic| array_get_dec) => `(tactic| first | exact UpE.nil | ((repeat (first | exact Up.z | apply Up.s)); done) | (apply UpE.cons; (· repeat (first | exact Up.z | apply Up.s)); array_get_dec))
local macro_rules | `(tactic| simp_arith) => `(tactic| first
  | refine wE_st rfl ?_
  | refine wE_int ?_
  | refine wE_l rfl ?_
  | refine wE_fzs rfl ?_
  | (apply wE_fzl; (· exact rfl); (· array_get_dec))
  | refine wE_bin ?_
  | refine wE_cmp ?_
  | refine wE_idx ?_
  | refine wE_blt ?_
  | refine wE_call ?_
  | refine wE_lrg1 ?_
  | refine wE_lrg2 ?_
  | refine wE_sp ?_
  | refine wE_con ?_
  | refine wE_comp ?_
  | refine wE_anyg ?_
  | (apply wE_mut; (· decide); (· exact rfl))
  | refine wE_tup ?_
  | refine wE_lst ?_
  | refine wE_one ?_
  | refine wE_not ?_
  | refine wE_and ?_
  | refine wE_or ?_
  | refine wE_ite ?_
  | refine wE_bl ?_
  | refine wE_non ?_
  | refine wE_str ?_
  | refine wE_neg ?_
  | refine wE_isi ?_
  | refine wE_index ?_
  | refine wE_pm ?_
  | refine wE_slc ?_
  | refine wE_tc rfl ?_
  | refine wE_dnk ?_
  | refine wE_dnt ?_)
local macro_rules | `(tactic| mstop) => `(tactic| first
  | refine wX_seq ?_
  | refine wX_asg ?_
  | refine wX_expr ?_
  | refine wX_iffC ?_
  | refine wX_iffN ?_
  | refine wX_iffV ?_
  | refine wX_iffI ?_
  | refine wX_iffF ?_
  | refine wX_iffH ?_
  | refine wX_nil ?_
  | refine wX_ret ?_
  | refine wX_retN ?_
  | refine wX_augS ?_
  | refine wX_for ?_
  | refine wX_sto ?_
  | refine wX_aug rfl ?_
  | refine wX_brk ?_
  | refine wX_cnt ?_
  | refine wX_pass ?_
  | refine wX_tryc ?_)
local macro_rules | `(tactic| simp_all_arith) => `(tactic| first
  | refine bi_add ?_
  | refine bi_sub ?_
  | (apply bi_mul; (· sizeOf_list_dec))
  | (apply bi_mod; (· sizeOf_list_dec))
  | (apply bi_fdiv; (· sizeOf_list_dec); (· sizeOf_list_dec))
  | (apply bi_catM; (· sizeOf_list_dec); (· exact rfl); (· exact rfl))
  | (apply bi_cattM; (· sizeOf_list_dec))
  | (apply bi_cat1; (· sizeOf_list_dec); (· exact rfl); (· exact rfl))
  | (apply bi_1cat; (· sizeOf_list_dec); (· exact rfl); (· exact rfl))
  | (apply bi_catt1; (· sizeOf_list_dec))
  | (apply bi_1catt; (· sizeOf_list_dec))
  | (apply bi_cat; (· sizeOf_list_dec); (· exact rfl); (· exact rfl))
  | (apply bi_catt; (· sizeOf_list_dec)))
local macro_rules | `(tactic| infer_instance) => `(tactic| first
  | refine cp_eqN ?_
  | refine cp_eqI ?_
  | refine cp_neN ?_
  | refine cp_neI ?_
  | refine cp_ltI ?_
  | refine cp_leI ?_
  | refine cp_gtI ?_
  | refine cp_geI ?_
  | refine cp_is ?_
  | refine cp_isnot ?_
  | refine cp_notin ?_
  | refine cp_inLN ?_
  | refine cp_inTN ?_
  | refine cp_inL ?_
  | refine cp_inT ?_)
local macro_rules | `(tactic| mleft) => `(tactic| first
  | refine bf_lenM ?_
  | refine bf_lentM ?_
  | refine bf_len ?_
  | refine bf_lent ?_
  | refine bf_int ?_
  | refine bf_intb ?_
  | refine bf_abs ?_
  | refine bf_list rfl ?_
  | refine bf_listt ?_
  | refine bf_tuple rfl ?_
  | refine bf_tuplet ?_
  | refine bf_sum ?_
  | refine bf_sumT ?_
  | refine bf_max2 ?_
  | refine bf_min2 ?_
  | (apply bf_sorted; (· exact rfl); (· with_reducible assumption)))
local macro_rules | `(tactic| mright) => `(tactic| first
  | (apply ixx_tup; (· with_reducible assumption))
  | (apply ixx_slot; (· exact rfl); (· with_reducible assumption))
  | (apply ixx_tmpl; (· with_reducible assumption); (· exact rfl))
  | (apply ixx_slotl; (· exact rfl); (· with_reducible assumption))
  | (apply ixx_part; (· with_reducible assumption); (· exact rfl))
  | (apply ixx_partt; (· with_reducible assumption))
  | (apply ixx_str; (· with_reducible assumption); (· with_reducible assumption)))
local macro_rules | `(tactic| mexfalso) => `(tactic| first
  | refine ps_nil ?_
  | refine ps_frz ?_
  | (apply ps_ino; (· exact rfl); (· array_get_dec))
  | (apply ps_frzs; (· exact rfl); (· array_get_dec))
  | refine ps_mov ?_
  | (apply ps_movs; (· exact rfl); (· array_get_dec))
  | refine ps_bor ?_
  | (apply ps_borl; (· exact rfl); (· array_get_dec))
  | (apply ps_bors; (· exact rfl); (· sizeOf_list_dec); (· array_get_dec)))
local macro_rules | `(tactic| massumption) => `(tactic| first
  | refine wW_wk ?_
  | refine wW_rng ?_
  | refine wW_one ?_
  | refine wW_enum ?_
  | refine wW_rev ?_
  | refine wW_zip ?_)
local macro_rules | `(tactic| mstart) => `(tactic| first
  | (apply mu_appM; (· exact rfl); (· first | exact fit_st | exact fit_eq); (· sizeOf_list_dec); (· array_get_dec))
  | (apply mu_app; (· exact rfl); (· first | exact fit_st | exact fit_eq); (· sizeOf_list_dec); (· array_get_dec))
  | (apply mu_rev; (· exact rfl); (· array_get_dec))
  | (apply mu_pop; (· exact rfl); (· with_reducible assumption); (· array_get_dec))
  | (apply mu_ins; (· exact rfl); (· sizeOf_list_dec); (· sizeOf_list_dec); (· first | exact fit_st | exact fit_eq); (· sizeOf_list_dec); (· array_get_dec)))
local macro_rules | `(tactic| mconstructor) => `(tactic| first
  | refine tq0 ?_
  | refine tq1 ?_
  | refine tq2 ?_
  | refine tq3 ?_
  | refine tq4 ?_
  | refine tq5 ?_
  | refine tq6 ?_
  | refine lq0 ?_
  | (apply lq1; (· first | exact fit_st | exact fit_eq))
  | (apply lq2; (· first | exact fit_st | exact fit_eq); (· first | exact fit_st | exact fit_eq))
  | (apply lq3; (· first | exact fit_st | exact fit_eq); (· first | exact fit_st | exact fit_eq); (· first | exact fit_st | exact fit_eq))
  | (apply lq4; (· first | exact fit_st | exact fit_eq); (· first | exact fit_st | exact fit_eq); (· first | exact fit_st | exact fit_eq); (· first | exact fit_st | exact fit_eq))
  | (apply lq5; (· first | exact fit_st | exact fit_eq); (· first | exact fit_st | exact fit_eq); (· first | exact fit_st | exact fit_eq); (· first | exact fit_st | exact fit_eq); (· first | exact fit_st | exact fit_eq))
  | (apply lq6; (· first | exact fit_st | exact fit_eq); (· first | exact fit_st | exact fit_eq); (· first | exact fit_st | exact fit_eq); (· first | exact fit_st | exact fit_eq); (· first | exact fit_st | exact fit_eq); (· first | exact fit_st | exact fit_eq)))
local macro_rules | `(tactic| mpure_intro) => `(tactic| first
  | refine wR_seq ?_
  | refine wR_asg ?_
  | refine wR_iffC ?_
  | refine wR_iffN ?_
  | refine wR_rse ?_
  | refine wR_nil ?_
  | refine wR_ret ?_
  | refine wR_retN ?_
  | refine wR_expr ?_
  | refine wR_for ?_)
local macro_rules | `(tactic| ac_rfl) => `(tactic| first
  | (show Sh.wE _ _ _ _ _; simp_arith)
  | refine wEs_cons ?_
  | refine wEs_nil ?_
  | (show Sh.rd _ _ _; first | refine rd_tmp ?_ | refine rd_slot rfl ?_ | refine rd_part ?_)
  | refine gd_ok ?_
  | refine tk_tmp ?_
  | (apply tk_slot; (· exact rfl); (· array_get_dec))
  | (apply as_nm; (· decide); (· exact rfl); (· first | rfl | with_reducible assumption); (· array_get_dec))
  | refine as_tp rfl ?_
  | (show Sh.wX _ _ _ _ _ _ _ _; mstop)
  | (show Sh.bi _ _ _ _ _ _ _; simp_all_arith)
  | (show Sh.cp _ _ _ _ _; infer_instance)
  | refine rds_cons ?_
  | refine rds_nil ?_
  | (show Sh.bf _ _ _; mleft)
  | refine bo_ok ?_
  | (show Sh.br _ _ _; first | refine br_not ?_ | refine br_and ?_ | refine br_or ?_ | refine br_t ?_ | refine br_f ?_)
  | (show Sh.ixx _ _ _ _ _; mright)
  | (show Sh.ps _ _ _ _ _; mexfalso)
  | refine cl_mk ?_
  | (show Sh.pb _ _ _ _; first | refine pb_nil ?_ | refine pb_no ?_ | refine pb_chg rfl ?_ | refine pb_lent ?_)
  | (apply ud_ok; (· array_get_dec))
  | (show Sh.wW _ _ _ _ _; massumption)
  | (apply agt_mk; (· exact rfl); (· with_reducible assumption))
  | (apply rq_l; (· with_reducible assumption))
  | (apply rq_t; (· with_reducible assumption))
  | refine en_lst ?_
  | refine en_tup ?_
  | (show Sh.wkq _ _ _; first | refine wk_keys ?_ | refine wk_dict ?_ | refine wk_vals ?_ | refine wk_items ?_)
  | (show Sh.spq _ _ _; first | refine sp_trev rfl ?_ | (apply sp_stup; (· with_reducible assumption)) | (apply sp_skeys; (· with_reducible assumption)))
  | refine zp_lst ?_
  | refine zp_tup ?_
  | refine ft_st ?_
  | refine ft_eq ?_
  | refine wP.mk ?_
  | (apply rg_nat; (· with_reducible assumption))
  | refine it_lst ?_
  | refine it_tup ?_
  | refine rv_lst ?_
  | refine rv_tup ?_
  | refine fz_tmp ?_
  | (apply fz_slot; (· exact rfl); (· array_get_dec))
  | refine tks_cons ?_
  | refine tks_nil ?_
  | (show Sh.mu _ _ _ _ _; mstart)
  | (show Sh.tq _ _; mconstructor)
  | (show Sh.lq _ _ _; mconstructor)
  | refine isint ?_
  | refine pt_ok rfl ?_
  | (apply pq_nat; (· with_reducible assumption))
  | (apply pq_natL; (· with_reducible assumption))
  | (apply in_nat; (· with_reducible assumption))
  | refine wO_nop ?_
  | refine wO_one ?_
  | (show Sh.sl _ _ _ _ _; first | refine sl_lstM rfl ?_ | refine sl_tupM ?_ | refine sl_lst rfl ?_ | refine sl_tup ?_)
  | (apply wsto_lstM; (· exact rfl); (· with_reducible assumption); (· first | exact fit_st | exact fit_eq); (· array_get_dec))
  | (apply wsto_lst; (· exact rfl); (· with_reducible assumption); (· first | exact fit_st | exact fit_eq); (· array_get_dec))
  | refine tg_add ?_
  | refine tg_sub ?_
  | refine wC_nop ?_
  | refine wC_one ?_
  | (show Sh.asns _ _ _ _ _; first | refine ass_nil ?_ | refine ass_st ?_ | refine ass_pr ?_ | refine ass_tc ?_)
  | (show Sh.wR _ _ _ _ _ _ _ _ _; mpure_intro))
local macro_rules | `(tactic| and_intros) => `(tactic| repeat ac_rfl)
local macro_rules | `(tactic| bv_omega) => `(tactic| ((repeat' first | ac_rfl | (refine br_dec (fun _ => ?_) fun _ => ?_)); all_goals (first | (exfalso; omega) | exact ⟨by rw [decide_eq_true (by omega)], rfl⟩ | exact ⟨by rw [decide_eq_false (by omega)], rfl⟩ | exact ⟨by simp only [Sh.Arg.tmp.injEq, Sh.Val.bl.injEq, ← decide_not, decide_eq_decide, true_and]; omega, rfl⟩)))

theorem take_sp {D : List Def} {f n : Nat} (hD : D[f]? = some ⟨2, 2, cTake⟩) (ds : List Int) (k : Nat) (hm : 0 < k) :
    Sp (sem kt D (n + 1)) f [⟨true, .l .st, ints' ds⟩, ⟨false, .st, .int (k : Int)⟩] fun m' v fe => ∃ (r : Nat) (ds' : List Int), r < k ∧ ds'.length ≤ ds.length ∧ m' = .st ∧ v = .int (r : Int) ∧ fe = [.val true (.l .st) (ints' ds'), .val false .st (.int (k : Int))] := by
  refine sp_run hD rfl (by repeat constructor) ?_
  unfold cTake
  and_intros
  refine br_dec (fun h => ?_) fun h => ?_
  · and_intros
    exact ⟨0, ds, hm, Nat.le_refl _, rfl, rfl, rfl⟩
  · obtain ⟨d, hd⟩ : ∃ d, ds.getLast? = some d := by
      cases hl : ds.getLast? with
      | none => rw [List.getLast?_eq_none_iff] at hl; exact absurd (by rw [hl]; rfl) h
      | some d => exact ⟨d, rfl⟩
    have hk : (k : Int) ≠ 0 := by omega
    and_intros
    have h1 : 0 ≤ d.fmod k := Int.fmod_nonneg_of_pos _ (by omega)
    have h2 : d.fmod k < k := Int.fmod_lt_of_pos _ (by omega)
    exact ⟨(d.fmod k).toNat, ds.dropLast, by omega, by simp, rfl, by rw [Int.toNat_of_nonneg h1], rfl⟩
theorem take_z {D : List Def} {f n : Nat} (hD : D[f]? = some ⟨2, 2, cTake⟩) {ds : List Int} {z : Int} (hm : 0 < z) :
    Sp (sem kt D (n + 1)) f [⟨true, .l .st, ints' ds⟩, ⟨false, .st, .int z⟩] fun m' v fe => ∃ (r : Nat) (ds' : List Int), (r : Int) < z ∧ m' = .st ∧ v = .int (r : Int) ∧ fe = [.val true (.l .st) (ints' ds'), .val false .st (.int z)] := by
  have h := take_sp (kt := kt) (n := n) hD ds z.toNat (by omega)
  rw [Int.toNat_of_nonneg (by omega)] at h
  exact h.mono fun m v fe ⟨r, ds', h1, _, h2, h3, h4⟩ => ⟨r, ds', by omega, h2, h3, h4⟩
theorem draws_sp {p u v t q r : Int} {D : List Def} {f n : Nat} (hD : D[f]? = some ⟨2, 9, cDrawsQ p u v t q r⟩) (hu : smallI u = true) (hv : smallI v = true) (hp0 : 0 ≤ p) (hp1 : p ≤ 1000000) (hq0 : 0 < q) (hq1 : q < 2 ^ 64) (hr0 : r ≠ 0) {ns : List Int} {many : Nat} (h1 : ns.length ≤ 63) (h2 : many ≤ 100000) :
    Sp (sem kt D (n + 1)) f [⟨false, .st, ints' ns⟩, ⟨false, .st, .int (many : Int)⟩] fun m' v _ => ∃ ds : List Int, ds.length = many ∧ m' = .l .st ∧ v = ints' ds := by
  obtain ⟨ds, fe, hl, h⟩ := draws_okQ (kt := kt) (c := sem kt D n) (t := t) hu hv hp0 hp1 hq0 hq1 hr0 h1 h2
  exact ⟨_, _, fe, by simp only [sem, hD, h], ds, hl, rfl, rfl⟩

/-! WpV: more that many laws have -/

open PySem PySem.Spec PyProof.Rows L2
variable {kt : Bool}

def cSameB (i : Nat) : Sh.C := (.seq (.iff (.cmp .is_ (.var 1) .non)
(.seq (.ret (.cmp .is_ (.var 0) .non))
.nil)
.nil)
(.seq (.iff (.isi (.var 1) .bool)
(.seq (.ret (.and (.isi (.var 0) .bool) (.one (.cmp .eq (.var 0) (.var 1)))))
.nil)
.nil)
(.seq (.iff (.isi (.var 1) .int)
(.seq (.ret (.and (.isi (.var 0) .int) (.and (.not (.isi (.var 0) .bool)) (.one (.cmp .eq (.var 0) (.var 1))))))
.nil)
.nil)
(.seq (.iff (.isi (.var 1) .str)
(.seq (.ret (.and (.isi (.var 0) .str) (.one (.cmp .eq (.var 0) (.var 1)))))
.nil)
.nil)
(.seq (.iff (.or (.not (.isi (.var 0) .tuple)) (.one (.cmp .ne (.blt .len (.cons (.var 0) .nil)) (.blt .len (.cons (.var 1) .nil)))))
(.seq (.ret (.bl false))
.nil)
.nil)
(.seq (.forr (.nm 2) (.rng (.cons (.blt .len (.cons (.var 1) .nil)) .nil))
(.seq (.iff (.not (.call i [.frz, .frz] (.cons (.idx (.var 0) (.var 2)) (.cons (.idx (.var 1) (.var 2)) .nil))))
(.seq (.ret (.bl false))
.nil)
.nil)
.nil))
(.seq (.ret (.bl true))
.nil)))))))
theorem cp_eqB {a b : Bool} {P : Bool → Prop} (q : P (decide (a = b))) : Sh.cp kt .eq (.bl a) (.bl b) P := ⟨_, rfl, q⟩
theorem cp_eqS {a b : Str} {P : Bool → Prop} (q : P (decide (a = b))) : Sh.cp kt .eq (.str a) (.str b) P := ⟨_, rfl, q⟩
theorem same_reflB {D : List Def} {i : Nat} (hD : D[i]? = some ⟨2, 3, cSameB i⟩) : ∀ (n : Nat) (x : Val), plainD n x = true → ∃ fe, sem kt D n i [⟨false, .st, x⟩, ⟨false, .st, x⟩] = .ret .st (.bl true) fe
  | 0, x, h => by cases h
  | n + 1, x, h => by
    refine Sp.rt (sp_run hD rfl (by repeat constructor) ?_)
    unfold cSameB
    cases x with
    | bl b =>
      and_intros
      refine cp_eqB ?_
      and_intros
      exact ⟨rfl, by simp⟩
    | int j =>
      and_intros
      exact ⟨rfl, by simp⟩
    | str z =>
      and_intros
      refine cp_eqS ?_
      and_intros
      exact ⟨rfl, by simp⟩
    | non =>
      and_intros
      exact ⟨rfl, rfl⟩
    | tup xs =>
      simp only [plainD, Bool.and_eq_true, decide_eq_true_eq] at h
      obtain ⟨hall, hlen⟩ := h
      have hs : sm62 (xs.length : Int) = true := sm_of hlen
      and_intros
      refine wX_iff ?_
      and_intros
      refine br_dec (fun _ => ?_) fun q => absurd rfl q
      and_intros
      refine wF_rg (fun k e => ∃ s, npS s = true ∧ e = [.val false .st (.tup xs), .val false .st (.tup xs), s]) ⟨.emp, rfl, rfl⟩ ?_ ?_
      · rintro k e hk ⟨s, hs, rfl⟩
        have hat : L2.atI xs (k : Int) = some xs[k] := atI_nat' (List.getElem?_eq_getElem hk)
        have hx := List.all_eq_true.mp hall xs[k] (List.getElem_mem hk)
        and_intros
        refine cc_rt (same_reflB hD n xs[k] hx) rfl fun fe => ?_
        and_intros
        exact ⟨.val false .st (.int (k : Int)), rfl, rfl⟩
      · rintro e ⟨s, hs, rfl⟩
        and_intros
        exact ⟨rfl, rfl⟩
    | lst xs => simp [plainD] at h
    | dk xs => simp [plainD] at h
    | dt xs => simp [plainD] at h
/-- a cell of the script -/
def cCell : Sh.C := (.seq (.iff (.cmp .eq (.blt .len (.cons (.var 0) .nil)) (.int 0))
(.seq (.ret (.int 0))
.nil)
.nil)
(.seq (.ret (.blt .int (.cons (.idx (.var 0) (.bin .mod (.blt .int (.cons (.var 1) .nil)) (.blt .len (.cons (.var 0) .nil)))) .nil)))
.nil))
/-- 0 or a cell -/
def IsCell (ns : List Int) (z : Int) : Prop := z = 0 ∨ z ∈ ns
theorem cell_sp {D : List Def} {f n : Nat} (hD : D[f]? = some ⟨2, 2, cCell⟩) {ns : List Int} {at_ : Int} : Sp (sem kt D (n + 1)) f [⟨false, .st, ints' ns⟩, ⟨false, .st, .int at_⟩] fun m v _ => ∃ z, IsCell ns z ∧ m = .st ∧ v = .int z := by
  refine sp_run hD rfl (by repeat constructor) ?_
  unfold cCell
  and_intros
  refine br_dec (fun h => ?_) fun h => ?_
  · and_intros
    exact ⟨0, .inl rfl, rfl, rfl⟩
  · have h : ¬ ns.length = 0 := h
    have h0 : (ns.length : Int) ≠ 0 := by omega
    have hp : 0 < (ns.length : Int) := by omega
    have h1 : 0 ≤ at_.fmod (ns.length : Int) := Int.fmod_nonneg_of_pos _ hp
    have h2 : at_.fmod (ns.length : Int) < ns.length := Int.fmod_lt_of_pos _ hp
    have hj : (at_.fmod (ns.length : Int)).toNat < ns.length := by omega
    have hat : L2.atI (ns.map Val.int) (at_.fmod (ns.length : Int)) = some (.int ns[(at_.fmod (ns.length : Int)).toNat]) := by
      have := atI_nat' (xs := ns.map Val.int) (j := (at_.fmod (ns.length : Int)).toNat) (getI (List.getElem?_eq_getElem hj))
      rw [Int.toNat_of_nonneg h1] at this
      exact this
    and_intros
    exact ⟨_, .inr (List.getElem_mem hj), rfl, rfl⟩
end Sh

/-! WpS: sorting of values -/
namespace Sh
open PySem PySem.Spec PyProof.Rows L2
theorem srt_of {α : Type} {f : α → Val} {X : List α} (h1 : ∀ a ∈ X, okV (f a) = true) (h2 : ∀ a ∈ X, ∀ b ∈ X, PySem.W.alike (f a).D (f b).D = true) (h3 : (∀ a ∈ X, isTupC (f a) = true) ∨ ∀ a ∈ X, isNon (f a) = false ∧ isTup (f a) = false) : srtOk (X.map f) = true := by
  simp only [srtOk, Bool.and_eq_true, Bool.or_eq_true, List.all_eq_true, Bool.not_eq_true', List.mem_map, forall_exists_index, and_imp, forall_apply_eq_imp_iff₂]
  exact ⟨⟨h1, h2⟩, h3⟩
theorem sortV_map {α : Type} {f : α → Val} {X : List α} {r : α → α → Bool} (h : ∀ a ∈ X, ∀ b ∈ X, leV (f a) (f b) = r a b) : sortV (X.map f) = (X.mergeSort r).map f := by
  unfold sortV
  exact (List.map_mergeSort fun a ha b hb => (h a ha b hb).symm).symm
theorem srt_ints (X : List Int) : srtOk (X.map Val.int) = true := srt_of (fun _ _ => rfl) (fun _ _ _ _ => rfl) (.inr fun _ _ => ⟨rfl, rfl⟩)
def leI (a b : Int) : Bool := decide (a ≤ b)
theorem leV_int (a b : Int) : leV (.int a) (.int b) = leI a b := by
  unfold leV leI
  rw [Val.D, Val.D, PySem.W.dataLt_int]
  by_cases h : a ≤ b
  · rw [decide_eq_true h, decide_eq_false (by omega)]; rfl
  · rw [decide_eq_false h, decide_eq_true (by omega)]; rfl
theorem sort_ints (X : List Int) : sortV (X.map Val.int) = (X.mergeSort leI).map Val.int := sortV_map fun a _ b _ => leV_int a b
theorem leI_pair (X : List Int) : (X.mergeSort leI).Pairwise (· ≤ ·) := by
  have := List.pairwise_mergeSort (le := leI) (fun a b c h1 h2 => by simp only [leI, decide_eq_true_eq] at *; omega) (fun a b => by simp only [leI, Bool.or_eq_true, decide_eq_true_eq]; omega) X
  exact this.imp fun h => by simpa [leI] using h
/-- pairs of ints -/
def pv (p : Int × Int) : Val := .tup [.int p.1, .int p.2]
def leP (p q : Int × Int) : Bool := decide (p.1 < q.1 ∨ (p.1 = q.1 ∧ p.2 ≤ q.2))
theorem leV_pv (p q : Int × Int) : leV (pv p) (pv q) = leP p q := by
  unfold leV leP pv
  have h1 : (Val.tup [.int q.1, .int q.2]).D = .tuple [.int q.1, .int q.2] := by simp [Val.D, Val.Ds]
  have h2 : (Val.tup [.int p.1, .int p.2]).D = .tuple [.int p.1, .int p.2] := by simp [Val.D, Val.Ds]
  rw [h1, h2, PySem.W.dataLt_ii]
  by_cases h : p.1 < q.1 ∨ (p.1 = q.1 ∧ p.2 ≤ q.2)
  · rw [decide_eq_true h, decide_eq_false (by omega)]; rfl
  · rw [decide_eq_false h, decide_eq_true (by omega)]; rfl
theorem srt_pairs (X : List (Int × Int)) : srtOk (X.map pv) = true := srt_of (fun _ _ => rfl) (fun a _ b _ => by
  have h1 : (pv a).D = .tuple [.int a.1, .int a.2] := by simp [pv, Val.D, Val.Ds]
  have h2 : (pv b).D = .tuple [.int b.1, .int b.2] := by simp [pv, Val.D, Val.Ds]
  rw [h1, h2]; rfl) (.inl fun _ _ => rfl)
theorem sort_pairs (X : List (Int × Int)) : sortV (X.map pv) = (X.mergeSort leP).map pv := sortV_map fun a _ b _ => leV_pv a b
theorem leP_pair (X : List (Int × Int)) : (X.mergeSort leP).Pairwise (fun p q => p.1 ≤ q.1) := by
  have := List.pairwise_mergeSort (le := leP) (fun a b c h1 h2 => by simp only [leP, decide_eq_true_eq] at *; omega) (fun a b => by simp only [leP, Bool.or_eq_true, decide_eq_true_eq]; omega) X
  exact this.imp fun h => by simp only [leP, decide_eq_true_eq] at h; omega
/-- the last item -/
theorem atI_last {α : Type} {f : α → Val} {X : List α} {x : α} (h : X.getLast? = some x) : L2.atI (X.map f) (-1) = some (f x) := by
  have h0 : X ≠ [] := fun e => by rw [e] at h; cases h
  have hl : 0 < X.length := List.length_pos_iff.mpr h0
  rw [L2.atI]
  have : L2.ixN (X.map f).length (-1) = some (X.length - 1) := by
    unfold L2.ixN
    rw [List.length_map]
    simp
    omega
  rw [this]
  show (X.map f)[X.length - 1]? = _
  rw [List.getElem?_map, ← List.getLast?_eq_getElem?, h]; rfl
theorem ixN_last {n : Nat} (h : 0 < n) : L2.ixN n (-1) = some (n - 1) := by
  unfold L2.ixN
  simp
  omega
/-! ### more rules -/
section
variable {kt : Bool}
theorem bi_addS {m m' : Mk} {x y : Str} {e : En} {Q : Arg → En → Prop} (h : x.length + y.length ≤ sizeLine) (q : Q (.tmp .st (.str (x ++ y))) e) : Sh.bi .add m (.str x) m' (.str y) e Q := ⟨(.st, .str (x ++ y)), by simp only [binV, h, if_true], q⟩
theorem cp_ltD {v w : Val} {k : Bool} {P : Bool → Prop} (h0 : scalLt v w = none) (h1 : okV v = true) (h2 : okV w = true) (h3 : PySem.W.alike v.D w.D = true) (h4 : isNon v = false) (h5 : PySem.W.dataLt v.D w.D = k) (q : P k) : Sh.cp kt .lt v w P :=
  ⟨k, by simp only [cmpV, Sh.ltV, h0, h1, h2, h3, h4, h5, Bool.not_false, Bool.and_self, if_true], q⟩
theorem cp_inDk {x : Val} {k : Key} {kvs : List (Key × Val)} {P : Bool → Prop} (hk : keyOf x = some k) (q : P (dget kvs k).isSome) : Sh.cp kt .isin x (.dk kvs) P := ⟨_, by simp only [cmpV, Sh.inV, hk], q⟩
theorem ixx_dkt {m : Mk} {kvs : List (Key × Val)} {w v : Val} {k : Key} {e : En} {Q : Arg → En → Prop} (hm : m.hd = .st) (hk : keyOf w = some k) (h : dget kvs k = some v) (q : Q (.tmp .st v) e) : Sh.ixx kt (.tmp m (.dk kvs)) w e Q := ⟨_, _, by simp only [idxA, readA, idxV, hk, h, Option.map_some, hm], q⟩
theorem lqs10 {m0 m1 m2 m3 m4 m5 m6 m7 m8 m9 : Mk} {v0 v1 v2 v3 v4 v5 v6 v7 v8 v9 : Val} {P : Val → Prop} (q : P (.lst [v0, v1, v2, v3, v4, v5, v6, v7, v8, v9])) : Sh.lq .st [(m0, v0), (m1, v1), (m2, v2), (m3, v3), (m4, v4), (m5, v5), (m6, v6), (m7, v7), (m8, v8), (m9, v9)] P :=
  ⟨_, [v0, v1, v2, v3, v4, v5, v6, v7, v8, v9], by simp [fits, fit], by show 10 ≤ sizeLine; decide, rfl, q⟩
theorem bf_lenS {m : Mk} {x : Str} {P : Mk → Val → Prop} (h : x.length ≤ sizeLine) (q : P .st (.int x.length)) : Sh.bf .len [(m, .str x)] P := ⟨_, _, by simp only [bltV, h, if_true], q⟩
theorem bf_strI {m : Mk} {i : Int} {P : Mk → Val → Prop} (h : i.natAbs.log2 < 1920) (q : P .st (.str (toString i))) : Sh.bf .str [(m, .int i)] P := ⟨.st, .str (toString i), by simp only [bltV, h, if_true], q⟩
theorem mu_clear {e e' : En} {i : Nat} {p : Bool} {m : Mk} {xs : List Val} {P : Mk → Val → En → Prop} (h : e[i]? = some (.val p (.l m) (.lst xs))) (u : Up e i (.val p (.l m) (.lst [])) e') (q : P .st .non e') : Sh.mu .clear i [] e P := ⟨_, _, _, [], (.st, .non), h, rfl, by rw [u.eq]; exact q⟩
theorem cp_ltP {a b : Int × Int} {P : Bool → Prop} (q : P (decide (a.1 < b.1 ∨ (a.1 = b.1 ∧ a.2 < b.2)))) : Sh.cp kt .lt (pv a) (pv b) P := by
  have h1 : (pv a).D = .tuple [.int a.1, .int a.2] := by simp [pv, Val.D, Val.Ds]
  have h2 : (pv b).D = .tuple [.int b.1, .int b.2] := by simp [pv, Val.D, Val.Ds]
  refine cp_ltD rfl rfl rfl (by rw [h1, h2]; rfl) rfl ?_ q
  rw [h1, h2, PySem.W.dataLt_ii]
theorem enum_nats (R : List Nat) : Sh.enumL (R.map fun k : Nat => Val.int (k : Int)) = (List.range R.length).map fun i : Nat => Val.tup [.int (i : Int), .int ((R.getD i 0 : Nat) : Int)] := by
  unfold Sh.enumL
  apply List.ext_getElem?
  intro i
  rw [List.getElem?_map, List.getElem?_zipIdx, List.getElem?_map, List.getElem?_map]
  by_cases h : i < R.length
  · rw [List.getElem?_range h, List.getElem?_eq_getElem h]
    have : R.getD i 0 = R[i] := by rw [List.getD_eq_getElem?_getD, List.getElem?_eq_getElem h]; rfl
    simp only [Option.map_some, this, Nat.zero_add]
  · rw [List.getElem?_eq_none (by omega), List.getElem?_eq_none (by rw [List.length_range]; omega)]; rfl
end
end Sh

/-! WpX: statements that may raise, step by step; calls in a try -/
namespace Sh
open PySem PySem.Spec PyProof.Rows L2
def flX (N B K : En → Prop) (R : Mk → Val → En → Prop) (X : Str → Prop) : Fl → En → Prop
  | .nx, e => N e | .bk, e => B e | .ct, e => K e | .rt m v, e => R m v e | .xc x, _ => X x
structure wR (kt : Bool) (c : Calls) (s : Sh.C) (e : En) (N B K : En → Prop) (R : Mk → Val → En → Prop) (X : Str → Prop) : Prop where mk :: (h : ∃ f e1, ex kt c s e = .ok f e1 ∧ flX N B K R X f e1)
structure wRF (kt : Bool) (c : Calls) (t : T) (m : Mk) (b : Sh.C) (xs : List Val) (e : En) (N : En → Prop) (R : Mk → Val → En → Prop) (X : Str → Prop) : Prop where mk :: (h : ∃ f e1, forL t m (ex kt c b) xs e = .ok f e1 ∧ flX N (fun _ => False) (fun _ => False) R X f e1)
/-- what a def does that may raise -/
structure SpX (c : Calls) (f : Nat) (args : List DA) (Q : Mk → Val → En → Prop) (X : Str → Prop) : Prop where mk :: (h : (∃ m v fe, c f args = .ret m v fe ∧ Q m v fe) ∨ ∃ x fe, c f args = .exc x fe ∧ X x)
section
variable {kt : Bool} {c : Calls} {s s' : Sh.C} {e : En} {N B K : En → Prop} {R : Mk → Val → En → Prop} {X : Str → Prop} {a t : Sh.E} {tt : T} {m : Mk}
theorem wR_of (h : wX kt c s e N B K R) : wR kt c s e N B K R X := by
  obtain ⟨f, e1, h1, h2⟩ := h
  refine ⟨f, e1, h1, ?_⟩
  cases f with
  | xc x => exact h2.elim
  | _ => exact h2
theorem wR_seq (h : wR kt c s e (fun e1 => wR kt c s' e1 N B K R X) B K R X) : wR kt c (.seq s s') e N B K R X := by
  obtain ⟨f, e1, h1, h2⟩ := h
  cases f with
  | nx =>
    obtain ⟨f, e2, h3, h4⟩ := h2
    exact ⟨f, e2, by simp only [ex, h1, Res.bind, h3], h4⟩
  | bk => exact ⟨.bk, _, by simp only [ex, h1, Res.bind], h2⟩
  | ct => exact ⟨.ct, _, by simp only [ex, h1, Res.bind], h2⟩
  | rt m v => exact ⟨.rt m v, _, by simp only [ex, h1, Res.bind], h2⟩
  | xc x => exact ⟨.xc x, e1, by simp only [ex, h1, Res.bind], h2⟩
theorem wR_rse {x : Str} (q : X x) : wR kt c (.rse x) e N B K R X := ⟨.xc x, e, by simp only [ex], q⟩
theorem wR_iff (h : wE kt c t e fun x e1 => bo x fun k => br k (wR kt c s e1 N B K R X) (wR kt c s' e1 N B K R X)) : wR kt c (.iff t s s') e N B K R X := by
  obtain ⟨x, e1, h1, m, k, rfl, h2, h3⟩ := h
  cases k with
  | true =>
    obtain ⟨f, e2, h4, q⟩ := h2 rfl
    exact ⟨f, e2, by simp only [ex, h1, Res.bind, asB, if_true, h4], q⟩
  | false =>
    obtain ⟨f, e2, h4, q⟩ := h3 rfl
    exact ⟨f, e2, by simp only [ex, h1, Res.bind, asB, Bool.false_eq_true, if_false, h4], q⟩
theorem wR_iffC {op : COp} {b d : Sh.E} (h : wE kt c (.cmp op b d) e fun x e1 => bo x fun k => br k (wR kt c s e1 N B K R X) (wR kt c s' e1 N B K R X)) : wR kt c (.iff (.cmp op b d) s s') e N B K R X := wR_iff h
theorem wR_iffN {b : Sh.E} (h : wE kt c (.not b) e fun x e1 => bo x fun k => br k (wR kt c s e1 N B K R X) (wR kt c s' e1 N B K R X)) : wR kt c (.iff (.not b) s s') e N B K R X := wR_iff h
theorem wR_nil (q : N e) : wR kt c .nil e N B K R X := wR_of (wX_nil q)
theorem wR_asg (h : wE kt c a e fun x e1 => tk x e1 fun m v e2 => asn tt m v e2 N) : wR kt c (.asg tt a) e N B K R X := wR_of (wX_asg h)
theorem wR_ret (h : wE kt c a e fun x e1 => tk x e1 R) : wR kt c (.ret a) e N B K R X := wR_of (wX_ret h)
theorem wR_retN (q : R .st .non e) : wR kt c .retN e N B K R X := wR_of (wX_retN q)
theorem wR_expr (h : wE kt c a e fun _ e1 => N e1) : wR kt c (.expr a) e N B K R X := wR_of (wX_expr h)
theorem wR_for (h : wW kt c a e fun m xs e1 => wRF kt c tt m s xs e1 N R X) : wR kt c (.forr tt a s) e N B K R X := by
  obtain ⟨m, xs, e1, h1, f, e2, h2, q⟩ := h
  refine ⟨f, e2, by simp only [ex, h1, Res.bind, h2], ?_⟩
  cases f with
  | nx => exact q
  | rt m v => exact q
  | xc x => exact q
  | bk => exact q.elim
  | ct => exact q.elim
theorem wRF_inv {α : Type} {f : α → Val} (I : List α → En → Prop) : ∀ {L done : List α} {e : En}, I done e →
    (∀ d a r e, done ++ L = d ++ a :: r → I d e → asn tt m (f a) e fun e1 => wR kt c s e1 (I (d ++ [a])) N (I (d ++ [a])) R X) → (∀ e, I (done ++ L) e → N e) → wRF kt c tt m s (L.map f) e N R X
  | [], done, e, h0, _, hf => ⟨.nx, _, rfl, hf _ (by simpa using h0)⟩
  | a :: L, done, e, h0, hs, hf => by
    obtain ⟨e1, h1, g, e2, h2, h3⟩ := hs done a L e rfl h0
    have go : ∀ e2, I (done ++ [a]) e2 → wRF kt c tt m s (L.map f) e2 N R X := fun e2 h => wRF_inv I (done := done ++ [a]) h (fun d a' r e q h => hs d a' r e (by simpa using q) h) (fun e h => hf e (by simpa using h))
    cases g with
    | nx =>
      obtain ⟨f', e3, h4, q⟩ := go _ h3
      exact ⟨f', e3, by rw [List.map_cons]; unfold forL; rw [h1]; simp only; rw [h2]; exact h4, q⟩
    | ct =>
      obtain ⟨f', e3, h4, q⟩ := go _ h3
      exact ⟨f', e3, by rw [List.map_cons]; unfold forL; rw [h1]; simp only; rw [h2]; exact h4, q⟩
    | bk => exact ⟨.nx, e2, by rw [List.map_cons]; unfold forL; rw [h1]; simp only; rw [h2]; rfl, h3⟩
    | rt m v => exact ⟨.rt m v, e2, by rw [List.map_cons]; unfold forL; rw [h1]; simp only; rw [h2]; rfl, h3⟩
    | xc x => exact ⟨.xc x, e2, by rw [List.map_cons]; unfold forL; rw [h1]; simp only; rw [h2]; rfl, h3⟩
theorem wRF_iv {α : Type} {f : α → Val} {L : List α} (I : List α → En → Prop) (h0 : I [] e)
    (hs : ∀ d a r e, L = d ++ a :: r → I d e → asn tt m (f a) e fun e1 => wR kt c s e1 (I (d ++ [a])) N (I (d ++ [a])) R X) (hf : ∀ e, I L e → N e) : wRF kt c tt m s (L.map f) e N R X := wRF_inv I (done := []) h0 hs hf
end
theorem wE_post {kt : Bool} {c : Calls} {a : Sh.E} {e e0 : En} {v : Val} {Q : Sh.Arg → En → Prop} (h : Sh.wE kt c a e fun x e' => x = .tmp .st v ∧ e' = e0) (q : Q (.tmp .st v) e0) : Sh.wE kt c a e Q := by
  obtain ⟨x, e1, h1, rfl, rfl⟩ := h
  exact ⟨_, _, h1, q⟩
/-- a while loop by an invariant with a number that falls -/
theorem whil_go {kt : Bool} {c : Calls} {s : Sh.C} {t : Sh.E} {N : En → Prop} {R : Mk → Val → En → Prop} {I : Nat → En → Prop}
    (hs : ∀ k e, I k e → wE kt c t e fun x e1 => bo x fun q => br q (wX kt c s e1 (fun e2 => ∃ j, j < k ∧ I j e2) N (fun e2 => ∃ j, j < k ∧ I j e2) R) (N e1)) : ∀ (n k : Nat) (e : En), k < n → I k e →
    ∃ f e1, whilF (fun e => (ev kt c t e).bind fun x e => asB x e) (ex kt c s) n e = .ok f e1 ∧ flP N (fun _ => False) (fun _ => False) R f e1
  | 0, k, e, hk, _ => absurd hk (Nat.not_lt_zero _)
  | n + 1, k, e, hk, h => by
    obtain ⟨x, e1, h1, m, q, rfl, h2, h3⟩ := hs k e h
    have ht : ((ev kt c t e).bind fun x e => asB x e) = .ok q e1 := by rw [h1]; rfl
    unfold whilF
    rw [ht]
    simp only [Res.bind]
    cases q with
    | false => exact ⟨.nx, e1, rfl, h3 rfl⟩
    | true =>
      obtain ⟨f, e2, h4, h5⟩ := h2 rfl
      rw [if_pos rfl, h4]
      cases f with
      | nx =>
        obtain ⟨j, hj, hI⟩ := h5
        exact whil_go hs n j e2 (by omega) hI
      | ct =>
        obtain ⟨j, hj, hI⟩ := h5
        exact whil_go hs n j e2 (by omega) hI
      | bk => exact ⟨.nx, e2, rfl, h5⟩
      | rt m v => exact ⟨.rt m v, e2, rfl, h5⟩
      | xc x => exact h5.elim
theorem wX_whil {kt : Bool} {c : Calls} {s : Sh.C} {t : Sh.E} {e : En} {N B K : En → Prop} {R : Mk → Val → En → Prop} {k : Nat} (I : Nat → En → Prop) (hk : k < 1000000000) (h0 : I k e)
    (hs : ∀ k e, I k e → wE kt c t e fun x e1 => bo x fun q => br q (wX kt c s e1 (fun e2 => ∃ j, j < k ∧ I j e2) N (fun e2 => ∃ j, j < k ∧ I j e2) R) (N e1)) : wX kt c (.whil t s) e N B K R := by
  obtain ⟨f, e1, h1, h2⟩ := whil_go hs wFuel k e hk h0
  refine ⟨f, e1, by simp only [ex]; exact h1, ?_⟩
  cases f with
  | nx => exact h2
  | rt m v => exact h2
  | bk => exact h2.elim
  | ct => exact h2.elim
  | xc x => exact h2.elim
theorem wR_whil {kt : Bool} {c : Calls} {s : Sh.C} {t : Sh.E} {e : En} {N B K : En → Prop} {R : Mk → Val → En → Prop} {X : Str → Prop} {k : Nat} (I : Nat → En → Prop) (hk : k < 1000000000) (h0 : I k e)
    (hs : ∀ k e, I k e → wE kt c t e fun x e1 => bo x fun q => br q (wX kt c s e1 (fun e2 => ∃ j, j < k ∧ I j e2) N (fun e2 => ∃ j, j < k ∧ I j e2) R) (N e1)) : wR kt c (.whil t s) e N B K R X := wR_of (wX_whil I hk h0 hs)
theorem sp_runX {kt : Bool} {D : List Def} {n f : Nat} {d : Def} {args : List DA} {e0 : En} {S : Mk → Val → En → Prop} {X : Str → Prop} (hD : D[f]? = some d) (hl : args.length = d.np) (he : Ar args (d.ns - d.np) e0)
    (h : wR kt (sem kt D n) d.body e0 (fun e => S .st .non e) (fun _ => False) (fun _ => False) S X) : SpX (sem kt D (n + 1)) f args S X := by
  obtain ⟨g, e1, h1, h2⟩ := h
  cases g with
  | nx => exact ⟨.inl ⟨_, _, _, by simp only [sem, hD, run, hl, if_true, he.eq, h1], h2⟩⟩
  | rt m v => exact ⟨.inl ⟨m, v, e1, by simp only [sem, hD, run, hl, if_true, he.eq, h1], h2⟩⟩
  | xc x => exact ⟨.inr ⟨x, e1, by simp only [sem, hD, run, hl, if_true, he.eq, h1], h2⟩⟩
  | bk => exact h2.elim
  | ct => exact h2.elim
/-- a call in a try -/
structure cx (c : Calls) (f : Nat) (l : List (DA × Bk)) (e : En) (i j : Nat) (ys xs : List Str) (N : En → Prop) (R : Mk → Val → En → Prop) : Prop where
  mk :: (h : (∃ x fe, c f (l.map (·.1)) = .exc x fe ∧ x ∈ xs ∧ j < e.length ∧ ys.length ≤ sizeLine ∧ R (.l .st) (.lst (ys.map fun y => .bl (isSubX x y))) e) ∨ cc c f l e fun x e1 => tk x e1 fun m v e2 => asn (.nm i) m v e2 N)
theorem wX_tryc {kt : Bool} {c : Calls} {i f n j : Nat} {es : Sh.E} {ys xs : List Str} {e : En} {N B K : En → Prop} {R : Mk → Val → En → Prop} (h : wEs kt c es e fun as e1 => ps true (List.replicate n .frz) as e1 fun l e2 => cx c f l e2 i j ys xs N R) : wX kt c (.tryc i f n es j ys xs) e N B K R := by
  obtain ⟨as, e1, h1, l, e2, h2, h3⟩ := h
  obtain ⟨h3⟩ := h3
  rcases h3 with ⟨x, fe, hc, hx, hj, hy, q⟩ | h3
  · refine ⟨.rt _ _, e2, ?_, q⟩
    have : excAt kt c f n es e = some (x, e2) := by unfold excAt; rw [h1]; simp only; rw [h2]; simp only; rw [hc]
    simp only [ex, this]
    rw [if_pos ⟨hy, hx, hj⟩]
  · obtain ⟨m, v, fe, hc, hp, hb⟩ := h3
    have hn : excAt kt c f n es e = none := by unfold excAt; rw [h1]; simp only; rw [h2]; simp only; rw [hc]
    obtain ⟨e3, hb, m', v', e4, ht, e5, ha, q⟩ := hb
    refine ⟨.nx, e5, ?_, q⟩
    simp only [ex, hn]
    have : ev kt c (.call f (List.replicate n .frz) es) e = .ok (.tmp m v) e3 := by
      simp only [ev, h1, Res.bind]
      unfold callF
      simp only [h2, Res.bind, hc, hp, if_true, hb]
    rw [this]
    simp only [Res.bind, ht, ha]
/-- it answers -/
theorem cx_ret {c : Calls} {f : Nat} {l : List (DA × Bk)} {e : En} {i j : Nat} {ys xs : List Str} {N : En → Prop} {R : Mk → Val → En → Prop} (h : cc c f l e fun x e1 => tk x e1 fun m v e2 => asn (.nm i) m v e2 N) : cx c f l e i j ys xs N R := ⟨.inr h⟩
/-- it raises -/
theorem cx_exc {c : Calls} {f : Nat} {l : List (DA × Bk)} {e : En} {i j : Nat} {ys xs : List Str} {N : En → Prop} {R : Mk → Val → En → Prop} {x : Str} {args : List DA} (hl : l.map (·.1) = args) (h : ∃ fe, c f args = .exc x fe) (hx : x ∈ xs) (hj : j < e.length) (hy : ys.length ≤ 1000) (q : R (.l .st) (.lst (ys.map fun y => .bl (isSubX x y))) e) : cx c f l e i j ys xs N R := by
  subst hl
  obtain ⟨fe, h⟩ := h
  exact ⟨.inl ⟨x, fe, h, hx, hj, Nat.le_trans hy (by decide), q⟩⟩
theorem SpX.ret {c : Calls} {f : Nat} {args : List DA} {m : Mk} {v : Val} (h : SpX c f args (fun m' v' _ => m' = m ∧ v' = v) fun _ => False) : ∃ fe, c f args = .ret m v fe := by
  obtain ⟨h⟩ := h
  rcases h with ⟨m', v', fe, h1, rfl, rfl⟩ | ⟨x, fe, h1, q⟩
  · exact ⟨fe, h1⟩
  · exact q.elim
theorem SpX.exc {c : Calls} {f : Nat} {args : List DA} {x : Str} (h : SpX c f args (fun _ _ _ => False) fun y => y = x) : ∃ fe, c f args = .exc x fe := by
  obtain ⟨h⟩ := h
  rcases h with ⟨m', v', fe, h1, q⟩ | ⟨y, fe, h1, rfl⟩
  · exact q.elim
  · exact ⟨fe, h1⟩
end Sh

namespace L53
open Sh
open PySem PySem.Spec PyProof.Rows L2
def topS (i : Nat) : Stmt := PySem.Challenge.pw_shiftshold_k53_told_cover.main.body.getD i (.Pass ⟨0, 0, 0, 0⟩)
def c0 : Sh.C := (.seq (.ret (.chn .le .lt (.idx (.var 0) (.int 0)) (.var 1) (.idx (.var 0) (.int 1))))
.nil)
def d0 : Sh.Def := ⟨2, 2, c0⟩
/-- covers 0:kind 1:hour -/
def t0 : FT := ⟨"covers", topS 1, ["kind", "hour"], ["kind", "hour"], d0, false⟩
def c1 : Sh.C := (.seq (.asg (.nm 2) .non)
(.seq (.forr (.nm 3) (.rng (.cons (.blt .len (.cons (.var 0) .nil)) .nil))
(.seq (.iff (.and (.call 0 [.frz, .frz] (.cons (.idx (.var 0) (.var 3)) (.cons (.var 1) .nil))) (.one (.or (.cmp .is_ (.var 2) .non) (.one (.cmp .gt (.idx (.idx (.var 0) (.var 3)) (.int 1)) (.idx (.idx (.var 0) (.var 2)) (.int 1)))))))
(.seq (.asg (.nm 2) (.var 3))
.nil)
.nil)
.nil))
(.seq (.ret (.var 2))
.nil)))
def d1 : Sh.Def := ⟨2, 4, c1⟩
/-- farthest 0:kinds 1:hour 2:best 3:at -/
def t1 : FT := ⟨"farthest", topS 2, ["kinds", "hour"], ["kinds", "hour", "best", "at"], d1, false⟩
def c2 : Sh.C := (.seq (.asg (.nm 2) (.comp .st [8] (.nm 8) (.one (.var 1)) .nop (.int 0)))
(.seq (.asg (.nm 3) (.comp .st [6] (.nm 6) (.rng (.cons (.bin .add (.blt .len (.cons (.var 0) .nil)) (.int 1)) .nil)) .nop (.int 0)))
(.seq (.asg (.nm 4) (.lst .st .nil))
(.seq (.asg (.nm 5) (.int 0))
(.seq (.forr (.nm 6) (.rng (.cons (.blt .len (.cons (.var 0) .nil)) .nil))
(.seq (.aug 5 .sub (.idx (.var 3) (.var 6)))
(.seq (.asg (.nm 7) (.bin .sub (.idx (.var 0) (.var 6)) (.var 5)))
(.seq (.iff (.cmp .gt (.var 7) (.int 0))
(.seq (.asg (.nm 9) (.call 1 [.frz, .frz] (.cons (.var 1) (.cons (.var 6) .nil))))
(.seq (.iff (.cmp .is_ (.var 9) .non)
(.seq (.ret .non)
.nil)
.nil)
(.seq (.augS (.var 2) (.var 9) .add (.var 7))
(.seq (.augS (.var 3) (.idx (.idx (.var 1) (.var 9)) (.int 1)) .add (.var 7))
(.seq (.aug 5 .add (.var 7))
(.seq (.expr (.meth .append (.var 4) (.cons (.var 6) .nil)))
.nil))))))
.nil)
.nil))))
(.seq (.ret (.tup (.cons (.var 2) (.cons (.var 4) .nil))))
.nil))))))
def d2 : Sh.Def := ⟨2, 10, c2⟩
/-- go_through 0:demand 1:kinds 2:numbers 3:ending 4:hours 5:hands 6:hour 7:short 8:kind 9:best -/
def t2 : FT := ⟨"go_through", topS 3, ["demand", "kinds"], ["demand", "kinds", "numbers", "ending", "hours", "hands", "hour", "short", "kind", "best"], d2, false⟩
def c3 : Sh.C := (.seq (.ret (.not (.anyg false [3] (.nm 3) (.one (.var 0)) (.and (.call 0 [.frz, .frz] (.cons (.var 3) (.cons (.var 1) .nil))) (.one (.call 0 [.frz, .frz] (.cons (.var 3) (.cons (.var 2) .nil))))))))
.nil)
def d3 : Sh.Def := ⟨3, 4, c3⟩
/-- are_apart 0:kinds 1:one 2:other 3:kind -/
def t3 : FT := ⟨"are_apart", topS 4, ["kinds", "one", "other"], ["kinds", "one", "other", "kind"], d3, true⟩
def c4 : Sh.C := (.seq (.asg (.nm 2) (.call 2 [.frz, .frz] (.cons (.var 0) (.cons (.var 1) .nil))))
(.seq (.iff (.cmp .is_ (.var 2) .non)
(.seq (.ret .non)
.nil)
.nil)
(.seq (.ret (.blt .tuple (.cons (.idx (.var 2) (.int 0)) .nil)))
.nil)))
def d4 : Sh.Def := ⟨2, 3, c4⟩
/-- cover 0:demand 1:kinds 2:gone -/
def t4 : FT := ⟨"cover", topS 5, ["demand", "kinds"], ["demand", "kinds", "gone"], d4, false⟩
def c5 : Sh.C := (.seq (.asg (.nm 2) (.call 2 [.frz, .frz] (.cons (.var 0) (.cons (.var 1) .nil))))
(.seq (.iff (.cmp .is_ (.var 2) .non)
(.seq (.ret .non)
.nil)
.nil)
(.seq (.asg (.nm 3) (.lst .st .nil))
(.seq (.forr (.nm 4) (.rev (.idx (.var 2) (.int 1)))
(.seq (.iff (.or (.cmp .eq (.blt .len (.cons (.var 3) .nil)) (.int 0)) (.one (.call 3 [.frz, .frz, .frz] (.cons (.var 1) (.cons (.var 4) (.cons (.idx (.var 3) (.neg (.int 1))) .nil))))))
(.seq (.expr (.meth .append (.var 3) (.cons (.var 4) .nil)))
.nil)
.nil)
.nil))
(.seq (.ret (.sp .trev (.var 3)))
.nil)))))
def d5 : Sh.Def := ⟨2, 5, c5⟩
/-- apart_hours 0:demand 1:kinds 2:gone 3:taken 4:hour -/
def t5 : FT := ⟨"apart_hours", topS 6, ["demand", "kinds"], ["demand", "kinds", "gone", "taken", "hour"], d5, false⟩
def c6 : Sh.C := (.seq (.asg (.nm 2) (.comp .st [7] (.nm 7) (.one (.var 0)) .nop (.blt .int (.cons (.var 7) .nil))))
(.seq (.iff (.cmp .eq (.blt .len (.cons (.var 2) .nil)) (.int 0))
(.seq (.expr (.meth .append (.var 2) (.cons (.int 0) .nil)))
.nil)
.nil)
(.seq (.asg (.nm 3) (.blt .list (.cons (.var 2) .nil)))
(.seq (.asg (.nm 4) (.lst .st .nil))
(.seq (.forr (.nm 5) (.rng (.cons (.var 1) .nil))
(.seq (.asg (.nm 6) (.bin .mod (.var 5) (.blt .len (.cons (.var 2) .nil))))
(.seq (.iff (.cmp .ge (.idx (.var 2) (.var 6)) (.bin .pow (.int 10) (.int 18)))
(.seq (.expr (.meth .append (.var 4) (.cons (.bin .mod (.blt .int (.cons (.idx (.var 3) (.var 6)) .nil)) (.int 1000)) .nil)))
(.seq (.sto (.var 3) (.var 6) (.bin .fdiv (.idx (.var 3) (.var 6)) (.int 1000)))
.nil))
(.seq (.asg (.nm 8) (.bin .mod (.blt .int (.cons (.bin .add (.bin .add (.bin .mul (.idx (.var 2) (.var 6)) (.int 48271)) (.bin .mul (.var 5) (.int 69621))) (.int 11)) .nil)) (.int 2147483647)))
(.seq (.expr (.meth .append (.var 4) (.cons (.bin .mod (.blt .int (.cons (.bin .add (.bin .add (.bin .mul (.var 8) (.var 8)) (.bin .mul (.int 3) (.var 8))) (.var 5)) .nil)) (.int 1000003)) .nil)))
.nil)))
.nil)))
(.seq (.expr (.meth .reverse (.var 4) .nil))
(.seq (.ret (.var 4))
.nil)))))))
def d6 : Sh.Def := ⟨2, 9, c6⟩
/-- _law_draws 0:script 1:many 2:cells 3:rest 4:draws 5:k 6:at 7:cell 8:once -/
def t6 : FT := ⟨"_law_draws", topS 8, ["script", "many"], ["script", "many", "cells", "rest", "draws", "k", "at", "cell", "once"], d6, false⟩
def c7 : Sh.C := (.seq (.iff (.cmp .eq (.blt .len (.cons (.var 0) .nil)) (.int 0))
(.seq (.ret (.int 0))
.nil)
.nil)
(.seq (.ret (.bin .mod (.blt .int (.cons (.meth .pop (.var 0) .nil) .nil)) (.var 1)))
.nil))
def d7 : Sh.Def := ⟨2, 2, c7⟩
/-- _law_take 0:draws 1:many -/
def t7 : FT := ⟨"_law_take", topS 9, ["draws", "many"], ["draws", "many"], d7, false⟩
def c8 : Sh.C := (.seq (.iff (.isi (.var 1) .bool)
(.seq (.ret (.and (.isi (.var 0) .bool) (.one (.cmp .eq (.var 0) (.var 1)))))
.nil)
.nil)
(.seq (.iff (.isi (.var 1) .int)
(.seq (.ret (.and (.isi (.var 0) .int) (.and (.not (.isi (.var 0) .bool)) (.one (.cmp .eq (.var 0) (.var 1))))))
.nil)
.nil)
(.seq (.iff (.isi (.var 1) .str)
(.seq (.ret (.and (.isi (.var 0) .str) (.one (.cmp .eq (.var 0) (.var 1)))))
.nil)
.nil)
(.seq (.iff (.cmp .is_ (.var 1) .non)
(.seq (.ret (.cmp .is_ (.var 0) .non))
.nil)
.nil)
(.seq (.iff (.or (.not (.isi (.var 0) .tuple)) (.one (.cmp .ne (.blt .len (.cons (.var 0) .nil)) (.blt .len (.cons (.var 1) .nil)))))
(.seq (.ret (.bl false))
.nil)
.nil)
(.seq (.forr (.nm 2) (.rng (.cons (.blt .len (.cons (.var 1) .nil)) .nil))
(.seq (.iff (.not (.call 8 [.frz, .frz] (.cons (.idx (.var 0) (.var 2)) (.cons (.idx (.var 1) (.var 2)) .nil))))
(.seq (.ret (.bl false))
.nil)
.nil)
.nil))
(.seq (.ret (.bl true))
.nil)))))))
def d8 : Sh.Def := ⟨2, 3, c8⟩
/-- _law_same 0:actual 1:due 2:k -/
def t8 : FT := ⟨"_law_same", topS 10, ["actual", "due"], ["actual", "due", "k"], d8, false⟩
def c9 : Sh.C := (.seq (.asg (.nm 2) (.call 7 [.ino, .frz] (.cons (.var 0) (.cons (.int 4) .nil))))
(.seq (.asg (.nm 3) (.call 7 [.ino, .frz] (.cons (.var 0) (.cons (.int 10) .nil))))
(.seq (.iff (.cmp .eq (.var 3) (.int 0))
(.seq (.asg (.nm 2) (.bin .add (.var 2) (.bin .mul (.bin .add (.int 1) (.call 7 [.ino, .frz] (.cons (.var 0) (.cons (.int 1000) .nil)))) (.bin .pow (.int 10) (.int 15)))))
.nil)
.nil)
(.seq (.iff (.and (.cmp .eq (.var 3) (.int 1)) (.one (.cmp .gt (.blt .len (.cons (.var 1) .nil)) (.int 0))))
(.seq (.asg (.nm 2) (.bin .add (.var 2) (.blt .abs (.cons (.blt .int (.cons (.idx (.var 1) (.call 7 [.ino, .frz] (.cons (.var 0) (.cons (.blt .len (.cons (.var 1) .nil)) .nil)))) .nil)) .nil))))
.nil)
.nil)
(.seq (.ret (.var 2))
.nil)))))
def d9 : Sh.Def := ⟨2, 4, c9⟩
/-- _law_size 0:draws 1:script 2:number 3:kind -/
def t9 : FT := ⟨"_law_size", topS 11, ["draws", "script"], ["draws", "script", "number", "kind"], d9, false⟩
def c10 : Sh.C := (.seq (.asg (.nm 3) (.lst .st .nil))
(.seq (.asg (.nm 4) (.idx (.lst .st (.cons (.int 1) (.cons (.int 3) (.cons (.int 9) (.cons (.int 400) .nil))))) (.call 7 [.ino, .frz] (.cons (.var 0) (.cons (.int 4) .nil)))))
(.seq (.forr (.nm 5) (.rng (.cons (.var 2) .nil))
(.seq (.asg (.nm 6) (.call 7 [.ino, .frz] (.cons (.var 0) (.cons (.var 1) .nil))))
(.seq (.asg (.nm 7) (.bin .add (.bin .add (.var 6) (.int 1)) (.call 7 [.ino, .frz] (.cons (.var 0) (.cons (.blt .min (.cons (.var 4) (.cons (.bin .sub (.var 1) (.var 6)) .nil))) .nil)))))
(.seq (.iff (.and (.cmp .gt (.blt .len (.cons (.var 3) .nil)) (.int 0)) (.one (.cmp .eq (.call 7 [.ino, .frz] (.cons (.var 0) (.cons (.int 4) .nil))) (.int 0))))
(.seq (.asg (.nm 7) (.idx (.idx (.var 3) (.neg (.int 1))) (.int 1)))
(.seq (.asg (.nm 6) (.blt .min (.cons (.var 6) (.cons (.bin .sub (.var 7) (.int 1)) .nil))))
(.seq (.iff (.cmp .eq (.call 7 [.ino, .frz] (.cons (.var 0) (.cons (.int 3) .nil))) (.int 0))
(.seq (.asg (.nm 6) (.idx (.idx (.var 3) (.neg (.int 1))) (.int 0)))
.nil)
.nil)
.nil)))
.nil)
(.seq (.expr (.meth .append (.var 3) (.cons (.tup (.cons (.var 6) (.cons (.var 7) .nil))) .nil)))
.nil)))))
(.seq (.ret (.blt .tuple (.cons (.var 3) .nil)))
.nil))))
def d10 : Sh.Def := ⟨3, 8, c10⟩
/-- _law_kinds 0:draws 1:hours 2:many 3:kinds 4:longest 5:k 6:begin 7:end -/
def t10 : FT := ⟨"_law_kinds", topS 12, ["draws", "hours", "many"], ["draws", "hours", "many", "kinds", "longest", "k", "begin", "end"], d10, false⟩
def c11 : Sh.C := (.seq (.asg (.nm 3) (.cmp .eq (.call 7 [.ino, .frz] (.cons (.var 0) (.cons (.int 3) .nil))) (.int 0)))
(.seq (.asg (.nm 4) (.lst .st .nil))
(.seq (.forr (.nm 5) (.rng (.cons (.var 2) .nil))
(.seq (.asg (.nm 6) (.call 7 [.ino, .frz] (.cons (.var 0) (.cons (.int 1000) .nil))))
(.seq (.iff (.not (.var 3))
(.seq (.asg (.nm 6) (.blt .max (.cons (.int 0) (.cons (.bin .sub (.bin .mod (.blt .int (.cons (.var 6) .nil)) (.int 7)) (.int 2)) .nil))))
.nil)
.nil)
(.seq (.expr (.meth .append (.var 4) (.cons (.var 6) .nil)))
.nil))))
(.seq (.iff (.cmp .gt (.var 2) (.int 0))
(.seq (.forr (.nm 7) (.rng (.cons (.call 7 [.ino, .frz] (.cons (.var 0) (.cons (.int 3) .nil))) .nil))
(.seq (.asg (.nm 9) (.call 7 [.ino, .frz] (.cons (.var 0) (.cons (.var 2) .nil))))
(.seq (.sto (.var 4) (.var 9) (.call 9 [.ino, .frz] (.cons (.var 0) (.cons (.var 1) .nil))))
.nil)))
.nil)
.nil)
(.seq (.iff (.cmp .eq (.call 7 [.ino, .frz] (.cons (.var 0) (.cons (.int 6) .nil))) (.int 0))
(.seq (.asg (.nm 8) (.bin .add (.int 1) (.call 9 [.ino, .frz] (.cons (.var 0) (.cons (.var 1) .nil)))))
(.seq (.asg (.nm 4) (.comp .st [6] (.nm 6) (.one (.var 4)) .nop (.bin .mul (.var 6) (.var 8))))
.nil))
.nil)
(.seq (.ret (.var 4))
.nil))))))
def d11 : Sh.Def := ⟨3, 10, c11⟩
/-- _law_demand 0:draws 1:script 2:hours 3:wide 4:demand 5:hour 6:hands 7:k 8:times 9:at -/
def t11 : FT := ⟨"_law_demand", topS 13, ["draws", "script", "hours"], ["draws", "script", "hours", "wide", "demand", "hour", "hands", "k", "times", "at"], d11, false⟩
def c12 : Sh.C := (.seq (.asg (.nm 2) (.lst .st .nil))
(.seq (.forr (.nm 3) (.rng (.cons (.blt .len (.cons (.var 0) .nil)) .nil))
(.seq (.iff (.cmp .isin (.bl true) (.comp .st [4] (.nm 4) (.one (.var 1)) .nop (.chn .le .lt (.idx (.var 4) (.int 0)) (.var 3) (.idx (.var 4) (.int 1)))))
(.seq (.expr (.meth .append (.var 2) (.cons (.idx (.var 0) (.var 3)) .nil)))
.nil)
(.seq (.expr (.meth .append (.var 2) (.cons (.int 0) .nil)))
.nil))
.nil))
(.seq (.ret (.var 2))
.nil)))
def d12 : Sh.Def := ⟨2, 5, c12⟩
/-- _law_covered 0:demand 1:kinds 2:found 3:hour 4:kind -/
def t12 : FT := ⟨"_law_covered", topS 14, ["demand", "kinds"], ["demand", "kinds", "found", "hour", "kind"], d12, false⟩
def c13 : Sh.C := (.seq (.asg (.nm 2) (.comp .st [7] (.nm 7) (.one (.var 1)) .nop (.int 0)))
(.seq (.asg (.nm 3) (.lst .st .nil))
(.seq (.forr (.nm 4) (.rng (.cons (.blt .len (.cons (.var 0) .nil)) .nil))
(.seq (.asg (.nm 5) (.comp .st [9] (.nm 9) (.rng (.cons (.blt .len (.cons (.var 1) .nil)) .nil)) (.one (.chn .le .lt (.idx (.idx (.var 1) (.var 9)) (.int 0)) (.var 4) (.idx (.idx (.var 1) (.var 9)) (.int 1)))) (.var 9)))
(.seq (.asg (.nm 6) (.bin .sub (.idx (.var 0) (.var 4)) (.blt .sum (.cons (.comp .st [9] (.nm 9) (.one (.var 5)) .nop (.idx (.var 2) (.var 9))) .nil))))
(.seq (.iff (.and (.cmp .gt (.var 6) (.int 0)) (.one (.cmp .eq (.blt .len (.cons (.var 5) .nil)) (.int 0))))
(.seq (.ret .non)
.nil)
.nil)
(.seq (.iff (.cmp .gt (.var 6) (.int 0))
(.seq (.asg (.nm 8) (.idx (.var 5) (.int 0)))
(.seq (.forr (.nm 9) (.one (.var 5))
(.seq (.iff (.cmp .gt (.idx (.idx (.var 1) (.var 9)) (.int 1)) (.idx (.idx (.var 1) (.var 8)) (.int 1)))
(.seq (.asg (.nm 8) (.var 9))
.nil)
.nil)
.nil))
(.seq (.sto (.var 2) (.var 8) (.bin .add (.idx (.var 2) (.var 8)) (.var 6)))
(.seq (.expr (.meth .append (.var 3) (.cons (.var 4) .nil)))
.nil))))
.nil)
.nil)))))
(.seq (.ret (.tup (.cons (.var 2) (.cons (.var 3) .nil))))
.nil))))
def d13 : Sh.Def := ⟨2, 10, c13⟩
/-- _law_told 0:demand 1:kinds 2:numbers 3:put 4:hour 5:there 6:short 7:kind 8:best 9:k -/
def t13 : FT := ⟨"_law_told", topS 15, ["demand", "kinds"], ["demand", "kinds", "numbers", "put", "hour", "there", "short", "kind", "best", "k"], d13, false⟩
def c14 : Sh.C := (.seq (.ret (.cmp .isin (.bl true) (.comp .st [3] (.nm 3) (.one (.var 0)) .nop (.and (.cmp .le (.idx (.var 3) (.int 0)) (.var 1)) (.one (.cmp .lt (.var 2) (.idx (.var 3) (.int 1))))))))
.nil)
def d14 : Sh.Def := ⟨3, 4, c14⟩
/-- _law_meet 0:kinds 1:one 2:other 3:kind -/
def t14 : FT := ⟨"_law_meet", topS 16, ["kinds", "one", "other"], ["kinds", "one", "other", "kind"], d14, false⟩
def c15 : Sh.C := (.seq (.asg (.nm 2) (.lst .st .nil))
(.seq (.forr (.nm 3) (.rng (.cons (.blt .len (.cons (.var 1) .nil)) .nil))
(.seq (.asg (.nm 4) (.idx (.var 1) (.bin .sub (.neg (.int 1)) (.var 3))))
(.seq (.iff (.or (.cmp .eq (.blt .len (.cons (.var 2) .nil)) (.int 0)) (.one (.not (.call 14 [.frz, .frz, .frz] (.cons (.var 0) (.cons (.var 4) (.cons (.idx (.var 2) (.int 0)) .nil)))))))
(.seq (.expr (.meth .insert (.var 2) (.cons (.int 0) (.cons (.var 4) .nil))))
.nil)
.nil)
.nil)))
(.seq (.ret (.blt .tuple (.cons (.var 2) .nil)))
.nil)))
def d15 : Sh.Def := ⟨2, 5, c15⟩
/-- _law_told_apart 0:kinds 1:put 2:taken 3:k 4:hour -/
def t15 : FT := ⟨"_law_told_apart", topS 17, ["kinds", "put"], ["kinds", "put", "taken", "k", "hour"], d15, false⟩
def c16 : Sh.C := (.seq (.asg (.nm 2) (.call 13 [.frz, .frz] (.cons (.var 0) (.cons (.var 1) .nil))))
(.seq (.iff (.cmp .is_ (.var 2) .non)
(.seq (.ret (.and (.cmp .is_ (.call 4 [.frz, .frz] (.cons (.blt .tuple (.cons (.var 0) .nil)) (.cons (.var 1) .nil))) .non) (.one (.cmp .is_ (.call 5 [.frz, .frz] (.cons (.blt .tuple (.cons (.var 0) .nil)) (.cons (.var 1) .nil))) .non))))
.nil)
.nil)
(.seq (.iff (.not (.call 8 [.frz, .frz] (.cons (.call 4 [.frz, .frz] (.cons (.blt .tuple (.cons (.var 0) .nil)) (.cons (.var 1) .nil))) (.cons (.blt .tuple (.cons (.idx (.var 2) (.int 0)) .nil)) .nil))))
(.seq (.ret (.bl false))
.nil)
.nil)
(.seq (.ret (.call 8 [.frz, .frz] (.cons (.call 5 [.frz, .frz] (.cons (.blt .tuple (.cons (.var 0) .nil)) (.cons (.var 1) .nil))) (.cons (.call 15 [.frz, .frz] (.cons (.var 1) (.cons (.idx (.var 2) (.int 1)) .nil))) .nil))))
.nil))))
def d16 : Sh.Def := ⟨2, 3, c16⟩
/-- _law_right 0:demand 1:kinds 2:told -/
def t16 : FT := ⟨"_law_right", topS 18, ["demand", "kinds"], ["demand", "kinds", "told"], d16, false⟩
def c17 : Sh.C := (.seq (.asg (.nm 1) (.call 6 [.frz, .frz] (.cons (.var 0) (.cons (.int 640) .nil))))
(.seq (.asg (.nm 2) (.call 7 [.ino, .frz] (.cons (.var 1) (.cons (.int 9) .nil))))
(.seq (.asg (.nm 3) (.call 7 [.ino, .frz] (.cons (.var 1) (.cons (.int 9) .nil))))
(.seq (.asg (.nm 4) (.call 7 [.ino, .frz] (.cons (.var 1) (.cons (.int 6) .nil))))
(.seq (.iff (.cmp .eq (.var 4) (.int 0))
(.seq (.asg (.nm 2) (.bin .add (.int 9) (.call 7 [.ino, .frz] (.cons (.var 1) (.cons (.idx (.lst .st (.cons (.int 51) (.cons (.int 392) .nil))) (.call 7 [.ino, .frz] (.cons (.var 1) (.cons (.int 2) .nil)))) .nil)))))
.nil)
.nil)
(.seq (.iff (.cmp .lt (.var 4) (.int 2))
(.seq (.asg (.nm 3) (.call 7 [.ino, .frz] (.cons (.var 1) (.cons (.int 41) .nil))))
.nil)
.nil)
(.seq (.asg (.nm 5) (.tup .nil))
(.seq (.iff (.cmp .gt (.var 2) (.int 0))
(.seq (.asg (.nm 5) (.call 10 [.ino, .frz, .frz] (.cons (.var 1) (.cons (.var 2) (.cons (.var 3) .nil)))))
.nil)
.nil)
(.seq (.asg (.nm 6) (.call 11 [.ino, .frz, .frz] (.cons (.var 1) (.cons (.var 0) (.cons (.var 2) .nil)))))
(.seq (.iff (.cmp .gt (.call 7 [.ino, .frz] (.cons (.var 1) (.cons (.int 4) .nil))) (.int 0))
(.seq (.asg (.nm 6) (.call 12 [.frz, .frz] (.cons (.var 6) (.cons (.var 5) .nil))))
.nil)
.nil)
(.seq (.iff (.not (.call 16 [.frz, .frz] (.cons (.var 6) (.cons (.var 5) .nil))))
(.seq (.ret (.bl false))
.nil)
.nil)
(.seq (.asg (.nm 7) (.call 9 [.ino, .frz] (.cons (.var 1) (.cons (.var 0) .nil))))
(.seq (.iff (.not (.call 8 [.frz, .frz] (.cons (.call 4 [.frz, .frz] (.cons (.tup (.cons (.int 0) (.cons (.var 7) .nil))) (.cons (.tup (.cons (.tup (.cons (.int 0) (.cons (.int 1) .nil))) (.cons (.tup (.cons (.int 1) (.cons (.int 2) .nil))) (.cons (.tup (.cons (.int 0) (.cons (.int 2) .nil))) .nil)))) .nil))) (.cons (.tup (.cons (.int 0) (.cons (.var 7) (.cons (.int 0) .nil)))) .nil))))
(.seq (.ret (.bl false))
.nil)
.nil)
(.seq (.iff (.not (.call 8 [.frz, .frz] (.cons (.call 4 [.frz, .frz] (.cons (.tup (.cons (.int 1) (.cons (.bin .add (.var 7) (.int 1)) .nil))) (.cons (.tup (.cons (.tup (.cons (.int 0) (.cons (.int 2) .nil))) (.cons (.tup (.cons (.int 0) (.cons (.int 1) .nil))) (.cons (.tup (.cons (.int 1) (.cons (.int 2) .nil))) .nil)))) .nil))) (.cons (.tup (.cons (.bin .add (.var 7) (.int 1)) (.cons (.int 0) (.cons (.int 0) .nil)))) .nil))))
(.seq (.ret (.bl false))
.nil)
.nil)
(.seq (.iff (.or (.not (.call 8 [.frz, .frz] (.cons (.call 5 [.frz, .frz] (.cons (.tup (.cons (.bin .add (.var 7) (.int 1)) (.cons (.int 0) .nil))) (.cons (.tup (.cons (.tup (.cons (.int 0) (.cons (.int 2) .nil))) .nil)) .nil))) (.cons (.tup (.cons (.int 0) .nil)) .nil)))) (.one (.cmp .isnot (.call 4 [.frz, .frz] (.cons (.tup (.cons (.bin .add (.var 7) (.int 1)) .nil)) (.cons (.tup .nil) .nil))) .non)))
(.seq (.ret (.bl false))
.nil)
.nil)
(.seq (.ret (.call 16 [.frz, .frz] (.cons (.var 6) (.cons (.var 5) .nil))))
.nil))))))))))))))))
def d17 : Sh.Def := ⟨1, 8, c17⟩
/-- law 0:script 1:draws 2:hours 3:many 4:kind 5:kinds 6:demand 7:hands -/
def t17 : FT := ⟨"law", topS 19, ["script"], ["script", "draws", "hours", "many", "kind", "kinds", "demand", "hands"], d17, false⟩
def tb : List FT := [t0, t1, t2, t3, t4, t5, t6, t7, t8, t9, t10, t11, t12, t13, t14, t15, t16, t17]
def D : List Def := [d0, d1, d2, d3, d4, d5, d6, d7, d8, d9, d10, d11, d12, d13, d14, d15, d16, d17]
def gs : Sh.Gt := ⟨[], [], []⟩
theorem tb_ok : tb.all (ftChk (tb.map (·.g)) gs) = true := by decide +kernel
theorem tb_D : tb.map (·.d) = D := rfl
theorem b0 : Sh.Bnd t0 := fun _ _ _ _ _ _ us hl => match us, hl with | [_, _], _ => rfl
theorem b1 : Sh.Bnd t1 := fun _ _ _ _ _ _ us hl => match us, hl with | [_, _], _ => rfl
theorem b2 : Sh.Bnd t2 := fun _ _ _ _ _ _ us hl => match us, hl with | [_, _], _ => rfl
theorem b3 : Sh.Bnd t3 := fun _ _ _ _ _ _ us hl => match us, hl with | [_, _, _], _ => rfl
theorem b4 : Sh.Bnd t4 := fun _ _ _ _ _ _ us hl => match us, hl with | [_, _], _ => rfl
theorem b5 : Sh.Bnd t5 := fun _ _ _ _ _ _ us hl => match us, hl with | [_, _], _ => rfl
theorem b6 : Sh.Bnd t6 := fun _ _ _ _ _ _ us hl => match us, hl with | [_, _], _ => rfl
theorem b7 : Sh.Bnd t7 := fun _ _ _ _ _ _ us hl => match us, hl with | [_, _], _ => rfl
theorem b8 : Sh.Bnd t8 := fun _ _ _ _ _ _ us hl => match us, hl with | [_, _], _ => rfl
theorem b9 : Sh.Bnd t9 := fun _ _ _ _ _ _ us hl => match us, hl with | [_, _], _ => rfl
theorem b10 : Sh.Bnd t10 := fun _ _ _ _ _ _ us hl => match us, hl with | [_, _, _], _ => rfl
theorem b11 : Sh.Bnd t11 := fun _ _ _ _ _ _ us hl => match us, hl with | [_, _, _], _ => rfl
theorem b12 : Sh.Bnd t12 := fun _ _ _ _ _ _ us hl => match us, hl with | [_, _], _ => rfl
theorem b13 : Sh.Bnd t13 := fun _ _ _ _ _ _ us hl => match us, hl with | [_, _], _ => rfl
theorem b14 : Sh.Bnd t14 := fun _ _ _ _ _ _ us hl => match us, hl with | [_, _, _], _ => rfl
theorem b15 : Sh.Bnd t15 := fun _ _ _ _ _ _ us hl => match us, hl with | [_, _], _ => rfl
theorem b16 : Sh.Bnd t16 := fun _ _ _ _ _ _ us hl => match us, hl with | [_, _], _ => rfl
theorem b17 : Sh.Bnd t17 := fun _ _ _ _ _ _ us hl => match us, hl with | [_], _ => rfl
theorem b_all : ∀ t ∈ tb, Sh.Bnd t := by
  intro t ht
  simp only [tb, List.mem_cons, List.not_mem_nil, or_false] at ht
  rcases ht with rfl | rfl | rfl | rfl | rfl | rfl | rfl | rfl | rfl | rfl | rfl | rfl | rfl | rfl | rfl | rfl | rfl | rfl
  · exact b0
  · exact b1
  · exact b2
  · exact b3
  · exact b4
  · exact b5
  · exact b6
  · exact b7
  · exact b8
  · exact b9
  · exact b10
  · exact b11
  · exact b12
  · exact b13
  · exact b14
  · exact b15
  · exact b16
  · exact b17
theorem f_all {K : PySem.W.Frag} (h0 : Sh.Fact K t0) (h1 : Sh.Fact K t1) (h2 : Sh.Fact K t2) (h3 : Sh.Fact K t3) (h4 : Sh.Fact K t4) (h5 : Sh.Fact K t5) (h6 : Sh.Fact K t6) (h7 : Sh.Fact K t7) (h8 : Sh.Fact K t8) (h9 : Sh.Fact K t9) (h10 : Sh.Fact K t10) (h11 : Sh.Fact K t11) (h12 : Sh.Fact K t12) (h13 : Sh.Fact K t13) (h14 : Sh.Fact K t14) (h15 : Sh.Fact K t15) (h16 : Sh.Fact K t16) (h17 : Sh.Fact K t17) : ∀ t ∈ tb, Sh.Fact K t := by
  intro t ht
  simp only [tb, List.mem_cons, List.not_mem_nil, or_false] at ht
  rcases ht with rfl | rfl | rfl | rfl | rfl | rfl | rfl | rfl | rfl | rfl | rfl | rfl | rfl | rfl | rfl | rfl | rfl | rfl
  · exact h0
  · exact h1
  · exact h2
  · exact h3
  · exact h4
  · exact h5
  · exact h6
  · exact h7
  · exact h8
  · exact h9
  · exact h10
  · exact h11
  · exact h12
  · exact h13
  · exact h14
  · exact h15
  · exact h16
  · exact h17
theorem g_all {K : PySem.W.Frag} {cs : List (Addr × Addr)}  : ∀ x v, (x, v) ∈ gs.gs → Sh.GlF ⟨K, false, cs⟩ x v := by
  intro x v h
  simp [gs] at h
theorem x_all {K : PySem.W.Frag}  : ∀ x ∈ gs.xs, Sh.XcK K gs.ys x := by
  intro x h
  simp [gs] at h
theorem z_all {K : PySem.W.Frag} (z0 : PySem.W.nsIn K mainGlobals "len" = some none) (z1 : PySem.W.nsIn K mainGlobals "abs" = some none) (z2 : PySem.W.nsIn K mainGlobals "int" = some none) (z3 : PySem.W.nsIn K mainGlobals "list" = some none) (z4 : PySem.W.nsIn K mainGlobals "tuple" = some none) (z5 : PySem.W.nsIn K mainGlobals "sum" = some none) (z6 : PySem.W.nsIn K mainGlobals "sorted" = some none) (z7 : PySem.W.nsIn K mainGlobals "max" = some none) (z8 : PySem.W.nsIn K mainGlobals "min" = some none) (z9 : PySem.W.nsIn K mainGlobals "str" = some none) (z10 : PySem.W.nsIn K mainGlobals "range" = some none) (z11 : PySem.W.nsIn K mainGlobals "enumerate" = some none) (z12 : PySem.W.nsIn K mainGlobals "zip" = some none) (z13 : PySem.W.nsIn K mainGlobals "reversed" = some none) (z14 : PySem.W.nsIn K mainGlobals "bool" = some none) (z15 : PySem.W.nsIn K mainGlobals "isinstance" = some none) (z16 : PySem.W.nsIn K mainGlobals "any" = some none) (z17 : PySem.W.nsIn K mainGlobals "all" = some none) : ∀ y ∈ Sh.bltNames, PySem.W.nsIn K mainGlobals y = some none := by
  intro y hy
  simp only [Sh.bltNames, List.mem_cons, List.not_mem_nil, or_false] at hy
  rcases hy with rfl | rfl | rfl | rfl | rfl | rfl | rfl | rfl | rfl | rfl | rfl | rfl | rfl | rfl | rfl | rfl | rfl | rfl
  · exact z0
  · exact z1
  · exact z2
  · exact z3
  · exact z4
  · exact z5
  · exact z6
  · exact z7
  · exact z8
  · exact z9
  · exact z10
  · exact z11
  · exact z12
  · exact z13
  · exact z14
  · exact z15
  · exact z16
  · exact z17
end L53

namespace L53
open Sh
open PySem PySem.Spec PyProof.Rows L2
/-! ## k53: kinds of shifts over a demand (plain) -/
abbrev Kd := Int × Int
def cov (k : Kd) (h : Int) : Bool := decide (k.1 ≤ h) && decide (h < k.2)
theorem cov_iff {k : Kd} {h : Int} : cov k h = true ↔ k.1 ≤ h ∧ h < k.2 := by unfold cov; simp
def gk (K : List Kd) (i : Nat) : Kd := K.getD i (0, 0)
def far (K : List Kd) (i : Nat) : Option Nat → Bool
  | none => true
  | some j => decide ((gk K j).2 < (gk K i).2)
def pick (K : List Kd) (h : Int) (b : Option Nat) (i : Nat) : Option Nat := if cov (gk K i) h && far K i b then some i else b
theorem pick_def {K : List Kd} {h : Int} {b : Option Nat} {i : Nat} : pick K h b i = if cov (gk K i) h && far K i b then some i else b := rfl
def best (K : List Kd) (h : Int) : Option Nat := (List.range K.length).foldl (pick K h) none
/-- the sum of the numbers of those that p tells -/
def sm : (Kd → Bool) → List Kd → List Int → Int
  | p, k :: K, x :: X => (if p k then x else 0) + sm p K X
  | _, _, _ => 0
theorem sm_set {p : Kd → Bool} {s : Int} : ∀ {K : List Kd} {X : List Int} {i : Nat}, X.length = K.length → i < K.length → sm p K (X.set i (X.getD i 0 + s)) = sm p K X + if p (gk K i) then s else 0
  | [], X, i, _, h => by simp at h
  | k :: K, [], i, h, _ => by simp at h
  | k :: K, x :: X, 0, h, _ => by
    simp only [List.set_cons_zero, sm, gk, List.getD_cons_zero]
    split <;> omega
  | k :: K, x :: X, i + 1, h, hi => by
    have := sm_set (p := p) (s := s) (K := K) (X := X) (i := i) (by simpa using h) (by simpa using hi)
    simp only [List.set_cons_succ, sm, gk, List.getD_cons_succ] at this ⊢
    rw [this, Int.add_assoc]
    rfl
theorem sm_zero {p : Kd → Bool} : ∀ {K : List Kd} (n : Nat), sm p K (List.replicate n 0) = 0
  | [], n => by cases n <;> rfl
  | k :: K, 0 => rfl
  | k :: K, n + 1 => by
    rw [List.replicate_succ]
    simp only [sm, sm_zero (K := K) n]
    split <;> rfl
theorem sm_congr {p q : Kd → Bool} : ∀ {K : List Kd} {X : List Int}, X.length = K.length → (∀ i, i < K.length → X.getD i 0 ≠ 0 → p (gk K i) = q (gk K i)) → sm p K X = sm q K X
  | [], X, _, _ => by cases X <;> rfl
  | k :: K, [], h, _ => by simp at h
  | k :: K, x :: X, h, hc => by
    have h1 := sm_congr (p := p) (q := q) (K := K) (X := X) (by simpa using h) fun i hi hx => by
      have := hc (i + 1) (by simpa using hi) (by simpa using hx)
      simpa [gk] using this
    have h0 : x ≠ 0 → p k = q k := fun hx => by
      have := hc 0 (by simp) (by simpa using hx)
      simpa [gk] using this
    simp only [sm, h1]
    by_cases hx : x = 0
    · subst hx; simp
    · rw [h0 hx]
theorem sm_sub {p q r : Kd → Bool} : ∀ {K : List Kd} {X : List Int}, (∀ k, (if p k then (1 : Int) else 0) = (if q k then 1 else 0) + if r k then 1 else 0) → sm p K X = sm q K X + sm r K X
  | [], X, _ => by cases X <;> rfl
  | k :: K, [], _ => rfl
  | k :: K, x :: X, h => by
    have h1 := sm_sub (K := K) (X := X) h
    have h0 := h k
    simp only [sm, h1]
    revert h0
    cases p k <;> cases q k <;> cases r k <;> intro h0 <;> simp at h0 ⊢ <;> omega
/-- an hour -/
def put1 (K : List Kd) (D : List Int) (h : Nat) (s : List Int × List Int) : Option (List Int × List Int) :=
  if 0 < D.getD h 0 - sm (cov · (h : Int)) K s.1 then (best K (h : Int)).map fun b => (s.1.set b (s.1.getD b 0 + (D.getD h 0 - sm (cov · (h : Int)) K s.1)), s.2 ++ [(h : Int)]) else some s
def told (K : List Kd) (D : List Int) : Nat → Option (List Int × List Int)
  | 0 => some (List.replicate K.length 0, [])
  | n + 1 => (told K D n).bind (put1 K D n)
theorem pick_some {K : List Kd} {h : Int} {b : Option Nat} {i : Nat} (hb : ∀ j, b = some j → cov (gk K j) h = true ∧ j < K.length) (hi : i < K.length) : ∀ j, pick K h b i = some j → cov (gk K j) h = true ∧ j < K.length := fun j q => by
  unfold pick at q
  by_cases c : (cov (gk K i) h && far K i b) = true
  · rw [if_pos c] at q
    cases q
    rw [Bool.and_eq_true] at c
    exact ⟨c.1, hi⟩
  · rw [if_neg c] at q
    exact hb j q
theorem best_some {K : List Kd} {h : Int} {b : Nat} (hb : best K h = some b) : cov (gk K b) h = true ∧ b < K.length := by
  have : ∀ (L : List Nat) (a : Option Nat), (∀ i ∈ L, i < K.length) → (∀ j, a = some j → cov (gk K j) h = true ∧ j < K.length) → ∀ j, L.foldl (pick K h) a = some j → cov (gk K j) h = true ∧ j < K.length := by
    intro L
    induction L with
    | nil => intro a _ ha j q; exact ha j q
    | cons i L ih =>
      intro a hL ha j q
      exact ih _ (fun x hx => hL x (List.mem_cons_of_mem _ hx)) (pick_some ha (hL i List.mem_cons_self)) j q
  exact this _ none (fun i hi => List.mem_range.mp hi) (fun j q => by cases q) b hb
/-- what the walk over the hours keeps -/
structure Ok (K : List Kd) (h : Nat) (X P : List Int) : Prop where
  len : X.length = K.length
  beg : ∀ i, i < K.length → X.getD i 0 ≠ 0 → (gk K i).1 < (h : Int)
  lt : ∀ x ∈ P, 0 ≤ x ∧ x < (h : Int)
  asc : P.Pairwise (· < ·)
  pl : P.length ≤ h
theorem getD_set {X : List Int} {b i : Nat} {v : Int} : (X.set b v).getD i 0 = if b = i ∧ i < X.length then v else X.getD i 0 := by
  rw [List.getD_eq_getElem?_getD, List.getElem?_set]
  split
  · rename_i h; subst h
    by_cases hb : b < X.length
    · rw [if_pos hb, if_pos ⟨rfl, hb⟩]; rfl
    · rw [if_neg hb, if_neg (fun q => hb q.2), List.getD_eq_getElem?_getD, List.getElem?_eq_none (by omega)]
  · rename_i h
    rw [if_neg (fun q => h q.1), List.getD_eq_getElem?_getD]
theorem told_ok {K : List Kd} {D : List Int} : ∀ {h : Nat} {X P : List Int}, told K D h = some (X, P) → Ok K h X P
  | 0, X, P, e => by
    cases e
    refine ⟨by simp, fun i hi hx => ?_, by simp, by simp, by simp⟩
    rw [List.getD_eq_getElem?_getD, List.getElem?_replicate] at hx
    split at hx <;> simp at hx
  | h + 1, X, P, e => by
    unfold told at e
    obtain ⟨⟨X0, P0⟩, e0, e⟩ := Option.bind_eq_some_iff.mp e
    have ok := told_ok e0
    unfold put1 at e
    split at e
    · obtain ⟨b, hb, q⟩ := Option.map_eq_some_iff.mp e
      cases q
      obtain ⟨hc, hl⟩ := best_some hb
      have hc := cov_iff.mp hc
      refine ⟨by rw [List.length_set]; exact ok.len, fun i hi hx => ?_, fun x hx => ?_, ?_, by simp; have := ok.pl; omega⟩
      · rw [getD_set] at hx
        split at hx
        · rename_i q; rw [← q.1]; omega
        · have := ok.beg i hi hx; omega
      · rcases List.mem_append.mp hx with hx | hx
        · have := ok.lt x hx; omega
        · have : x = (h : Int) := by simpa using hx
          omega
      · exact List.pairwise_append.mpr ⟨ok.asc, by simp, fun x hx y hy => by
          have : y = (h : Int) := by simpa using hy
          have := (ok.lt x hx).2
          omega⟩
    · cases e
      exact ⟨ok.len, fun i hi hx => by have := ok.beg i hi hx; omega, fun x hx => by have := ok.lt x hx; omega, ok.asc, by have := ok.pl; omega⟩
/-- the hands at an hour are those of the kinds that cover it -/
theorem hands_at {K : List Kd} {D : List Int} {h : Nat} {X P : List Int} (e : told K D h = some (X, P)) : sm (fun k => decide ((h : Int) < k.2)) K X = sm (cov · (h : Int)) K X :=
  sm_congr (told_ok e).len fun i hi hx => by
    have := (told_ok e).beg i hi hx
    unfold cov
    rw [decide_eq_true (show (gk K i).1 ≤ (h : Int) by omega), Bool.true_and]
theorem hands_sub {K : List Kd} {X : List Int} {h : Int} : sm (fun k => decide (h ≤ k.2)) K X = sm (fun k => decide (h < k.2)) K X + sm (fun k => decide (k.2 = h)) K X := sm_sub fun k => by
  by_cases h1 : h < k.2
  · simp [h1, show h ≤ k.2 by omega, show ¬ k.2 = h by omega]
  · by_cases h2 : k.2 = h
    · simp [h2]
    · simp [h1, h2, show ¬ h ≤ k.2 by omega]
/-- what is told apart from behind -/
def meet (K : List Kd) (a b : Int) : Bool := K.any fun k => cov k a && cov k b
def apart (K : List Kd) : List Int → List Int
  | [] => []
  | h :: P => match apart K P with
    | [] => [h]
    | t :: T => if meet K h t then t :: T else h :: t :: T
theorem meet_law {K : List Kd} {a b : Int} (h : a ≤ b) : meet K a b = K.any fun k => decide (k.1 ≤ a) && decide (b < k.2) := by
  unfold meet
  congr 1
  funext k
  unfold cov
  by_cases h1 : k.1 ≤ a <;> by_cases h2 : b < k.2 <;> simp [h1, h2] <;> omega

open Sh
open PySem PySem.Spec PyProof.Rows L2
/-! ## k53: the program -/

-- side conditions; a place changed; one step; all steps
local macro_rules | `(tactic| sizeOf_list_dec) => `(tactic| first | with_reducible assumption | with_reducible rfl | decide | omega | (simp; done) | (simp; omega))
local macro_rules | `(tactic| array_get_dec) => `(tactic| first | exact UpE.nil | ((repeat (first | exact Up.z | apply Up.s)); done) | (apply UpE.cons; (· repeat (first | exact Up.z | apply Up.s)); array_get_dec))
local macro_rules | `(tactic| simp_arith) => `(tactic| first
  | refine wE_st rfl ?_
  | refine wE_int ?_
  | refine wE_l rfl ?_
  | refine wE_fzs rfl ?_
  | (apply wE_fzl; (· exact rfl); (· array_get_dec))
  | refine wE_bin ?_
  | refine wE_cmp ?_
  | refine wE_idx ?_
  | refine wE_blt ?_
  | refine wE_call ?_
  | refine wE_lrg1 ?_
  | refine wE_lrg2 ?_
  | refine wE_sp ?_
  | refine wE_con ?_
  | refine wE_comp ?_
  | refine wE_anyg ?_
  | (apply wE_mut; (· decide); (· exact rfl))
  | refine wE_tup ?_
  | refine wE_lst ?_
  | refine wE_one ?_
  | refine wE_not ?_
  | refine wE_and ?_
  | refine wE_or ?_
  | refine wE_ite ?_
  | refine wE_bl ?_
  | refine wE_non ?_
  | refine wE_str ?_
  | refine wE_neg ?_
  | refine wE_isi ?_
  | refine wE_index ?_
  | refine wE_pm ?_
  | refine wE_slc ?_
  | refine wE_tc rfl ?_
  | refine wE_dnk ?_
  | refine wE_dnt ?_)
local macro_rules | `(tactic| mstop) => `(tactic| first
  | refine wX_seq ?_
  | refine wX_asg ?_
  | refine wX_expr ?_
  | refine wX_iffC ?_
  | refine wX_iffN ?_
  | refine wX_iffV ?_
  | refine wX_iffI ?_
  | refine wX_iffF ?_
  | refine wX_iffH ?_
  | refine wX_nil ?_
  | refine wX_ret ?_
  | refine wX_retN ?_
  | refine wX_augS ?_
  | refine wX_for ?_
  | refine wX_sto ?_
  | refine wX_aug rfl ?_
  | refine wX_brk ?_
  | refine wX_cnt ?_
  | refine wX_pass ?_
  | refine wX_tryc ?_)
local macro_rules | `(tactic| simp_all_arith) => `(tactic| first
  | refine bi_add ?_
  | refine bi_sub ?_
  | (apply bi_mul; (· sizeOf_list_dec))
  | (apply bi_mod; (· sizeOf_list_dec))
  | (apply bi_fdiv; (· sizeOf_list_dec); (· sizeOf_list_dec))
  | (apply bi_catM; (· sizeOf_list_dec); (· exact rfl); (· exact rfl))
  | (apply bi_cattM; (· sizeOf_list_dec))
  | (apply bi_cat1; (· sizeOf_list_dec); (· exact rfl); (· exact rfl))
  | (apply bi_1cat; (· sizeOf_list_dec); (· exact rfl); (· exact rfl))
  | (apply bi_catt1; (· sizeOf_list_dec))
  | (apply bi_1catt; (· sizeOf_list_dec))
  | (apply bi_cat; (· sizeOf_list_dec); (· exact rfl); (· exact rfl))
  | (apply bi_catt; (· sizeOf_list_dec)))
local macro_rules | `(tactic| infer_instance) => `(tactic| first
  | refine cp_eqN ?_
  | refine cp_eqI ?_
  | refine cp_neN ?_
  | refine cp_neI ?_
  | refine cp_ltI ?_
  | refine cp_leI ?_
  | refine cp_gtI ?_
  | refine cp_geI ?_
  | refine cp_is ?_
  | refine cp_isnot ?_
  | refine cp_notin ?_
  | refine cp_inLN ?_
  | refine cp_inTN ?_
  | refine cp_inL ?_
  | refine cp_inT ?_)
local macro_rules | `(tactic| mleft) => `(tactic| first
  | refine bf_lenM ?_
  | refine bf_lentM ?_
  | refine bf_len ?_
  | refine bf_lent ?_
  | refine bf_int ?_
  | refine bf_intb ?_
  | refine bf_abs ?_
  | refine bf_list rfl ?_
  | refine bf_listt ?_
  | refine bf_tuple rfl ?_
  | refine bf_tuplet ?_
  | refine bf_sum ?_
  | refine bf_sumT ?_
  | refine bf_max2 ?_
  | refine bf_min2 ?_
  | (apply bf_sorted; (· exact rfl); (· with_reducible assumption)))
local macro_rules | `(tactic| mright) => `(tactic| first
  | (apply ixx_tup; (· with_reducible assumption))
  | (apply ixx_slot; (· exact rfl); (· with_reducible assumption))
  | (apply ixx_tmpl; (· with_reducible assumption); (· exact rfl))
  | (apply ixx_slotl; (· exact rfl); (· with_reducible assumption))
  | (apply ixx_part; (· with_reducible assumption); (· exact rfl))
  | (apply ixx_partt; (· with_reducible assumption))
  | (apply ixx_str; (· with_reducible assumption); (· with_reducible assumption)))
local macro_rules | `(tactic| mexfalso) => `(tactic| first
  | refine ps_nil ?_
  | refine ps_frz ?_
  | (apply ps_ino; (· exact rfl); (· array_get_dec))
  | (apply ps_frzs; (· exact rfl); (· array_get_dec))
  | refine ps_mov ?_
  | (apply ps_movs; (· exact rfl); (· array_get_dec))
  | refine ps_bor ?_
  | (apply ps_borl; (· exact rfl); (· array_get_dec))
  | (apply ps_bors; (· exact rfl); (· sizeOf_list_dec); (· array_get_dec)))
local macro_rules | `(tactic| massumption) => `(tactic| first
  | refine wW_wk ?_
  | refine wW_rng ?_
  | refine wW_one ?_
  | refine wW_enum ?_
  | refine wW_rev ?_
  | refine wW_zip ?_)
local macro_rules | `(tactic| mstart) => `(tactic| first
  | (apply mu_appM; (· exact rfl); (· first | exact fit_st | exact fit_eq); (· sizeOf_list_dec); (· array_get_dec))
  | (apply mu_app; (· exact rfl); (· first | exact fit_st | exact fit_eq); (· sizeOf_list_dec); (· array_get_dec))
  | (apply mu_rev; (· exact rfl); (· array_get_dec))
  | (apply mu_pop; (· exact rfl); (· with_reducible assumption); (· array_get_dec))
  | (apply mu_ins; (· exact rfl); (· sizeOf_list_dec); (· sizeOf_list_dec); (· first | exact fit_st | exact fit_eq); (· sizeOf_list_dec); (· array_get_dec)))
local macro_rules | `(tactic| mconstructor) => `(tactic| first
  | refine tq0 ?_
  | refine tq1 ?_
  | refine tq2 ?_
  | refine tq3 ?_
  | refine tq4 ?_
  | refine tq5 ?_
  | refine tq6 ?_
  | refine lq0 ?_
  | (apply lq1; (· first | exact fit_st | exact fit_eq))
  | (apply lq2; (· first | exact fit_st | exact fit_eq); (· first | exact fit_st | exact fit_eq))
  | (apply lq3; (· first | exact fit_st | exact fit_eq); (· first | exact fit_st | exact fit_eq); (· first | exact fit_st | exact fit_eq))
  | (apply lq4; (· first | exact fit_st | exact fit_eq); (· first | exact fit_st | exact fit_eq); (· first | exact fit_st | exact fit_eq); (· first | exact fit_st | exact fit_eq))
  | (apply lq5; (· first | exact fit_st | exact fit_eq); (· first | exact fit_st | exact fit_eq); (· first | exact fit_st | exact fit_eq); (· first | exact fit_st | exact fit_eq); (· first | exact fit_st | exact fit_eq))
  | (apply lq6; (· first | exact fit_st | exact fit_eq); (· first | exact fit_st | exact fit_eq); (· first | exact fit_st | exact fit_eq); (· first | exact fit_st | exact fit_eq); (· first | exact fit_st | exact fit_eq); (· first | exact fit_st | exact fit_eq)))
local macro_rules | `(tactic| mpure_intro) => `(tactic| first
  | refine wR_seq ?_
  | refine wR_asg ?_
  | refine wR_iffC ?_
  | refine wR_iffN ?_
  | refine wR_rse ?_
  | refine wR_nil ?_
  | refine wR_ret ?_
  | refine wR_retN ?_
  | refine wR_expr ?_
  | refine wR_for ?_)
local macro_rules | `(tactic| ac_rfl) => `(tactic| first
  | (show Sh.wE _ _ _ _ _; simp_arith)
  | refine wEs_cons ?_
  | refine wEs_nil ?_
  | (show Sh.rd _ _ _; first | refine rd_tmp ?_ | refine rd_slot rfl ?_ | refine rd_part ?_)
  | refine gd_ok ?_
  | refine tk_tmp ?_
  | (apply tk_slot; (· exact rfl); (· array_get_dec))
  | (apply as_nm; (· decide); (· exact rfl); (· first | rfl | with_reducible assumption); (· array_get_dec))
  | refine as_tp rfl ?_
  | (show Sh.wX _ _ _ _ _ _ _ _; mstop)
  | (show Sh.bi _ _ _ _ _ _ _; simp_all_arith)
  | (show Sh.cp _ _ _ _ _; infer_instance)
  | refine rds_cons ?_
  | refine rds_nil ?_
  | (show Sh.bf _ _ _; mleft)
  | refine bo_ok ?_
  | (show Sh.br _ _ _; first | refine br_not ?_ | refine br_and ?_ | refine br_or ?_ | refine br_t ?_ | refine br_f ?_)
  | (show Sh.ixx _ _ _ _ _; mright)
  | (show Sh.ps _ _ _ _ _; mexfalso)
  | refine cl_mk ?_
  | (show Sh.pb _ _ _ _; first | refine pb_nil ?_ | refine pb_no ?_ | refine pb_chg rfl ?_ | refine pb_lent ?_)
  | (apply ud_ok; (· array_get_dec))
  | (show Sh.wW _ _ _ _ _; massumption)
  | (apply agt_mk; (· exact rfl); (· with_reducible assumption))
  | (apply rq_l; (· with_reducible assumption))
  | (apply rq_t; (· with_reducible assumption))
  | refine en_lst ?_
  | refine en_tup ?_
  | (show Sh.wkq _ _ _; first | refine wk_keys ?_ | refine wk_dict ?_ | refine wk_vals ?_ | refine wk_items ?_)
  | (show Sh.spq _ _ _; first | refine sp_trev rfl ?_ | (apply sp_stup; (· with_reducible assumption)) | (apply sp_skeys; (· with_reducible assumption)))
  | refine zp_lst ?_
  | refine zp_tup ?_
  | refine ft_st ?_
  | refine ft_eq ?_
  | refine wP.mk ?_
  | (apply rg_nat; (· with_reducible assumption))
  | refine it_lst ?_
  | refine it_tup ?_
  | refine rv_lst ?_
  | refine rv_tup ?_
  | refine fz_tmp ?_
  | (apply fz_slot; (· exact rfl); (· array_get_dec))
  | refine tks_cons ?_
  | refine tks_nil ?_
  | (show Sh.mu _ _ _ _ _; mstart)
  | (show Sh.tq _ _; mconstructor)
  | (show Sh.lq _ _ _; mconstructor)
  | refine isint ?_
  | refine pt_ok rfl ?_
  | (apply pq_nat; (· with_reducible assumption))
  | (apply pq_natL; (· with_reducible assumption))
  | (apply in_nat; (· with_reducible assumption))
  | refine wO_nop ?_
  | refine wO_one ?_
  | (show Sh.sl _ _ _ _ _; first | refine sl_lstM rfl ?_ | refine sl_tupM ?_ | refine sl_lst rfl ?_ | refine sl_tup ?_)
  | (apply wsto_lstM; (· exact rfl); (· with_reducible assumption); (· first | exact fit_st | exact fit_eq); (· array_get_dec))
  | (apply wsto_lst; (· exact rfl); (· with_reducible assumption); (· first | exact fit_st | exact fit_eq); (· array_get_dec))
  | refine tg_add ?_
  | refine tg_sub ?_
  | refine wC_nop ?_
  | refine wC_one ?_
  | (show Sh.asns _ _ _ _ _; first | refine ass_nil ?_ | refine ass_st ?_ | refine ass_pr ?_ | refine ass_tc ?_)
  | (show Sh.wR _ _ _ _ _ _ _ _ _; mpure_intro))
local macro_rules | `(tactic| and_intros) => `(tactic| repeat ac_rfl)
local macro_rules | `(tactic| bv_omega) => `(tactic| ((repeat' first | ac_rfl | (refine br_dec (fun _ => ?_) fun _ => ?_)); all_goals (first | (exfalso; omega) | exact ⟨by rw [decide_eq_true (by omega)], rfl⟩ | exact ⟨by rw [decide_eq_false (by omega)], rfl⟩ | exact ⟨by simp only [Sh.Arg.tmp.injEq, Sh.Val.bl.injEq, ← decide_not, decide_eq_decide, true_and]; omega, rfl⟩)))

theorem szL : (100000 : Nat) < sizeLine := by decide
theorem at_getD {α : Type} {f : α → Val} {X : List α} {d : α} {k : Nat} (h : k < X.length) : L2.atI (X.map f) (k : Int) = some (f (X.getD k d)) := atI_natM (by rw [List.getD_eq_getElem?_getD, List.getElem?_eq_getElem h]; rfl)
def nv (k : Nat) : Val := .int (k : Int)
def pv (k : Kd) : Val := .tup [.int k.1, .int k.2]
def optV : Option Nat → Val
  | none => .non
  | some i => .int (i : Int)
structure okK (K : List Kd) (N : Nat) : Prop where
  b : ∀ k ∈ K, 0 ≤ k.1 ∧ k.1 < k.2 ∧ k.2 ≤ (N : Int)
  l : K.length ≤ 1000
  n : N ≤ 1000
theorem covers_sp {n : Nat} {k : Kd} {h : Int} : ∃ fe, sem false D (n + 1) 0 [⟨false, .st, pv k⟩, ⟨false, .st, .int h⟩] = .ret .st (.bl (cov k h)) fe := by
  refine Sp.rt (sp_run (d := d0) rfl rfl (by repeat constructor) ?_)
  have e0 : pv k = .tup [.int k.1, .int k.2] := rfl
  have g0 : L2.atI [Val.int k.1, .int k.2] 0 = some (.int k.1) := rfl
  have g1 : L2.atI [Val.int k.1, .int k.2] 1 = some (.int k.2) := rfl
  rw [e0]
  unfold d0 c0
  and_intros
  refine wE_chn ?_
  and_intros
  refine ⟨_, _, _, _, rfl, rfl, cp_leI ?_⟩
  refine br_dec (fun a => ?_) fun a => ?_
  · and_intros
    refine ⟨_, _, rfl, cp_ltI ?_⟩
    and_intros
    exact ⟨rfl, by unfold cov; rw [decide_eq_true a, Bool.true_and]⟩
  · and_intros
    exact ⟨rfl, by unfold cov; rw [decide_eq_false a, Bool.false_and]⟩
theorem gk_at {K : List Kd} {i : Nat} (h : i < K.length) : L2.atI (K.map pv) (i : Int) = some (pv (gk K i)) := at_getD (f := pv) (d := (0, 0)) h
theorem foldl_range {α : Type} (f : α → Nat → α) (a : α) (k : Nat) : (List.range (k + 1)).foldl f a = f ((List.range k).foldl f a) k := by
  rw [List.range_succ, List.foldl_append]; rfl
def bestN (K : List Kd) (h : Int) (n : Nat) : Option Nat := (List.range n).foldl (pick K h) none
theorem bestN_lt {K : List Kd} {h : Int} : ∀ {n b : Nat}, bestN K h n = some b → n ≤ K.length → b < n
  | 0, b, e, _ => by cases e
  | n + 1, b, e, hn => by
    unfold bestN at e
    rw [foldl_range] at e
    rw [pick_def] at e
    by_cases c : (cov (gk K n) h && far K n ((List.range n).foldl (pick K h) none)) = true
    · rw [if_pos c] at e; cases e; omega
    · rw [if_neg c] at e
      have := bestN_lt (n := n) e (by omega)
      omega
theorem farthest_sp {n : Nat} {K : List Kd} {h : Int} (hl : K.length ≤ 1000) : ∃ fe, sem false D (n + 2) 1 [⟨false, .st, .tup (K.map pv)⟩, ⟨false, .st, .int h⟩] = .ret .st (optV (best K h)) fe := by
  refine Sp.rt (sp_run (d := d1) rfl rfl (by repeat constructor) ?_)
  have sz := szL
  have hsm := sm_of (n := K.length) (by omega)
  unfold d1 c1
  and_intros
  refine wF_rg (n := K.length) (f := nv) (fun k e => ∃ s3 : Sh.Slot, npS s3 = true ∧ e = [.val false .st (.tup (K.map pv)), .val false .st (.int h), .val false .st (optV (bestN K h k)), s3]) ⟨.emp, rfl, rfl⟩ ?_ ?_
  · rintro k e hk ⟨s3, n3, rfl⟩
    have hat := gk_at hk
    have g1 : L2.atI [Val.int (gk K k).1, .int (gk K k).2] 1 = some (.int (gk K k).2) := rfl
    have e0 : pv (gk K k) = .tup [.int (gk K k).1, .int (gk K k).2] := rfl
    have hc := covers_sp (n := n) (k := gk K k) (h := h)
    have hbn : bestN K h (k + 1) = pick K h (bestN K h k) k := foldl_range _ _ _
    have hlt := fun b (q : bestN K h k = some b) => bestN_lt q (by omega)
    rw [hbn, pick_def]
    generalize bestN K h k = b at hlt ⊢
    and_intros
    refine wX_iff ?_
    and_intros
    refine cc_rt hc rfl fun fe => ?_
    cases hcv : cov (gk K k) h with
    | false =>
      and_intros
      exact ⟨.val false .st (nv k), rfl, rfl⟩
    | true =>
      cases b with
      | none =>
        and_intros
        exact ⟨.val false .st (nv k), rfl, rfl⟩
      | some j =>
        have hj := gk_at (K := K) (i := j) (by have := hlt j rfl; omega)
        have g2 : L2.atI [Val.int (gk K j).1, .int (gk K j).2] 1 = some (.int (gk K j).2) := rfl
        have e1 : pv (gk K j) = .tup [.int (gk K j).1, .int (gk K j).2] := rfl
        rw [e0] at hat
        rw [e1] at hj
        have ej : optV (some j) = .int (j : Int) := rfl
        rw [ej]
        and_intros
        have hf : far K k (some j) = decide ((gk K j).2 < (gk K k).2) := rfl
        rw [hf, Bool.true_and]
        refine br_dec (fun c => ?_) fun c => ?_
        · rw [decide_eq_true c]
          and_intros
          exact ⟨.val false .st (nv k), rfl, rfl⟩
        · rw [decide_eq_false c]
          and_intros
          exact ⟨.val false .st (nv k), rfl, rfl⟩
  · rintro e ⟨s3, n3, rfl⟩
    and_intros
    exact ⟨rfl, rfl⟩
theorem told_none {K : List Kd} {D : List Int} {n : Nat} (h : told K D n = none) : ∀ {m}, n ≤ m → told K D m = none
  | m, hm => by
    induction hm with
    | refl => exact h
    | step _ ih => unfold told; rw [ih]; rfl
def mkG : Mk := .tc (.l .st) (.tc (.l .st) .tn)
/-- the slots as the walk keeps them -/
structure OkE (K : List Kd) (N h : Nat) (X E : List Int) (hs : Int) : Prop where
  len : E.length = N + 1
  en : ∀ j, j ≤ N → E.getD j 0 = sm (fun k => decide (k.2 = (j : Int))) K X
  hs : hs = sm (fun k => decide ((h : Int) ≤ k.2)) K X
theorem gk_mem {K : List Kd} {i : Nat} (h : i < K.length) : gk K i ∈ K := by
  unfold gk
  rw [List.getD_eq_getElem?_getD, List.getElem?_eq_getElem h]
  exact List.getElem_mem h
theorem int_at {X : List Int} {i : Nat} (h : i < X.length) : L2.atI (X.map Val.int) (i : Int) = some (.int (X.getD i 0)) := at_getD (f := Val.int) h
theorem go_sp {n : Nat} {K : List Kd} {B : List Int} (hK : okK K B.length) : Sp (sem false D (n + 3)) 2 [⟨false, .st, .tup (B.map Val.int)⟩, ⟨false, .st, .tup (K.map pv)⟩] fun m v _ => (told K B B.length = none ∧ m = .st ∧ v = .non) ∨ ∃ X P, told K B B.length = some (X, P) ∧ m = mkG ∧ v = .tup [.lst (X.map Val.int), .lst (P.map Val.int)] := by
  refine sp_run (d := d2) rfl rfl (by repeat constructor) ?_
  have sz := szL
  have hKl := hK.l
  have hBl := hK.n
  have hsm := sm_of (n := B.length) (by omega)
  have hsm1 : sm62 ((B.length : Int) + 1) = true := sm_of (n := B.length + 1) (by omega)
  unfold d2 c2
  and_intros
  refine wK_M (X := K) (f := pv) (fun _ => Val.int 0) (own1 rfl rfl) (by omega) (by array_get_dec) ?_ ?_
  · intro k hk
    and_intros
    exact ⟨rfl, by array_get_dec⟩
  rw [show (K.map fun _ => Val.int 0) = (List.replicate K.length (0 : Int)).map Val.int from by rw [List.map_replicate, List.map_const']]
  and_intros
  refine rg_one hsm1 ?_
  rw [show rangeL 0 ((B.length : Int) + 1) = (List.range (B.length + 1)).map nv from rangeL_nat (n := B.length + 1)]
  refine wK_M (X := List.range (B.length + 1)) (f := nv) (fun _ => Val.int 0) (own1 rfl rfl) (by rw [List.length_range]; omega) (by array_get_dec) ?_ ?_
  · intro k hk
    and_intros
    exact ⟨rfl, by array_get_dec⟩
  rw [show ((List.range (B.length + 1)).map fun _ => Val.int 0) = (List.replicate (B.length + 1) (0 : Int)).map Val.int from by rw [List.map_replicate, List.map_const', List.length_range]]
  have hE0 : OkE K B.length 0 (List.replicate K.length 0) (List.replicate (B.length + 1) 0) 0 := ⟨by simp, fun j hj => by
    rw [sm_zero, List.getD_eq_getElem?_getD, List.getElem?_replicate, if_pos (by omega)]; rfl, by rw [sm_zero]⟩
  and_intros
  refine wF_rg (n := B.length) (f := nv) (fun h e => ∃ (X P E : List Int) (hs : Int) (s6 s7 s9 : Sh.Slot), told K B h = some (X, P) ∧ OkE K B.length h X E hs ∧ npS s6 = true ∧ npS s7 = true ∧ npS s9 = true ∧ e = [.val false .st (.tup (B.map Val.int)), .val false .st (.tup (K.map pv)), .val false (.l .st) (.lst (X.map Val.int)), .val false (.l .st) (.lst (E.map Val.int)), .val false (.l .st) (.lst (P.map Val.int)), .val false .st (.int hs), s6, s7, .emp, s9]) ⟨_, [], _, 0, .emp, .emp, .emp, rfl, hE0, rfl, rfl, rfl, rfl⟩ ?_ ?_
  · rintro h e hh ⟨X, P, E, hs, s6, s7, s9, hT, hE, n6, n7, n9, rfl⟩
    have ok := told_ok hT
    have hat1 := int_at (X := E) (i := h) (by rw [hE.len]; omega)
    have hat2 := int_at (X := B) (i := h) hh
    have hPz : (P.map Val.int).length < sizeLine := by rw [List.length_map]; have := ok.pl; omega
    have hhs : hs - E.getD h 0 = sm (cov · (h : Int)) K X := by
      rw [← hands_at hT, hE.hs, hE.en h (by omega), hands_sub]; omega
    have hfar := farthest_sp (n := n) (h := (h : Int)) hKl
    have hst : told K B (h + 1) = put1 K B h (X, P) := by
      show (told K B h).bind (put1 K B h) = _
      rw [hT]; rfl
    have hE2 : ∀ j, E.getD j 0 = E.getD j 0 := fun _ => rfl
    and_intros
    rw [hhs]
    have hp1 : put1 K B h (X, P) = if 0 < B.getD h 0 - sm (cov · (h : Int)) K X then (best K (h : Int)).map fun b => (X.set b (X.getD b 0 + (B.getD h 0 - sm (cov · (h : Int)) K X)), P ++ [(h : Int)]) else some (X, P) := rfl
    generalize hsd : B.getD h 0 - sm (cov · (h : Int)) K X = sh at hp1
    refine br_dec (fun c => ?_) fun c => ?_
    · rw [if_pos (show 0 < sh by omega)] at hp1
      and_intros
      refine cc_rt hfar rfl fun fe => ?_
      and_intros
      cases hb : best K (h : Int) with
      | none =>
        rw [hb] at hp1
        have : told K B B.length = none := told_none (hst.trans hp1) (by omega)
        and_intros
        exact .inl ⟨this, rfl, rfl⟩
      | some b =>
        rw [hb] at hp1
        obtain ⟨hcv, hbl⟩ := best_some hb
        have hcv := cov_iff.mp hcv
        have hkb := hK.b _ (gk_mem hbl)
        have hat3 := int_at (X := X) (i := b) (by rw [ok.len]; exact hbl)
        have hat4 := gk_at hbl
        have eb : optV (some b) = .int (b : Int) := rfl
        have e0 : pv (gk K b) = .tup [.int (gk K b).1, .int (gk K b).2] := rfl
        have g1 : L2.atI [Val.int (gk K b).1, .int (gk K b).2] 1 = some (.int (gk K b).2) := rfl
        obtain ⟨j, hj⟩ : ∃ j : Nat, (gk K b).2 = (j : Int) := ⟨(gk K b).2.toNat, by omega⟩
        have hjl : j < E.length := by rw [hE.len]; omega
        have hat5 := int_at (X := E) (i := j) hjl
        have hix1 : L2.ixN X.length (b : Int) = some b := ixN_natI (by rw [ok.len]; exact hbl)
        have hix2 : L2.ixN E.length (j : Int) = some j := ixN_natI hjl
        rw [e0] at hat4
        rw [eb]
        rw [hj] at g1 hat4
        and_intros
        refine ⟨X.set b (X.getD b 0 + sh), P ++ [(h : Int)], E.set j (E.getD j 0 + sh), _, .val false .st (nv h), .val false .st (.int sh), .val false .st (.int (b : Int)), hst.trans hp1, ⟨by rw [List.length_set]; exact hE.len, fun i hi => ?_, ?_⟩, rfl, rfl, rfl, by rw [List.map_append]; rfl⟩
        · rw [getD_set, sm_set ok.len hbl, hj]
          by_cases q : j = i
          · subst q
            rw [if_pos ⟨rfl, hjl⟩, if_pos (by simp), hE.en j hi]
          · rw [if_neg (fun z => q z.1), if_neg (by simp; omega), hE.en i hi, Int.add_zero]
        · rw [sm_set ok.len hbl, if_pos (by simp; omega), ← hands_at hT]
          congr 1
    · rw [if_neg (show ¬ 0 < sh by omega)] at hp1
      and_intros
      refine ⟨X, P, E, _, .val false .st (nv h), _, s9, hst.trans hp1, ⟨hE.len, hE.en, ?_⟩, rfl, by rfl, n9, rfl⟩
      rw [← hands_at hT]
      refine sm_congr ok.len fun i hi hx => ?_
      exact decide_eq_decide.mpr (by omega)
  · rintro e ⟨X, P, E, hs, s6, s7, s9, hT, hE, n6, n7, n9, rfl⟩
    and_intros
    refine ⟨⟨by show 2 ≤ sizeLine; omega, ?_⟩⟩
    and_intros
    exact .inr ⟨X, P, hT, rfl, rfl⟩

open Sh
open PySem PySem.Spec PyProof.Rows L2
/-! ## k53: the program's answers -/

theorem apart1_sp {n : Nat} {K : List Kd} {a b : Int} (hl : K.length ≤ 1000) : ∃ fe, sem false D (n + 2) 3 [⟨false, .st, .tup (K.map pv)⟩, ⟨false, .st, .int a⟩, ⟨false, .st, .int b⟩] = .ret .st (.bl (!meet K a b)) fe := by
  refine Sp.rt (sp_run (d := d3) rfl rfl (by repeat constructor) ?_)
  have sz := szL
  unfold d3 c3
  and_intros
  refine wN_M (f := pv) (X := K) (fun k => cov k a && cov k b) (own1 rfl rfl) (by array_get_dec) ?_ ?_
  · intro k hk
    have h1 := covers_sp (n := n) (k := k) (h := a)
    have h2 := covers_sp (n := n) (k := k) (h := b)
    and_intros
    refine cc_rt h1 rfl fun fe => ?_
    cases hc : cov k a with
    | false =>
      and_intros
      array_get_dec
    | true =>
      and_intros
      refine cc_rt h2 rfl fun fe => ?_
      and_intros
      exact ⟨rfl, by array_get_dec⟩
  and_intros
  exact ⟨rfl, rfl⟩
def listV (o : Option (List Int)) : Val := match o with
  | none => .non
  | some X => .tup (X.map Val.int)
theorem cover_sp {n : Nat} {K : List Kd} {B : List Int} (hK : okK K B.length) : ∃ fe, sem false D (n + 4) 4 [⟨false, .st, .tup (B.map Val.int)⟩, ⟨false, .st, .tup (K.map pv)⟩] = .ret .st (listV ((told K B B.length).map (·.1))) fe := by
  refine Sp.rt (sp_run (d := d4) rfl rfl (by repeat constructor) ?_)
  have sz := szL
  unfold d4 c4
  and_intros
  refine cc_sp (go_sp (n := n) hK) rfl ?_
  rintro _ _ _ (⟨hT, rfl, rfl⟩ | ⟨X, P, hT, rfl, rfl⟩)
  · and_intros
    exact ⟨rfl, by rw [hT]; rfl⟩
  · have hXl := (told_ok hT).len
    have hXz : (X.map Val.int).length ≤ sizeLine := by rw [List.length_map]; have := hK.l; omega
    and_intros
    refine ixx_slott (j := 0) rfl rfl rfl rfl rfl (by decide) ?_
    and_intros
    exact ⟨rfl, by rw [hT]; rfl⟩
/-- told apart, from behind -/
def apS (K : List Kd) (L : List Int) (h : Int) : List Int := match L with
  | [] => [h]
  | t :: T => if meet K h t then t :: T else h :: t :: T
theorem apS_cons {K : List Kd} {t h : Int} {T : List Int} : apS K (t :: T) h = if meet K h t then t :: T else h :: t :: T := rfl
def apF (K : List Kd) (R : List Int) : List Int := R.foldl (apS K) []
theorem apF_snoc {K : List Kd} {R : List Int} {h : Int} : apF K (R ++ [h]) = apS K (apF K R) h := by unfold apF; rw [List.foldl_append]; rfl
theorem apF_mem {K : List Kd} : ∀ {R : List Int} {x : Int}, x ∈ apF K R → x ∈ R := by
  have : ∀ (R L : List Int) (x : Int), x ∈ R.foldl (apS K) L → x ∈ L ∨ x ∈ R := by
    intro R
    induction R with
    | nil => intro L x h; exact .inl h
    | cons r R ih =>
      intro L x h
      rcases ih _ x h with q | q
      · have : x ∈ L ∨ x = r := by
          cases L with
          | nil => exact .inr (by simpa [apS] using q)
          | cons t T =>
            rw [apS_cons] at q
            by_cases c : meet K r t = true
            · rw [if_pos c] at q
              exact .inl q
            · rw [if_neg c] at q
              rcases List.mem_cons.mp q with q | q
              · exact .inr q
              · exact .inl q
        rcases this with q | q
        · exact .inl q
        · exact .inr (by simp [q])
      · exact .inr (List.mem_cons_of_mem _ q)
  intro R x h
  rcases this R [] x h with q | q
  · cases q
  · exact q
theorem apF_len {K : List Kd} : ∀ (R : List Int), (apF K R).length ≤ R.length := by
  have : ∀ (R L : List Int), (R.foldl (apS K) L).length ≤ L.length + R.length := by
    intro R
    induction R with
    | nil => intro L; simp
    | cons r R ih =>
      intro L
      have h1 := ih (apS K L r)
      have : (apS K L r).length ≤ L.length + 1 := by
        cases L with
        | nil => simp [apS]
        | cons t T =>
          rw [apS_cons]
          by_cases c : meet K r t = true
          · rw [if_pos c]; simp
          · rw [if_neg c]; simp
      simp only [List.foldl_cons, List.length_cons]
      omega
  intro R
  have := this R []
  simpa [apF] using this
theorem at_last {t : Int} {T : List Int} : L2.atI (((t :: T).reverse).map Val.int) (-1) = some (.int t) := by
  rw [List.reverse_cons, List.map_append]
  exact L2.atI_last _ _
theorem apart_sp {n : Nat} {K : List Kd} {B : List Int} (hK : okK K B.length) : ∃ fe, sem false D (n + 4) 5 [⟨false, .st, .tup (B.map Val.int)⟩, ⟨false, .st, .tup (K.map pv)⟩] = .ret .st (listV ((told K B B.length).map fun s => apF K s.2.reverse)) fe := by
  refine Sp.rt (sp_run (d := d5) rfl rfl (by repeat constructor) ?_)
  have sz := szL
  have hBl := hK.n
  unfold d5 c5
  and_intros
  refine cc_sp (go_sp (n := n) hK) rfl ?_
  rintro _ _ _ (⟨hT, rfl, rfl⟩ | ⟨X, P, hT, rfl, rfl⟩)
  · and_intros
    exact ⟨rfl, by rw [hT]; rfl⟩
  · have hPl := (told_ok hT).pl
    have g1 : L2.atI [Val.lst (X.map Val.int), .lst (P.map Val.int)] 1 = some (.lst (P.map Val.int)) := rfl
    and_intros
    refine ixx_slott (j := 1) rfl rfl rfl rfl rfl (by decide) ?_
    refine fz_part rfl (.inl rfl) (by array_get_dec) ?_
    and_intros
    rw [show (P.map Val.int).reverse = P.reverse.map Val.int from (List.map_reverse ..).symm]
    refine wF_iv (X := P.reverse) (f := Val.int) (fun d e => ∃ s4 : Sh.Slot, npS s4 = true ∧ e = [.val false .st (.tup (B.map Val.int)), .val false .st (.tup (K.map pv)), .val false .st (.tup [.lst (X.map Val.int), .lst (P.map Val.int)]), .val false (.l .st) (.lst ((apF K d).reverse.map Val.int)), s4]) ⟨.emp, rfl, rfl⟩ ?_ ?_
    · rintro d h r e hd ⟨s4, n4, rfl⟩
      have hdl : d.length ≤ P.length := by
        have := congrArg List.length hd
        rw [List.length_reverse, List.length_append, List.length_cons] at this
        omega
      have hal := apF_len (K := K) d
      rw [apF_snoc]
      generalize apF K d = L at hal ⊢
      and_intros
      have hLz : (L.reverse.map Val.int).length < sizeLine := by simp; omega
      refine wX_iff ?_
      cases L with
      | nil =>
        and_intros
        exact ⟨.val false .st (.int h), rfl, rfl⟩
      | cons t T =>
        have hlast := at_last (t := t) (T := T)
        have hcl := apart1_sp (n := n + 1) (K := K) (a := h) (b := t) hK.l
        have hne : decide ((t :: T).reverse.length = 0) = false := decide_eq_false (by simp)
        rw [apS_cons]
        and_intros
        rw [hne]
        and_intros
        refine cc_rt hcl rfl fun fe => ?_
        cases hm : meet K h t with
        | true =>
          and_intros
          exact ⟨.val false .st (.int h), rfl, rfl⟩
        | false =>
          and_intros
          exact ⟨.val false .st (.int h), rfl, by rw [if_neg (by decide), List.reverse_cons (a := h), List.map_append]; rfl⟩
    · rintro e ⟨s4, n4, rfl⟩
      and_intros
      exact ⟨rfl, by rw [hT, ← List.map_reverse, List.reverse_reverse]; rfl⟩

open Sh
open PySem PySem.Spec PyProof.Rows L2
/-! ## k53: the law's own walk -/

theorem ds_bls : ∀ T : List Bool, Val.Ds (T.map Val.bl) = T.map PyData.bool
  | [] => by simp [Val.Ds]
  | k :: T => by
    show Val.Ds (Val.bl k :: T.map Val.bl) = _
    rw [Val.Ds, ds_bls T]; rfl
theorem lay_bls : ∀ T : List Bool, PyData.canLayAll0 (T.map PyData.bool) = true ∧ PyData.depthAll (T.map PyData.bool) ≤ 1
  | [] => by simp [PyData.canLayAll0, PyData.depthAll]
  | k :: T => by
    obtain ⟨h1, h2⟩ := lay_bls T
    simp only [List.map_cons, PyData.canLayAll0, PyData.canLay0, h1, Bool.and_self, PyData.depthAll, PyData.depth, true_and]
    omega
theorem ok_blL (X : List Bool) : okV (.lst (X.map Val.bl)) = true := by
  unfold okV
  rw [Val.D, ds_bls]
  obtain ⟨h1, h2⟩ := lay_bls X
  unfold SeqAt.shaped
  rw [Bool.and_eq_true]
  refine ⟨by rw [PyData.canLay0]; exact h1, decide_eq_true ?_⟩
  rw [PyData.depth]
  omega
theorem any_bls (X : List Bool) : ((X.map Val.bl).any fun z => PyData.eqv z.D (Val.bl true).D) = X.any id := by
  rw [List.any_map]
  congr 1
  funext b
  cases b <;> rfl
theorem cp_inB {X : List Bool} {P : Bool → Prop} (q : P (X.any id)) : Sh.cp false .isin (.bl true) (.lst (X.map Val.bl)) P := ⟨_, by simp only [cmpV, Sh.inV, ok_blL, show okV (.bl true) = true from rfl, Bool.and_self, if_true, any_bls], q⟩
/-- the kinds that cover an hour -/
def there (K : List Kd) (h : Int) : List Nat := (List.range K.length).filter fun i => cov (gk K i) h
def bst (K : List Kd) (a : Nat) (T : List Nat) : Nat := T.foldl (fun b i => if (gk K b).2 < (gk K i).2 then i else b) a
theorem bst_snoc {K : List Kd} {a i : Nat} {T : List Nat} : bst K a (T ++ [i]) = if (gk K (bst K a T)).2 < (gk K i).2 then i else bst K a T := by unfold bst; rw [List.foldl_append]; rfl
theorem best_there {K : List Kd} {h : Int} : best K h = (there K h).foldl (fun b i => if far K i b then some i else b) none := by
  have : ∀ (L : List Nat) (a : Option Nat), L.foldl (pick K h) a = (L.filter fun i => cov (gk K i) h).foldl (fun b i => if far K i b then some i else b) a := by
    intro L
    induction L with
    | nil => intro a; rfl
    | cons i L ih =>
      intro a
      rw [List.foldl_cons, ih, pick_def]
      cases hc : cov (gk K i) h with
      | true => rw [List.filter_cons_of_pos (p := fun i => cov (gk K i) h) hc, List.foldl_cons, Bool.true_and]
      | false => rw [List.filter_cons_of_neg (p := fun i => cov (gk K i) h) (by simp [hc]), Bool.false_and, if_neg (by decide)]
  exact this _ _
theorem best_nil {K : List Kd} {h : Int} (e : there K h = []) : best K h = none := by rw [best_there, e]; rfl
theorem best_cons {K : List Kd} {h : Int} {a : Nat} {r : List Nat} (e : there K h = a :: r) : best K h = some (bst K a (a :: r)) := by
  have : ∀ (L : List Nat) (a : Nat), L.foldl (fun b i => if far K i b then some i else b) (some a) = some (bst K a L) := by
    intro L
    induction L with
    | nil => intro a; rfl
    | cons i L ih =>
      intro a
      rw [List.foldl_cons]
      have hf : far K i (some a) = decide ((gk K a).2 < (gk K i).2) := rfl
      rw [hf]
      unfold bst
      rw [List.foldl_cons]
      by_cases c : (gk K a).2 < (gk K i).2
      · rw [decide_eq_true c, if_pos rfl, if_pos c]; exact ih i
      · rw [decide_eq_false c, if_neg (by decide), if_neg c]; exact ih a
  rw [best_there, e, List.foldl_cons]
  have h1 : far K a none = true := rfl
  rw [h1, if_pos rfl, this]
  unfold bst
  rw [List.foldl_cons, if_neg (by omega)]
theorem sm_there {p : Kd → Bool} : ∀ {K : List Kd} {X : List Int}, X.length = K.length → (((List.range K.length).filter fun i => p (gk K i)).map fun i => X.getD i 0).sum = sm p K X
  | [], X, _ => by cases X <;> rfl
  | k :: K, [], h => by simp at h
  | k :: K, x :: X, h => by
    have ih := sm_there (p := p) (K := K) (X := X) (by simpa using h)
    rw [List.length_cons, List.range_succ_eq_map]
    have h2 : ((List.map Nat.succ (List.range K.length)).filter fun i => p (gk (k :: K) i)).map (fun i => (x :: X).getD i 0) = ((List.range K.length).filter fun i => p (gk K i)).map fun i => X.getD i 0 := by
      rw [List.filter_map, List.map_map]
      rfl
    have hg : gk (k :: K) 0 = k := rfl
    simp only [sm]
    cases hp : p k with
    | true =>
      rw [List.filter_cons_of_pos (by rw [hg]; exact hp), List.map_cons, List.sum_cons, h2, ih]
      simp
    | false =>
      rw [List.filter_cons_of_neg (by rw [hg]; simp [hp]), h2, ih]
      simp
theorem there_lt {K : List Kd} {h : Int} {i : Nat} (hi : i ∈ there K h) : i < K.length := List.mem_range.mp (List.mem_filter.mp hi).1
theorem ltold_sp {n : Nat} {K : List Kd} {B : List Int} (hK : okK K B.length) : Sp (sem false D (n + 1)) 13 [⟨false, .st, .lst (B.map Val.int)⟩, ⟨false, .st, .tup (K.map pv)⟩] fun m v _ => (told K B B.length = none ∧ m = .st ∧ v = .non) ∨ ∃ X P, told K B B.length = some (X, P) ∧ m = mkG ∧ v = .tup [.lst (X.map Val.int), .lst (P.map Val.int)] := by
  refine sp_run (d := d13) rfl rfl (by repeat constructor) ?_
  have sz := szL
  have hKl := hK.l
  have hBl := hK.n
  have hsm := sm_of (n := B.length) (by omega)
  have hsk := sm_of (n := K.length) (by omega)
  unfold d13 c13
  and_intros
  refine wK_M (X := K) (f := pv) (fun _ => Val.int 0) (own1 rfl rfl) (by omega) (by array_get_dec) ?_ ?_
  · intro k hk
    and_intros
    exact ⟨rfl, by array_get_dec⟩
  rw [show (K.map fun _ => Val.int 0) = (List.replicate K.length (0 : Int)).map Val.int from by rw [List.map_replicate, List.map_const']]
  and_intros
  refine wF_rg (n := B.length) (f := nv) (fun h e => ∃ (X P : List Int) (s4 s5 s6 s8 s9 : Sh.Slot), told K B h = some (X, P) ∧ npS s4 = true ∧ npS s5 = true ∧ npS s6 = true ∧ npS s8 = true ∧ npS s9 = true ∧ e = [.val false .st (.lst (B.map Val.int)), .val false .st (.tup (K.map pv)), .val false (.l .st) (.lst (X.map Val.int)), .val false (.l .st) (.lst (P.map Val.int)), s4, s5, s6, .emp, s8, s9]) ⟨_, [], .emp, .emp, .emp, .emp, .emp, rfl, rfl, rfl, rfl, rfl, rfl, rfl⟩ ?_ ?_
  · rintro h e hh ⟨X, P, s4, s5, s6, s8, s9, hT, n4, n5, n6, n8, n9, rfl⟩
    have ok := told_ok hT
    have hat2 := int_at (X := B) (i := h) hh
    have hPz : (P.map Val.int).length < sizeLine := by rw [List.length_map]; have := ok.pl; omega
    have hst : told K B (h + 1) = put1 K B h (X, P) := by
      show (told K B h).bind (put1 K B h) = _
      rw [hT]; rfl
    have hp1 : put1 K B h (X, P) = if 0 < B.getD h 0 - sm (cov · (h : Int)) K X then (best K (h : Int)).map fun b => (X.set b (X.getD b 0 + (B.getD h 0 - sm (cov · (h : Int)) K X)), P ++ [(h : Int)]) else some (X, P) := rfl
    have hsum := sm_there (p := fun k => cov k (h : Int)) ok.len
    have hthl : (there K (h : Int)).length ≤ K.length := by
      have := List.length_filter_le (fun i => cov (gk K i) (h : Int)) (List.range K.length)
      rw [List.length_range] at this
      exact this
    and_intros
    refine wK_F (X := List.range K.length) (f := nv) (fun i => cov (gk K i) (h : Int)) nv (own1 rfl n9) (by rw [List.length_range]; omega) (by array_get_dec) ?_ ?_
    · intro i hi
      have hi := List.mem_range.mp hi
      have hat := gk_at hi
      have e0 : pv (gk K i) = .tup [.int (gk K i).1, .int (gk K i).2] := rfl
      have g0 : L2.atI [Val.int (gk K i).1, .int (gk K i).2] 0 = some (.int (gk K i).1) := rfl
      have g1 : L2.atI [Val.int (gk K i).1, .int (gk K i).2] 1 = some (.int (gk K i).2) := rfl
      rw [e0] at hat
      and_intros
      refine wE_chn ?_
      and_intros
      refine ⟨_, _, _, _, rfl, rfl, cp_leI ?_⟩
      refine br_dec (fun a => ?_) fun a => ?_
      · and_intros
        refine ⟨_, _, rfl, cp_ltI ?_⟩
        and_intros
        refine br_dec (fun b => ?_) fun b => ?_
        · and_intros
          exact ⟨cov_iff.mpr ⟨a, b⟩, rfl, by array_get_dec⟩
        · and_intros
          exact ⟨by unfold cov; rw [decide_eq_false b, Bool.and_false], by array_get_dec⟩
      · and_intros
        exact ⟨by unfold cov; rw [decide_eq_false a]; rfl, by array_get_dec⟩
    rw [show (List.range K.length).filter (fun i => cov (gk K i) (h : Int)) = there K (h : Int) from rfl] at hsum ⊢
    and_intros
    refine wK_M (X := there K (h : Int)) (f := nv) (fun i => Val.int (X.getD i 0)) (own1 rfl n9) (by omega) (by array_get_dec) ?_ ?_
    · intro i hi
      have hat := int_at (X := X) (i := i) (by rw [ok.len]; exact there_lt hi)
      and_intros
      exact ⟨rfl, by array_get_dec⟩
    rw [show (there K (h : Int)).map (fun i => Val.int (X.getD i 0)) = ((there K (h : Int)).map fun i => X.getD i 0).map Val.int from by rw [List.map_map]; rfl]
    and_intros
    rw [hsum]
    generalize hsd : B.getD h 0 - sm (cov · (h : Int)) K X = sh at hp1 ⊢
    have hbn := fun e => best_nil (K := K) (h := (h : Int)) e
    have hbc := fun a r e => best_cons (K := K) (h := (h : Int)) (a := a) (r := r) e
    have hlt : ∀ i ∈ there K (h : Int), i < K.length := fun i hi => there_lt hi
    generalize there K (h : Int) = T at hbn hbc hlt hthl ⊢
    refine wX_iff ?_
    and_intros
    refine br_dec (fun c => ?_) fun c => ?_
    · rw [if_pos (show 0 < sh by omega)] at hp1
      cases T with
      | nil =>
        rw [hbn rfl] at hp1
        have : told K B B.length = none := told_none (hst.trans hp1) (by omega)
        and_intros
        exact .inl ⟨this, rfl, rfl⟩
      | cons a r =>
        rw [hbc a r rfl] at hp1
        have g0 : L2.atI ((a :: r).map nv) 0 = some (nv a) := show L2.atI ((a :: r).map nv) ((0 : Nat) : Int) = _ from at_getD (f := nv) (d := 0) (k := 0) (by simp)
        have hne : decide ((a :: r).length = 0) = false := decide_eq_false (by simp)
        have hbm : ∀ d : List Nat, (∀ i ∈ d, i < K.length) → bst K a d < K.length := by
          have : ∀ (d : List Nat) (a : Nat), a < K.length → (∀ i ∈ d, i < K.length) → bst K a d < K.length := by
            intro d
            induction d with
            | nil => intro a ha _; exact ha
            | cons i d ih =>
              intro a ha hd
              unfold bst
              rw [List.foldl_cons]
              split
              · exact ih i (hd i List.mem_cons_self) fun x hx => hd x (List.mem_cons_of_mem _ hx)
              · exact ih a ha fun x hx => hd x (List.mem_cons_of_mem _ hx)
          exact fun d hd => this d a (hlt a List.mem_cons_self) hd
        and_intros
        refine br_dec (fun _ => ?_) fun c2 => absurd c c2
        and_intros
        refine wF_iv (X := a :: r) (f := nv) (fun d e => ∃ s9 : Sh.Slot, npS s9 = true ∧ e = [.val false .st (.lst (B.map Val.int)), .val false .st (.tup (K.map pv)), .val false (.l .st) (.lst (X.map Val.int)), .val false (.l .st) (.lst (P.map Val.int)), .val false .st (nv h), .val false .st (.lst ((a :: r).map nv)), .val false .st (.int sh), .emp, .val false .st (nv (bst K a d)), s9]) ⟨s9, n9, rfl⟩ ?_ ?_
        · rintro d i rest e hd ⟨s9, n9, rfl⟩
          have hi : i < K.length := hlt i (by rw [hd]; simp)
          have hb : bst K a d < K.length := hbm d fun x hx => hlt x (by rw [hd]; simp [hx])
          have hat := gk_at hi
          have hat2 := gk_at hb
          have e0 : ∀ i, pv (gk K i) = .tup [.int (gk K i).1, .int (gk K i).2] := fun _ => rfl
          have g1 : L2.atI [Val.int (gk K i).1, .int (gk K i).2] 1 = some (.int (gk K i).2) := rfl
          have g2 : L2.atI [Val.int (gk K (bst K a d)).1, .int (gk K (bst K a d)).2] 1 = some (.int (gk K (bst K a d)).2) := rfl
          rw [e0] at hat hat2
          rw [bst_snoc]
          generalize bst K a d = b at *
          and_intros
          refine br_dec (fun c => ?_) fun c => ?_
          · rw [if_pos c]
            and_intros
            exact ⟨.val false .st (nv i), rfl, rfl⟩
          · rw [if_neg c]
            and_intros
            exact ⟨.val false .st (nv i), rfl, rfl⟩
        · rintro e ⟨s9, n9, rfl⟩
          have hb := hbm (a :: r) hlt
          generalize bst K a (a :: r) = b at hb hp1 ⊢
          have hat3 := int_at (X := X) (i := b) (by rw [ok.len]; exact hb)
          have hix : L2.ixN X.length (b : Int) = some b := ixN_natI (by rw [ok.len]; exact hb)
          and_intros
          exact ⟨X.set b (X.getD b 0 + sh), P ++ [(h : Int)], .val false .st (nv h), .val false .st (.lst ((a :: r).map nv)), .val false .st (.int sh), .val false .st (nv b), s9, hst.trans hp1, rfl, rfl, rfl, rfl, n9, by rw [List.map_append]; rfl⟩
    · rw [if_neg (show ¬ 0 < sh by omega)] at hp1
      and_intros
      refine br_dec (fun c2 => absurd c2 c) fun _ => ?_
      and_intros
      exact ⟨X, P, .val false .st (nv h), .val false .st (.lst (T.map nv)), .val false .st (.int sh), s8, s9, hst.trans hp1, rfl, rfl, rfl, n8, n9, rfl⟩
  · rintro e ⟨X, P, s4, s5, s6, s8, s9, hT, n4, n5, n6, n8, n9, rfl⟩
    and_intros
    refine ⟨⟨by show 2 ≤ sizeLine; omega, ?_⟩⟩
    and_intros
    exact .inr ⟨X, P, hT, rfl, rfl⟩
theorem lmeet_sp {n : Nat} {K : List Kd} {a b : Int} (hl : K.length ≤ 1000) (hab : a ≤ b) : ∃ fe, sem false D (n + 1) 14 [⟨false, .st, .tup (K.map pv)⟩, ⟨false, .st, .int a⟩, ⟨false, .st, .int b⟩] = .ret .st (.bl (meet K a b)) fe := by
  refine Sp.rt (sp_run (d := d14) rfl rfl (by repeat constructor) ?_)
  have sz := szL
  unfold d14 c14
  and_intros
  refine wK_M (X := K) (f := pv) (fun k => Val.bl (decide (k.1 ≤ a) && decide (b < k.2))) (own1 rfl rfl) (by omega) (by array_get_dec) ?_ ?_
  · intro k hk
    have e0 : pv k = .tup [.int k.1, .int k.2] := rfl
    have g0 : L2.atI [Val.int k.1, .int k.2] 0 = some (.int k.1) := rfl
    have g1 : L2.atI [Val.int k.1, .int k.2] 1 = some (.int k.2) := rfl
    rw [e0]
    and_intros
    refine br_dec (fun c => ?_) fun c => ?_
    · and_intros
      exact ⟨by rw [decide_eq_true c, Bool.true_and], by array_get_dec⟩
    · and_intros
      exact ⟨by rw [decide_eq_false c, Bool.false_and], by array_get_dec⟩
  rw [show (K.map fun k : Kd => Val.bl (decide (k.1 ≤ a) && decide (b < k.2))) = (K.map fun k : Kd => decide (k.1 ≤ a) && decide (b < k.2)).map Val.bl from by rw [List.map_map]; rfl]
  and_intros
  refine cp_inB ?_
  rw [List.any_map]
  and_intros
  exact ⟨rfl, by rw [meet_law hab]; rfl⟩
theorem ltapart_sp {n : Nat} {K : List Kd} {P : List Int} (hl : K.length ≤ 1000) (hPl : P.length ≤ 1000) (hasc : P.Pairwise (· < ·)) : ∃ fe, sem false D (n + 2) 15 [⟨false, .st, .tup (K.map pv)⟩, ⟨false, .st, .lst (P.map Val.int)⟩] = .ret .st (.tup ((apF K P.reverse).map Val.int)) fe := by
  refine Sp.rt (sp_run (d := d15) rfl rfl (by repeat constructor) ?_)
  have sz := szL
  have hsm := sm_of (n := P.length) (by omega)
  unfold d15 c15
  and_intros
  refine wF_rg (n := P.length) (f := nv) (fun k e => ∃ s3 s4 : Sh.Slot, npS s3 = true ∧ npS s4 = true ∧ e = [.val false .st (.tup (K.map pv)), .val false .st (.lst (P.map Val.int)), .val false (.l .st) (.lst ((apF K (P.reverse.take k)).map Val.int)), s3, s4]) ⟨.emp, .emp, rfl, rfl, rfl⟩ ?_ ?_
  · rintro k e hk ⟨s3, s4, n3, n4, rfl⟩
    have hkr : k < P.reverse.length := by rw [List.length_reverse]; exact hk
    obtain ⟨x, hx⟩ : ∃ x, P.reverse[k]? = some x := ⟨P.reverse[k], List.getElem?_eq_getElem hkr⟩
    have htk : P.reverse.take (k + 1) = P.reverse.take k ++ [x] := by rw [List.take_add_one, hx]; rfl
    have hat : L2.atI (P.map Val.int) (-1 - (k : Int)) = some (.int x) := by
      rw [List.getElem?_reverse hk] at hx
      show (L2.ixN (P.map Val.int).length (-1 - (k : Int))).bind (fun j => (P.map Val.int)[j]?) = _
      have hix : L2.ixN (P.map Val.int).length (-1 - (k : Int)) = some (P.length - 1 - k) := by
        rw [List.length_map]
        unfold L2.ixN
        rw [if_neg (by omega), if_pos (by omega)]
        refine congrArg some ?_
        omega
      rw [hix]
      show (P.map Val.int)[P.length - 1 - k]? = _
      rw [List.getElem?_map, hx]; rfl
    have hle : ∀ t ∈ apF K (P.reverse.take k), x ≤ t := fun t ht => by
      have h1 := apF_mem ht
      have h2 : P.reverse.Pairwise (· > ·) := List.pairwise_reverse.mpr hasc
      obtain ⟨i, hi, e1⟩ := List.mem_take_iff_getElem.mp h1
      have h3 := List.pairwise_iff_getElem.mp h2 i k (by omega) hkr (by omega)
      rw [List.getElem?_eq_getElem hkr] at hx
      cases hx
      rw [e1] at h3
      omega
    have hal := apF_len (K := K) (P.reverse.take k)
    rw [List.length_take] at hal
    rw [htk, apF_snoc]
    generalize apF K (P.reverse.take k) = L at hal hle ⊢
    have hLz : (L.map Val.int).length < sizeLine := by simp; omega
    and_intros
    refine wX_iff ?_
    cases L with
    | nil =>
      and_intros
      exact ⟨.val false .st (nv k), .val false .st (.int x), rfl, rfl, rfl⟩
    | cons t T =>
      have g0 : L2.atI ((t :: T).map Val.int) 0 = some (.int t) := show L2.atI ((t :: T).map Val.int) ((0 : Nat) : Int) = _ from at_getD (f := Val.int) (d := 0) (k := 0) (by simp)
      have hcl := lmeet_sp (n := n) (K := K) (a := x) (b := t) hl (hle t List.mem_cons_self)
      have hne : decide ((t :: T).length = 0) = false := decide_eq_false (by simp)
      rw [apS_cons]
      and_intros
      refine cc_rt hcl rfl fun fe => ?_
      cases hm : meet K x t with
      | true =>
        and_intros
        exact ⟨.val false .st (nv k), .val false .st (.int x), rfl, rfl, rfl⟩
      | false =>
        and_intros
        exact ⟨.val false .st (nv k), .val false .st (.int x), rfl, rfl, rfl⟩
  · rintro e ⟨s3, s4, n3, n4, rfl⟩
    rw [List.take_of_length_le (by simp)]
    have hal := apF_len (K := K) P.reverse
    rw [List.length_reverse] at hal
    generalize apF K P.reverse = L at hal ⊢
    have hLz : (L.map Val.int).length ≤ sizeLine := by simp; omega
    and_intros
    exact ⟨rfl, rfl⟩

open Sh
open PySem PySem.Spec PyProof.Rows L2
/-! ## k53: drawn demands and kinds; the law -/

theorem bi_pow {m m' : Mk} {i j : Int} {e : En} {Q : Sh.Arg → En → Prop} (h : 0 ≤ j ∧ j ≤ 1000000 ∧ i.natAbs < 2 ^ 64) (q : Q (.tmp .st (.int (i ^ j.toNat))) e) : Sh.bi .pow m (.int i) m' (.int j) e Q := ⟨(.st, .int (i ^ j.toNat)), by simp only [binV, h, and_self, if_true], q⟩
theorem ps_frzp {c : Calls} {i : Nat} {p fl : Bool} {m m0 m1 : Mk} {v w : Val} {md : List Md} {as : List Sh.Arg} {e e' : En} {L : List (DA × Bk) → En → Prop} (hf : fl = true) (h0 : e[i]? = some (.val p m w)) (hl : m0 = .st ∨ (m0 = .l .st ∧ m.isL = true)) (u : Up e i (.val p m0 w) e') (h : Sh.ps (fl && false) md as e' fun l e1 => L ((⟨false, .st, v⟩, .no) :: l) e1) : Sh.ps fl (.frz :: md) (.part i m0 m1 v :: as) e L := by
  obtain ⟨l, e1, h1, q⟩ := h
  subst hf
  have h1 : passN false md as e' = .ok l e1 := h1
  exact ⟨_, _, by simp only [passN, isPart, Bool.not_true, Bool.and_false, Bool.false_eq_true, if_false, pass1, frzA, h0, hl, if_true, u.eq, Res.bind, isTmp, h1], q⟩
theorem tk_ {n : Nat} {ds : List Int} {z : Int} (hz : 0 < z) : Sp (sem false D (n + 1)) 7 [⟨true, .l .st, ints' ds⟩, ⟨false, .st, .int z⟩] fun m' v fe => ∃ (r : Nat) (ds' : List Int), (r : Int) < z ∧ m' = .st ∧ v = .int (r : Int) ∧ fe = [.val true (.l .st) (ints' ds'), .val false .st (.int z)] := take_z rfl hz
theorem plain_tup {n : Nat} {xs : List Val} (h : ∀ x ∈ xs, plainD n x = true) (hl : xs.length ≤ 100000) : plainD (n + 1) (.tup xs) = true := by
  simp only [plainD]
  rw [Bool.and_eq_true]
  exact ⟨List.all_eq_true.mpr h, decide_eq_true hl⟩
theorem same_ints (n : Nat) {X : List Int} (h : X.length ≤ 1000) : ∃ fe, sem false D (n + 2) 8 [⟨false, .st, .tup (X.map Val.int)⟩, ⟨false, .st, .tup (X.map Val.int)⟩] = .ret .st (.bl true) fe := same_refl rfl (n + 2) (.tup (X.map Val.int)) (plain_tup (fun x hx => by
  obtain ⟨p, _, rfl⟩ := List.mem_map.mp hx
  rfl) (by rw [List.length_map]; omega))
theorem right_sp {n : Nat} {K : List Kd} {B : List Int} (hK : okK K B.length) : ∃ fe, sem false D (n + 6) 16 [⟨false, .st, .lst (B.map Val.int)⟩, ⟨false, .st, .tup (K.map pv)⟩] = .ret .st (.bl true) fe := by
  refine Sp.rt (sp_run (d := d16) rfl rfl (by repeat constructor) ?_)
  have sz := szL
  have hKl := hK.l
  have hBl := hK.n
  have hBz : (B.map Val.int).length ≤ sizeLine := by rw [List.length_map]; omega
  have q1 := cover_sp (n := n + 1) hK
  have q2 := apart_sp (n := n + 1) hK
  unfold d16 c16
  and_intros
  refine cc_sp (ltold_sp (n := n + 4) hK) rfl ?_
  rintro _ _ _ (⟨hT, rfl, rfl⟩ | ⟨X, P, hT, rfl, rfl⟩)
  · rw [hT] at q1 q2
    and_intros
    refine cc_rt q1 rfl fun fe => ?_
    and_intros
    refine cc_rt q2 rfl fun fe => ?_
    and_intros
    exact ⟨rfl, rfl⟩
  · have ok := told_ok hT
    have hXl := ok.len
    have hPl := ok.pl
    rw [hT] at q1 q2
    have e1 : listV ((some (X, P)).map (·.1)) = .tup (X.map Val.int) := rfl
    have e2 : listV ((some (X, P)).map fun s => apF K s.2.reverse) = .tup ((apF K P.reverse).map Val.int) := rfl
    rw [e1] at q1
    rw [e2] at q2
    have hal := apF_len (K := K) P.reverse
    rw [List.length_reverse] at hal
    have q3 := ltapart_sp (n := n + 3) (K := K) (P := P) hKl (by omega) ok.asc
    have q4 := same_ints (n + 3) (X := X) (by omega)
    have q5 := same_ints (n + 3) (X := apF K P.reverse) (by omega)
    have hXz : (X.map Val.int).length ≤ sizeLine := by rw [List.length_map]; omega
    and_intros
    refine cc_rt q1 rfl fun fe => ?_
    and_intros
    refine ixx_slott (j := 0) rfl rfl rfl rfl rfl (by decide) ?_
    and_intros
    refine cc_rt q4 rfl fun fe => ?_
    and_intros
    refine cc_rt q2 rfl fun fe => ?_
    and_intros
    refine ixx_slott (j := 1) rfl rfl rfl rfl rfl (by decide) ?_
    and_intros
    refine ps_frzp (c := sem false D n) rfl rfl (.inl rfl) (by array_get_dec) ?_
    and_intros
    refine cc_rt q3 rfl fun fe => ?_
    and_intros
    refine cc_rt q5 rfl fun fe => ?_
    and_intros
    exact ⟨rfl, rfl⟩
theorem size_sp {n M : Nat} {ns ds : List Int} (h70 : 2 ^ 70 ≤ M) (hns : ∀ x ∈ ns, x.natAbs < M) : Sp (sem false D (n + 2)) 9 [⟨true, .l .st, ints' ds⟩, ⟨false, .st, ints' ns⟩] fun m v fe => ∃ (z : Int) (ds' : List Int) (fe' : En), (0 ≤ z ∧ z + 1 < 2 * (M : Int)) ∧ m = .st ∧ v = .int z ∧ fe = .val true (.l .st) (ints' ds') :: fe' := by
  refine sp_run (d := d9) rfl rfl (by repeat constructor) ?_
  unfold d9 c9
  and_intros
  refine cc_sp (tk_ (n := n) (by decide)) rfl ?_
  rintro _ _ _ ⟨r1, ds, hr1, rfl, rfl, rfl⟩
  and_intros
  refine cc_sp (tk_ (n := n) (by decide)) rfl ?_
  rintro _ _ _ ⟨r2, ds, hr2, rfl, rfl, rfl⟩
  and_intros
  refine br_join (fun e => ∃ (ds : List Int) (z : Int), (0 ≤ z ∧ z < (M : Int) ∧ (r2 ≠ 0 → z < 4)) ∧ e = [.val true (.l .st) (ints' ds), .val false .st (ints' ns), .val false .st (.int z), .val false .st (nv r2)]) ?_ ?_
  · refine br_dec (fun c => ?_) fun c => ?_
    · and_intros
      refine cc_sp (tk_ (n := n) (by decide)) rfl ?_
      rintro _ _ _ ⟨r3, ds, hr3, rfl, rfl, rfl⟩
      and_intros
      refine bi_pow (by decide) ?_
      have hmo : mulOk (1 + (r3 : Int)) (10 ^ (15 : Int).toNat) = true := by
        have : smallI (1 + (r3 : Int)) = true := by unfold smallI; exact decide_eq_true (by omega)
        unfold mulOk; rw [this]; rfl
      have hnn : 0 ≤ (1 + (r3 : Int)) * 10 ^ (15 : Int).toNat ∧ (1 + (r3 : Int)) * 10 ^ (15 : Int).toNat ≤ 1000000000000000000 := by
        have : (10 : Int) ^ (15 : Int).toNat = 1000000000000000 := by decide
        rw [this]; omega
      and_intros
      generalize (1 + (r3 : Int)) * 10 ^ (15 : Int).toNat = y at hnn
      have c' : r2 = 0 := c
      exact ⟨ds, (r1 : Int) + y, ⟨by omega, by omega, fun hx => absurd c' hx⟩, rfl⟩
    · and_intros
      exact ⟨ds, _, ⟨by omega, by omega, fun _ => by omega⟩, rfl⟩
  rintro e ⟨ds, z, hz, rfl⟩
  and_intros
  refine wX_join (fun e => ∃ (ds : List Int) (z : Int), (0 ≤ z ∧ z + 1 < 2 * (M : Int)) ∧ e = [.val true (.l .st) (ints' ds), .val false .st (ints' ns), .val false .st (.int z), .val false .st (nv r2)]) ?_ ?_
  · refine wX_iff ?_
    and_intros
    refine br_dec (fun c => ?_) fun c => ?_
    · and_intros
      refine br_dec (fun c2 => ?_) fun c2 => ?_
      · and_intros
        refine cc_sp (tk_ (n := n) (z := (ns.length : Int)) (by omega)) rfl ?_
        rintro _ _ _ ⟨r4, ds, hr4, rfl, rfl, rfl⟩
        have hat := int_at (X := ns) (i := r4) (by omega)
        have hb := hns (ns.getD r4 0) (by
          rw [List.getD_eq_getElem?_getD, List.getElem?_eq_getElem (show r4 < ns.length by omega)]
          exact List.getElem_mem _)
        and_intros
        have hz4 := hz.2.2 (by have c' : r2 = 1 := c; omega)
        exact ⟨ds, _, by omega, rfl⟩
      · and_intros
        exact ⟨ds, _, ⟨hz.1, by omega⟩, rfl⟩
    · and_intros
      exact ⟨ds, _, ⟨hz.1, by omega⟩, rfl⟩
  rintro e ⟨ds, z, hz, rfl⟩
  and_intros
  exact ⟨z, ds, _, hz, rfl, rfl, rfl⟩
theorem kinds_sp {n : Nat} {ds : List Int} {N many : Nat} (hN : 0 < N) (hNl : N ≤ 1000) (hm : many ≤ 1000) : Sp (sem false D (n + 2)) 10 [⟨true, .l .st, ints' ds⟩, ⟨false, .st, .int (N : Int)⟩, ⟨false, .st, .int (many : Int)⟩] fun m v fe => ∃ (K : List Kd) (ds' : List Int) (fe' : En), okK K N ∧ m = .st ∧ v = .tup (K.map pv) ∧ fe = .val true (.l .st) (ints' ds') :: fe' := by
  refine sp_run (d := d10) rfl rfl (by repeat constructor) ?_
  have sz := szL
  have hsm := sm_of (n := many) (by omega)
  unfold d10 c10
  and_intros
  refine cc_sp (tk_ (n := n) (by decide)) rfl ?_
  rintro _ _ _ ⟨r1, ds, hr1, rfl, rfl, rfl⟩
  obtain ⟨lg, hlg, hat⟩ : ∃ lg : Int, 0 < lg ∧ L2.atI [Val.int 1, .int 3, .int 9, .int 400] (r1 : Int) = some (.int lg) := by
    have : r1 = 0 ∨ r1 = 1 ∨ r1 = 2 ∨ r1 = 3 := by omega
    rcases this with rfl | rfl | rfl | rfl
    · exact ⟨1, by decide, rfl⟩
    · exact ⟨3, by decide, rfl⟩
    · exact ⟨9, by decide, rfl⟩
    · exact ⟨400, by decide, rfl⟩
  and_intros
  refine wF_rg (n := many) (f := nv) (fun k e => ∃ (ds : List Int) (K : List Kd) (s5 s6 s7 : Sh.Slot), (∀ k ∈ K, 0 ≤ k.1 ∧ k.1 < k.2 ∧ k.2 ≤ (N : Int)) ∧ K.length = k ∧ npS s5 = true ∧ npS s6 = true ∧ npS s7 = true ∧ e = [.val true (.l .st) (ints' ds), .val false .st (.int (N : Int)), .val false .st (.int (many : Int)), .val false (.l .st) (.lst (K.map pv)), .val false .st (.int lg), s5, s6, s7]) ⟨ds, [], .emp, .emp, .emp, by simp, rfl, rfl, rfl, rfl, rfl⟩ ?_ ?_
  · rintro k e hk ⟨ds, K, s5, s6, s7, hK, hKl, n5, n6, n7, rfl⟩
    have hz : (K.map pv).length < sizeLine := by rw [List.length_map]; omega
    and_intros
    refine cc_sp (tk_ (n := n) (by omega)) rfl ?_
    rintro _ _ _ ⟨b, ds, hb, rfl, rfl, rfl⟩
    and_intros
    refine cc_sp (tk_ (n := n) (z := if (N : Int) - (b : Int) < lg then (N : Int) - (b : Int) else lg) (by split <;> omega)) rfl ?_
    rintro _ _ _ ⟨w, ds, hw, rfl, rfl, rfl⟩
    have hw2 : (w : Int) < (N : Int) - (b : Int) := by
      split at hw <;> omega
    and_intros
    refine wX_join (fun e => ∃ (ds : List Int) (p q : Int), 0 ≤ p ∧ p < q ∧ q ≤ (N : Int) ∧ e = [.val true (.l .st) (ints' ds), .val false .st (.int (N : Int)), .val false .st (.int (many : Int)), .val false (.l .st) (.lst (K.map pv)), .val false .st (.int lg), .val false .st (nv k), .val false .st (.int p), .val false .st (.int q)]) ?_ ?_
    · refine wX_iff ?_
      and_intros
      refine br_dec (fun c => ?_) fun c => ?_
      · and_intros
        refine cc_sp (tk_ (n := n) (by decide)) rfl ?_
        rintro _ _ _ ⟨r4, ds, hr4, rfl, rfl, rfl⟩
        and_intros
        refine br_dec (fun c4 => ?_) fun c4 => ?_
        · have hne : K ≠ [] := fun q => by rw [q] at c; simp at c
          have hkl := hK _ (List.getLast_mem hne)
          have hat3 : L2.atI (K.map pv) (-1) = some (.tup [.int (K.getLast hne).1, .int (K.getLast hne).2]) := by
            have e0 : K = K.dropLast ++ [K.getLast hne] := (List.dropLast_concat_getLast hne).symm
            generalize K.getLast hne = x at e0
            rw [e0, List.map_append]
            exact L2.atI_last _ _
          generalize K.getLast hne = x at hkl hat3
          have g0 : L2.atI [Val.int x.1, .int x.2] 0 = some (.int x.1) := rfl
          have g1 : L2.atI [Val.int x.1, .int x.2] 1 = some (.int x.2) := rfl
          and_intros
          refine cc_sp (tk_ (n := n) (by decide)) rfl ?_
          rintro _ _ _ ⟨r3, ds, hr3, rfl, rfl, rfl⟩
          and_intros
          refine br_dec (fun c5 => ?_) fun c5 => ?_
          · and_intros
            exact ⟨ds, x.1, x.2, hkl.1, hkl.2.1, hkl.2.2, rfl⟩
          · and_intros
            exact ⟨ds, _, x.2, by split <;> omega, by split <;> omega, hkl.2.2, rfl⟩
        · and_intros
          exact ⟨ds, _, _, by omega, by omega, by omega, rfl⟩
      · and_intros
        exact ⟨ds, _, _, by omega, by omega, by omega, rfl⟩
    rintro e ⟨ds, p, q, h1, h2, h3, rfl⟩
    and_intros
    refine ⟨ds, K ++ [(p, q)], .val false .st (nv k), .val false .st (.int p), .val false .st (.int q), fun x hx => ?_, by simp; omega, rfl, rfl, rfl, by rw [List.map_append]; rfl⟩
    rcases List.mem_append.mp hx with hx | hx
    · exact hK x hx
    · have : x = (p, q) := by simpa using hx
      rw [this]
      exact ⟨h1, h2, h3⟩
  · rintro e ⟨ds, K, s5, s6, s7, hK, hKl, n5, n6, n7, rfl⟩
    have hz : (K.map pv).length ≤ sizeLine := by rw [List.length_map]; omega
    and_intros
    exact ⟨K, ds, _, ⟨hK, by omega, hNl⟩, rfl, rfl, rfl⟩

open Sh
open PySem PySem.Spec PyProof.Rows L2
/-! ## k53: the drawn demand -/

theorem big_of {E : Nat} (h70 : 70 ≤ E) (hE : E ≤ 1048576) {ns : List Int} (hb : ∀ z ∈ ns, PySem.Builtin.Int.intBits z ≤ E) : ∃ M : Nat, 2 ^ 70 ≤ M ∧ (∀ x ∈ ns, x.natAbs < M) ∧ ∀ i j : Int, i.natAbs < 2 * M → j.natAbs < 2 * M → mulOk i j = true := by
  have hpos : 0 < 2 ^ E := Nat.pow_pos (by decide)
  have hlog : ∀ k : Nat, k < 2 * 2 ^ E → k.log2 ≤ E := fun k hk => by
    by_cases h0 : k = 0
    · rw [h0]; exact Nat.zero_le _
    · have : k.log2 < E + 1 := (Nat.log2_lt h0).mpr (by rw [Nat.pow_succ]; omega)
      omega
  refine ⟨2 ^ E, Nat.pow_le_pow_right (by decide) h70, fun x hx => ?_, fun i j hi hj => ?_⟩
  · have h := hb x hx
    unfold PySem.Builtin.Int.intBits at h
    by_cases h0 : x = 0
    · rw [h0]; exact hpos
    · have hx0 : (x == 0) = false := by simpa using h0
      rw [hx0] at h
      have h : x.natAbs.log2 + 1 ≤ E := h
      exact (Nat.log2_lt (by omega)).mp (by omega)
  · have h1 := hlog _ hi
    have h2 := hlog _ hj
    unfold mulOk
    rw [decide_eq_true (show ((i.natAbs.log2 + j.natAbs.log2 : Nat) : Int) < 100000000 by omega), Bool.or_true]
theorem demand_sp {n M N : Nat} {ns ds : List Int} (h70 : 2 ^ 70 ≤ M) (hns : ∀ x ∈ ns, x.natAbs < M) (hmul : ∀ i j : Int, i.natAbs < 2 * M → j.natAbs < 2 * M → mulOk i j = true) (hN : N ≤ 1000) : Sp (sem false D (n + 3)) 11 [⟨true, .l .st, ints' ds⟩, ⟨false, .st, ints' ns⟩, ⟨false, .st, .int (N : Int)⟩] fun m v fe => ∃ (B ds' : List Int) (fe' : En), B.length = N ∧ m = .l .st ∧ v = .lst (B.map Val.int) ∧ fe = .val true (.l .st) (ints' ds') :: fe' := by
  refine sp_run (d := d11) rfl rfl (by repeat constructor) ?_
  have sz := szL
  have hsm := sm_of (n := N) (by omega)
  unfold d11 c11
  and_intros
  refine cc_sp (tk_ (n := n + 1) (by decide)) rfl ?_
  rintro _ _ _ ⟨r1, ds, hr1, rfl, rfl, rfl⟩
  and_intros
  generalize hw : decide (r1 = 0) = w
  clear hw
  refine wF_rg (n := N) (f := nv) (fun h e => ∃ (ds B : List Int) (s5 s6 : Sh.Slot), B.length = h ∧ (∀ x ∈ B, 0 ≤ x ∧ x < 2 * (M : Int)) ∧ npS s5 = true ∧ npS s6 = true ∧ e = [.val true (.l .st) (ints' ds), .val false .st (ints' ns), .val false .st (.int (N : Int)), .val false .st (.bl w), .val false (.l .st) (.lst (B.map Val.int)), s5, s6, .emp, .emp, .emp]) ⟨ds, [], .emp, .emp, rfl, by simp, rfl, rfl, rfl⟩ ?_ ?_
  · rintro h e hh ⟨ds, B, s5, s6, hB, hBm, n5, n6, rfl⟩
    have hBz : (B.map Val.int).length < sizeLine := by rw [List.length_map]; omega
    and_intros
    refine cc_sp (tk_ (n := n + 1) (by decide)) rfl ?_
    rintro _ _ _ ⟨r2, ds, hr2, rfl, rfl, rfl⟩
    and_intros
    refine br_join (fun e => ∃ z : Int, 0 ≤ z ∧ z < 1000 ∧ e = [.val true (.l .st) (ints' ds), .val false .st (ints' ns), .val false .st (.int (N : Int)), .val false .st (.bl w), .val false (.l .st) (.lst (B.map Val.int)), .val false .st (nv h), .val false .st (.int z), .emp, .emp, .emp]) ?_ ?_
    · have hf := Int.fmod_lt_of_pos (r2 : Int) (show (0 : Int) < 7 by decide)
      cases w with
      | true =>
        and_intros
        exact ⟨_, by omega, by omega, rfl⟩
      | false =>
        and_intros
        exact ⟨_, by omega, by omega, rfl⟩
    rintro e ⟨z, hz0, hz1, rfl⟩
    and_intros
    exact ⟨ds, B ++ [z], .val false .st (nv h), .val false .st (.int z), by simp [hB], fun x hx => by
      rcases List.mem_append.mp hx with hx | hx
      · exact hBm x hx
      · have : x = z := by simpa using hx
        omega, rfl, rfl, by rw [List.map_append]⟩
  rintro e ⟨ds, B, s5, s6, hB, hBm, n5, n6, rfl⟩
  and_intros
  refine br_join (fun e => ∃ (ds B : List Int) (s7 s9 : Sh.Slot), B.length = N ∧ (∀ x ∈ B, 0 ≤ x ∧ x < 2 * (M : Int)) ∧ npS s7 = true ∧ npS s9 = true ∧ e = [.val true (.l .st) (ints' ds), .val false .st (ints' ns), .val false .st (.int (N : Int)), .val false .st (.bl w), .val false (.l .st) (.lst (B.map Val.int)), s5, s6, s7, .emp, s9]) ?_ ?_
  · refine br_dec (fun c => ?_) fun c => ?_
    · and_intros
      refine cc_sp (tk_ (n := n + 1) (by decide)) rfl ?_
      rintro _ _ _ ⟨r3, ds, hr3, rfl, rfl, rfl⟩
      have hs3 := sm_of (n := r3) (by omega)
      and_intros
      refine wF_rg (n := r3) (f := nv) (fun k e => ∃ (ds B : List Int) (s7 s9 : Sh.Slot), B.length = N ∧ (∀ x ∈ B, 0 ≤ x ∧ x < 2 * (M : Int)) ∧ npS s7 = true ∧ npS s9 = true ∧ e = [.val true (.l .st) (ints' ds), .val false .st (ints' ns), .val false .st (.int (N : Int)), .val false .st (.bl w), .val false (.l .st) (.lst (B.map Val.int)), s5, s6, s7, .emp, s9]) ⟨ds, B, .emp, .emp, hB, hBm, rfl, rfl, rfl⟩ ?_ ?_
      · rintro k e hk ⟨ds, B, s7, s9, hB, hBm, n7, n9, rfl⟩
        and_intros
        refine cc_sp (tk_ (n := n + 1) (z := (N : Int)) (by omega)) rfl ?_
        rintro _ _ _ ⟨r4, ds, hr4, rfl, rfl, rfl⟩
        have hix : L2.ixN B.length (r4 : Int) = some r4 := ixN_natI (by omega)
        and_intros
        refine cc_sp (size_sp (n := n) h70 hns) rfl ?_
        rintro _ _ _ ⟨z, ds, fe0, hz, rfl, rfl, rfl⟩
        and_intros
        exact ⟨ds, B.set r4 z, .val false .st (nv k), .val false .st (nv r4), by rw [List.length_set]; exact hB, fun x hx => by
          rcases List.mem_or_eq_of_mem_set hx with hx | hx
          · exact hBm x hx
          · omega, rfl, rfl, rfl⟩
      · rintro e ⟨ds, B, s7, s9, hB, hBm, n7, n9, rfl⟩
        and_intros
        exact ⟨ds, B, s7, s9, hB, hBm, n7, n9, rfl⟩
    · and_intros
      exact ⟨ds, B, .emp, .emp, hB, hBm, rfl, rfl, rfl⟩
  clear hB hBm B
  rintro e ⟨ds, B, s7, s9, hB, hBm, n7, n9, rfl⟩
  and_intros
  refine cc_sp (tk_ (n := n + 1) (by decide)) rfl ?_
  rintro _ _ _ ⟨r5, ds, hr5, rfl, rfl, rfl⟩
  and_intros
  refine br_dec (fun c => ?_) fun c => ?_
  · and_intros
    refine cc_sp (size_sp (n := n) h70 hns) rfl ?_
    rintro _ _ _ ⟨z, ds, fe0, hz, rfl, rfl, rfl⟩
    and_intros
    refine wK_M (X := B) (f := Val.int) (fun x => Val.int (x * (1 + z))) (own1 rfl n6) (by omega) (by array_get_dec) ?_ ?_
    · intro x hx
      have hxm := hBm x hx
      have hmo : mulOk x (1 + z) = true := hmul _ _ (by omega) (by omega)
      and_intros
      exact ⟨rfl, by array_get_dec⟩
    rw [show (B.map fun x => Val.int (x * (1 + z))) = (B.map fun x => x * (1 + z)).map Val.int from by rw [List.map_map]; rfl]
    and_intros
    exact ⟨_, ds, _, by rw [List.length_map]; exact hB, rfl, rfl, rfl⟩
  · and_intros
    exact ⟨B, ds, _, hB, rfl, rfl, rfl⟩
theorem lcovered_sp {n : Nat} {K : List Kd} {B : List Int} (hl : K.length ≤ 1000) (hB : B.length ≤ 1000) : Sp (sem false D (n + 1)) 12 [⟨false, .st, .lst (B.map Val.int)⟩, ⟨false, .st, .tup (K.map pv)⟩] fun m v _ => ∃ B' : List Int, B'.length = B.length ∧ m = .l .st ∧ v = .lst (B'.map Val.int) := by
  refine sp_run (d := d12) rfl rfl (by repeat constructor) ?_
  have sz := szL
  have hsm := sm_of (n := B.length) (by omega)
  unfold d12 c12
  and_intros
  refine wF_rg (n := B.length) (f := nv) (fun h e => ∃ (L : List Int) (s3 : Sh.Slot), L.length = h ∧ npS s3 = true ∧ e = [.val false .st (.lst (B.map Val.int)), .val false .st (.tup (K.map pv)), .val false (.l .st) (.lst (L.map Val.int)), s3, .emp]) ⟨[], .emp, rfl, rfl, rfl⟩ ?_ ?_
  · rintro h e hh ⟨L, s3, hL, n3, rfl⟩
    have hat := int_at (X := B) (i := h) hh
    have hLz : (L.map Val.int).length < sizeLine := by rw [List.length_map]; omega
    and_intros
    refine wK_M (X := K) (f := pv) (fun k => Val.bl (cov k (h : Int))) (own1 rfl rfl) (by omega) (by array_get_dec) ?_ ?_
    · intro k hk
      have e0 : pv k = .tup [.int k.1, .int k.2] := rfl
      have g0 : L2.atI [Val.int k.1, .int k.2] 0 = some (.int k.1) := rfl
      have g1 : L2.atI [Val.int k.1, .int k.2] 1 = some (.int k.2) := rfl
      rw [e0]
      and_intros
      refine wE_chn ?_
      and_intros
      refine ⟨_, _, _, _, rfl, rfl, cp_leI ?_⟩
      refine br_dec (fun a => ?_) fun a => ?_
      · and_intros
        refine ⟨_, _, rfl, cp_ltI ?_⟩
        and_intros
        exact ⟨by unfold cov; rw [decide_eq_true a, Bool.true_and], by array_get_dec⟩
      · and_intros
        exact ⟨by unfold cov; rw [decide_eq_false a]; rfl, by array_get_dec⟩
    rw [show (K.map fun k : Kd => Val.bl (cov k (h : Int))) = (K.map fun k : Kd => cov k (h : Int)).map Val.bl from by rw [List.map_map]; rfl]
    and_intros
    refine cp_inB ?_
    generalize ((K.map fun k : Kd => cov k (h : Int)).any id) = b
    cases b with
    | true =>
      and_intros
      exact ⟨L ++ [B.getD h 0], .val false .st (nv h), by simp [hL], rfl, by rw [List.map_append]⟩
    | false =>
      and_intros
      exact ⟨L ++ [0], .val false .st (nv h), by simp [hL], rfl, by rw [List.map_append]⟩
  · rintro e ⟨L, s3, hL, n3, rfl⟩
    and_intros
    exact ⟨L, hL, rfl, rfl⟩

open Sh
open PySem PySem.Spec PyProof.Rows L2
/-! ## k53: the law -/

theorem chk1 {h : Int} (hh : 0 ≤ h) : (told [(0, 1), (1, 2), (0, 2)] [0, h] 2).map (·.1) = some [0, h, 0] := by
  have e : told [(0, 1), (1, 2), (0, 2)] [0, h] 2 = if 0 < h - 0 then some ([0, 0 + (h - 0), 0], [1]) else some ([0, 0, 0], []) := rfl
  rw [e]
  split
  · show some [0, 0 + (h - 0), 0] = _
    rw [show 0 + (h - 0) = h by omega]
  · show some [0, 0, 0] = _
    rw [show h = 0 by omega]
theorem chk2 {h : Int} (hh : 0 ≤ h) : (told [(0, 2), (0, 1), (1, 2)] [1, h + 1] 2).map (·.1) = some [h + 1, 0, 0] := by
  have e : told [(0, 2), (0, 1), (1, 2)] [1, h + 1] 2 = if 0 < h + 1 - 1 then some ([1 + (h + 1 - 1), 0, 0], [0, 1]) else some ([1, 0, 0], [0]) := rfl
  rw [e]
  split
  · show some [1 + (h + 1 - 1), 0, 0] = _
    rw [show 1 + (h + 1 - 1) = h + 1 by omega]
  · show some [1, 0, 0] = _
    rw [show h = 0 by omega]; rfl
theorem chk3 {h : Int} (hh : 0 ≤ h) : (told [(0, 2)] [h + 1, 0] 2).map (fun s => apF [(0, 2)] s.2.reverse) = some [0] := by
  have e0 : told [(0, 2)] [h + 1, 0] 1 = if 0 < h + 1 - 0 then some ([0 + (h + 1 - 0)], [0]) else some ([0], []) := rfl
  have e : told [(0, 2)] [h + 1, 0] 2 = (told [(0, 2)] [h + 1, 0] 1).bind (put1 [(0, 2)] [h + 1, 0] 1) := rfl
  have e1 : put1 [(0, 2)] [h + 1, 0] 1 ([0 + (h + 1 - 0)], [0]) = if 0 < 0 - (0 + (h + 1 - 0) + 0) then some ([0 + (h + 1 - 0) + (0 - (0 + (h + 1 - 0) + 0))], [0, 1]) else some ([0 + (h + 1 - 0)], [0]) := rfl
  rw [e, e0, if_pos (by omega), Option.bind_some, e1, if_neg (by omega)]
  rfl
theorem chk4 {h : Int} (hh : 0 ≤ h) : (told [] [h + 1] 1).map (·.1) = none := by
  have e : told [] [h + 1] 1 = if 0 < h + 1 - 0 then none else some ([], []) := rfl
  rw [e, if_pos (by omega)]
  rfl
set_option maxHeartbeats 8000000 in
theorem law_sp {n : Nat} {ns : List Int} (hl : ns.length ≤ 63) (hb : ∀ z ∈ ns, PySem.Builtin.Int.intBits z ≤ 1048576) : ∃ m fe, sem false D (n + 7) 17 [⟨false, .st, ints' ns⟩] = .ret m (.bl true) fe := by
  obtain ⟨M, h70, hns, hmul⟩ := big_of (E := 1048576) (by decide) (by decide) hb
  clear hb
  have h : Sp (sem false D (n + 7)) 17 [⟨false, .st, ints' ns⟩] fun m v fe => v = .bl true := by
    refine sp_run (d := d17) rfl rfl (by repeat constructor) ?_
    have sz := szL
    unfold d17 c17
    and_intros
    refine cc_sp (draws_sp (n := n + 5) (p := 18) (u := 48271) (v := 69621) (t := 11) (q := 2147483647) (r := 1000003) (many := 640) rfl (by decide) (by decide) (by decide) (by decide) (by decide) (by decide) (by decide) hl (by decide)) rfl ?_
    rintro _ _ _ ⟨ds, hds, rfl, rfl⟩
    clear hds
    and_intros
    refine cc_sp (tk_ (n := n + 5) (by decide)) rfl ?_
    rintro _ _ _ ⟨N, ds, hN, rfl, rfl, rfl⟩
    and_intros
    refine cc_sp (tk_ (n := n + 5) (by decide)) rfl ?_
    rintro _ _ _ ⟨mn, ds, hmn, rfl, rfl, rfl⟩
    and_intros
    refine cc_sp (tk_ (n := n + 5) (by decide)) rfl ?_
    rintro _ _ _ ⟨kd, ds, hkd, rfl, rfl, rfl⟩
    and_intros
    refine br_join (fun e => ∃ (ds : List Int) (N : Nat), N ≤ 400 ∧ e = [.val false .st (ints' ns), .val false (.l .st) (ints' ds), .val false .st (nv N), .val false .st (nv mn), .val false .st (nv kd), .emp, .emp, .emp]) ?_ ?_
    · refine br_dec (fun c => ?_) fun c => ?_
      · and_intros
        refine cc_sp (tk_ (n := n + 5) (by decide)) rfl ?_
        rintro _ _ _ ⟨r1, ds, hr1, rfl, rfl, rfl⟩
        obtain ⟨lg, hlg, hlg2, hat⟩ : ∃ lg : Int, 0 < lg ∧ lg ≤ 392 ∧ L2.atI [Val.int 51, .int 392] (r1 : Int) = some (.int lg) := by
          have : r1 = 0 ∨ r1 = 1 := by omega
          rcases this with rfl | rfl
          · exact ⟨51, by decide, by decide, rfl⟩
          · exact ⟨392, by decide, by decide, rfl⟩
        and_intros
        refine cc_sp (tk_ (n := n + 5) (z := lg) (by omega)) rfl ?_
        rintro _ _ _ ⟨r2, ds, hr2, rfl, rfl, rfl⟩
        and_intros
        exact ⟨ds, 9 + r2, by omega, by rw [show nv (9 + r2) = Val.int (9 + (r2 : Int)) from congrArg Val.int (by omega)]; rfl⟩
      · and_intros
        exact ⟨ds, N, by omega, rfl⟩
    clear hN N ds
    rintro e ⟨ds, N, hN, rfl⟩
    and_intros
    refine br_join (fun e => ∃ (ds : List Int) (mn : Nat), mn ≤ 40 ∧ e = [.val false .st (ints' ns), .val false (.l .st) (ints' ds), .val false .st (nv N), .val false .st (nv mn), .val false .st (nv kd), .emp, .emp, .emp]) ?_ ?_
    · refine br_dec (fun c => ?_) fun c => ?_
      · and_intros
        refine cc_sp (tk_ (n := n + 5) (by decide)) rfl ?_
        rintro _ _ _ ⟨r1, ds, hr1, rfl, rfl, rfl⟩
        and_intros
        exact ⟨ds, r1, by omega, rfl⟩
      · and_intros
        exact ⟨ds, mn, by omega, rfl⟩
    clear hmn mn ds
    rintro e ⟨ds, mn, hmn, rfl⟩
    and_intros
    refine br_join (fun e => ∃ (ds : List Int) (K : List Kd), okK K N ∧ e = [.val false .st (ints' ns), .val false (.l .st) (ints' ds), .val false .st (nv N), .val false .st (nv mn), .val false .st (nv kd), .val false .st (.tup (K.map pv)), .emp, .emp]) ?_ ?_
    · refine br_dec (fun c => ?_) fun c => ?_
      · and_intros
        refine cc_sp (kinds_sp (n := n + 4) (N := N) (many := mn) (by omega) (by omega) (by omega)) rfl ?_
        rintro _ _ _ ⟨K, ds, fe0, hK, rfl, rfl, rfl⟩
        and_intros
        exact ⟨ds, K, hK, rfl⟩
      · and_intros
        exact ⟨ds, [], ⟨by simp, by simp, by omega⟩, rfl⟩
    clear ds
    rintro e ⟨ds, K, hK, rfl⟩
    and_intros
    refine cc_sp (demand_sp (n := n + 3) (M := M) (N := N) h70 hns hmul (by omega)) rfl ?_
    rintro _ _ _ ⟨B, ds, fe0, hB, rfl, rfl, rfl⟩
    and_intros
    refine cc_sp (tk_ (n := n + 5) (by decide)) rfl ?_
    rintro _ _ _ ⟨r1, ds, hr1, rfl, rfl, rfl⟩
    and_intros
    refine br_join (fun e => ∃ (B : List Int), B.length = N ∧ e = [.val false .st (ints' ns), .val false (.l .st) (ints' ds), .val false .st (nv N), .val false .st (nv mn), .val false .st (nv kd), .val false .st (.tup (K.map pv)), .val false (.l .st) (.lst (B.map Val.int)), .emp]) ?_ ?_
    · refine br_dec (fun c => ?_) fun c => ?_
      · and_intros
        refine cc_sp (lcovered_sp (n := n + 5) hK.l (by have := hK.n; omega)) rfl ?_
        rintro _ _ fe1 ⟨B', hB', rfl, rfl⟩
        and_intros
        exact ⟨B', by omega, rfl⟩
      · and_intros
        exact ⟨B, hB, rfl⟩
    clear hB B
    rintro e ⟨B, hB, rfl⟩
    rw [← hB] at hK
    have q1 := right_sp (n := n) hK
    and_intros
    refine cc_rt q1 rfl fun fe => ?_
    and_intros
    refine cc_sp (size_sp (n := n + 4) h70 hns) rfl ?_
    rintro _ _ _ ⟨h, ds, fe1, ⟨hh, _⟩, rfl, rfl, rfl⟩
    have p1 := cover_sp (n := n + 2) (K := [(0, 1), (1, 2), (0, 2)]) (B := [0, h]) ⟨by simp, by simp, by simp⟩
    have p2 := cover_sp (n := n + 2) (K := [(0, 2), (0, 1), (1, 2)]) (B := [1, h + 1]) ⟨by simp, by simp, by simp⟩
    have p3 := apart_sp (n := n + 2) (K := [(0, 2)]) (B := [h + 1, 0]) ⟨by simp, by simp, by simp⟩
    have p4 := cover_sp (n := n + 2) (K := []) (B := [h + 1]) ⟨by simp, by simp, by simp⟩
    rw [show [0, h].length = 2 from rfl, chk1 hh] at p1
    rw [show [1, h + 1].length = 2 from rfl, chk2 hh] at p2
    rw [show [h + 1, 0].length = 2 from rfl, chk3 hh] at p3
    rw [show [h + 1].length = 1 from rfl, chk4 hh] at p4
    have s1 := same_ints (n + 4) (X := [0, h, 0]) (by simp)
    have s2 := same_ints (n + 4) (X := [h + 1, 0, 0]) (by simp)
    have s3 := same_ints (n + 4) (X := [0]) (by simp)
    and_intros
    refine cc_rt p1 rfl fun fe => ?_
    and_intros
    refine cc_rt s1 rfl fun fe => ?_
    and_intros
    refine cc_rt p2 rfl fun fe => ?_
    and_intros
    refine cc_rt s2 rfl fun fe => ?_
    and_intros
    refine wX_iff ?_
    and_intros
    refine cc_rt p3 rfl fun fe => ?_
    and_intros
    refine cc_rt s3 rfl fun fe => ?_
    and_intros
    refine cc_rt p4 rfl fun fe => ?_
    and_intros
    refine cc_rt q1 rfl fun fe => ?_
    and_intros
  obtain ⟨m, v, fe, h1, rfl⟩ := h
  exact ⟨m, fe, h1⟩
end L53

namespace L53
open Sh
theorem law_true (ns : List Int) (hl : ns.length ≤ 63) (hb : ∀ z ∈ ns, PySem.Builtin.Int.intBits z ≤ 1048576) : ∃ m fe, sem false D (21 + 1) 17 [⟨false, .st, .lst (ns.map Val.int)⟩] = .ret m (.bl true) fe := law_sp (n := 15) hl hb
end L53
open PySem PySem.W PyProof.Rows
set_option maxHeartbeats 0 in
theorem PySem.Challenge.cw_shiftshold_k53_told_cover_holds : PySem.Challenge.rw_shiftshold_k53_told_cover.Holds := by
  w_on; o_law; k_head; (case hw => w_witness2)
  k_fill
  refine Sh.walk_tabs (l := PySem.Challenge.rw_shiftshold_k53_told_cover) (n := 63) (k := 2 * (21 + 1)) (x := "script") (CX := fun w => L2.CX (PySem.Challenge.rw_shiftshold_k53_told_cover).prog w) ["are_apart"] rfl (by decide) rfl ⟨rfl, by decide, by decide⟩ (by decide +kernel) (fun w h Y => PySem.W.kIn_of Y) ?F (fun _ _ _ _ _ h => Sh.cx_no h)
  case F =>
    intro w mg fa h Y KX G hmg hO
    refine' Sh.law_G false (tb := L53.tb) (gs := L53.gs) (li := 17) (tl := L53.t17) (n := 21) KX G hmg rfl rfl L53.tb_ok L53.b_all (.cons ?tf0 .nil) hO (fun ns hl hb => L53.law_true ns hl hb) (L53.f_all ?f0 ?f1 ?f2 ?f3 ?f4 ?f5 ?f6 ?f7 ?f8 ?f9 ?f10 ?f11 ?f12 ?f13 ?f14 ?f15 ?f16 ?f17) (L53.z_all ?z0 ?z1 ?z2 ?z3 ?z4 ?z5 ?z6 ?z7 ?z8 ?z9 ?z10 ?z11 ?z12 ?z13 ?z14 ?z15 ?z16 ?z17) (L53.g_all ) (L53.x_all )
    (case tf0 => refine' Sh.tfact_mk ?ta ?tl ?tc ?tv ?v1 ?v2 ?v3 ?v4 ?tn; (case ta => k_is); (case tl => k_is); (case tc => k_is); (case tv => rfl); (case v1 => rfl); (case v2 => rfl); (case v3 => rfl); (case v4 => rfl); (case tn => rfl))
    (case f0 => refine' Sh.fact_mk ?a ?l ?c ?k; (case a => k_is); (case l => k_is); (case c => k_is); (case k => k_is))
    (case f1 => refine' Sh.fact_mk ?a ?l ?c ?k; (case a => k_is); (case l => k_is); (case c => k_is); (case k => k_is))
    (case f2 => refine' Sh.fact_mk ?a ?l ?c ?k; (case a => k_is); (case l => k_is); (case c => k_is); (case k => k_is))
    (case f3 => refine' Sh.fact_mk ?a ?l ?c ?k; (case a => k_is); (case l => k_is); (case c => k_is); (case k => k_is))
    (case f4 => refine' Sh.fact_mk ?a ?l ?c ?k; (case a => k_is); (case l => k_is); (case c => k_is); (case k => k_is))
    (case f5 => refine' Sh.fact_mk ?a ?l ?c ?k; (case a => k_is); (case l => k_is); (case c => k_is); (case k => k_is))
    (case f6 => refine' Sh.fact_mk ?a ?l ?c ?k; (case a => k_is); (case l => k_is); (case c => k_is); (case k => k_is))
    (case f7 => refine' Sh.fact_mk ?a ?l ?c ?k; (case a => k_is); (case l => k_is); (case c => k_is); (case k => k_is))
    (case f8 => refine' Sh.fact_mk ?a ?l ?c ?k; (case a => k_is); (case l => k_is); (case c => k_is); (case k => k_is))
    (case f9 => refine' Sh.fact_mk ?a ?l ?c ?k; (case a => k_is); (case l => k_is); (case c => k_is); (case k => k_is))
    (case f10 => refine' Sh.fact_mk ?a ?l ?c ?k; (case a => k_is); (case l => k_is); (case c => k_is); (case k => k_is))
    (case f11 => refine' Sh.fact_mk ?a ?l ?c ?k; (case a => k_is); (case l => k_is); (case c => k_is); (case k => k_is))
    (case f12 => refine' Sh.fact_mk ?a ?l ?c ?k; (case a => k_is); (case l => k_is); (case c => k_is); (case k => k_is))
    (case f13 => refine' Sh.fact_mk ?a ?l ?c ?k; (case a => k_is); (case l => k_is); (case c => k_is); (case k => k_is))
    (case f14 => refine' Sh.fact_mk ?a ?l ?c ?k; (case a => k_is); (case l => k_is); (case c => k_is); (case k => k_is))
    (case f15 => refine' Sh.fact_mk ?a ?l ?c ?k; (case a => k_is); (case l => k_is); (case c => k_is); (case k => k_is))
    (case f16 => refine' Sh.fact_mk ?a ?l ?c ?k; (case a => k_is); (case l => k_is); (case c => k_is); (case k => k_is))
    (case f17 => refine' Sh.fact_mk ?a ?l ?c ?k; (case a => k_is); (case l => k_is); (case c => k_is); (case k => k_is))
    (case z0 => k_is)
    (case z1 => k_is)
    (case z2 => k_is)
    (case z3 => k_is)
    (case z4 => k_is)
    (case z5 => k_is)
    (case z6 => k_is)
    (case z7 => k_is)
    (case z8 => k_is)
    (case z9 => k_is)
    (case z10 => k_is)
    (case z11 => k_is)
    (case z12 => k_is)
    (case z13 => k_is)
    (case z14 => k_is)
    (case z15 => k_is)
    (case z16 => k_is)
    (case z17 => k_is)
