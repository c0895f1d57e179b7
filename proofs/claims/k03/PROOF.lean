import PyProof.Rows.All
import Wide.All
import OpenK.AllK
import Wide.FinOn
import HandS.ForMost
import HandS.Wide
import HandS.WideBits
import HandS.TupAny
import HandS.Deep
import HandS.SortRule
import HandS.SortInts
import HandS.IsInst
import HandS.FStr
import HandS.More
import HandS.Conv
import HandS.Strs
import HandS.Property
import HandS.ClsMeth
import HandS.Defaults
import KE.KStateDown
import HandS.Head0
import HandS.Head1
import HandS.Head2
import HandS.HeadEnd
import HandS.HeadHook1
import HandS.HeadHook2
import HandS.HeadHook3
import HandS.Text
import HandS.Zip
import HandS.RaiseMore
import HandS.TupMul
import HandS.SlotsOwn
import KE.KUnpack
import KE.KRevSl
import HandS.Star
import HandS.MakeKwOnly
import KE.KStar
import PyProof.DictUpdate
import HandS.Style
import KE.GoesEnum
import KE.GoesZip
import KE.GoesMore
import KE.KUnpackStar
import HandS.Codes
import HandS.StrMore
import HandS.Exc
import HandS.ExcOwn
import HandS.ExcField
import HandS.CallSlots
import HandS.ExcInit
import HandS.ExcIs
import KE.KExcIs
import PySem.Challenge.RW_lastbytes_k03_programs_refused
set_option Elab.async false
set_option linter.all false
set_option autoImplicit false
set_option maxRecDepth 100000
set_option maxHeartbeats 4000000
namespace L3
open PySem L2
abbrev St := L2.St

/-- immutable data as the mirrors see it -/
inductive D where
  | non | bl (b : Bool) | int (i : Int) | str (x : Str)
  | tup (l : List D) | lst (l : List D) | ktp (l : List D)
  | dk (l : List (Key × D))
  | ins (C : Addr) (fs : List (Str × D))
  | cls (a : Addr)
  | bty (n : String)
  | scr (ns : List Int)
  /-- within an own thing: a thing that may be changed itself -/
  | box (d : D)
  deriving Inhabited

mutual
inductive Rep (K : PySem.W.Frag) (F : Hp) : V → D → Prop
  | non : Rep K F .non .non
  | bl {b : Bool} : Rep K F (.bl b) (.bl b)
  | int {i : Int} : Rep K F (.int i) (.int i)
  | str {x : Str} : Rep K F (.str x) (.str x)
  | tup {p : Addr} {vs : List V} {ds : List D} : F p = some (.tup vs) → Reps K F vs ds → Rep K F (.ref p) (.tup ds)
  | ktp {p : Addr} {vs : List V} {ds : List D} : SqT K F p vs → Reps K F vs ds → Rep K F (.ref p) (.ktp ds)
  | lst {p : Addr} {vs : List V} {ds : List D} : F p = some (.lst vs) → Reps K F vs ds → Rep K F (.ref p) (.lst ds)
  | ins {p C dx : Addr} {fs : List (Str × V)} {gs : List (Str × D)} : F p = some (.ins C dx fs) → RepF K F fs gs → Rep K F (.ref p) (.ins C gs)
  | dk {p : Addr} {vs : List (Key × V)} {ds : List (Key × D)} : F p = some (.dK vs) → RepK K F vs ds → Rep K F (.ref p) (.dk ds)
  | cls {a : Addr} : Rep K F (.ref a) (.cls a)
  | bty {n : String} : Rep K F (.ty n) (.bty n)
  | scr {a : Addr} {ns : List Int} : SqL K F a (ns.map V.int) → Rep K F (.ref a) (.scr ns)
inductive Reps (K : PySem.W.Frag) (F : Hp) : List V → List D → Prop
  | nil : Reps K F [] []
  | cons {v : V} {vs : List V} {d : D} {ds : List D} : Rep K F v d → Reps K F vs ds → Reps K F (v :: vs) (d :: ds)
inductive RepF (K : PySem.W.Frag) (F : Hp) : List (Str × V) → List (Str × D) → Prop
  | nil : RepF K F [] []
  | cons {n : Str} {v : V} {vs : List (Str × V)} {d : D} {ds : List (Str × D)} : Rep K F v d → RepF K F vs ds → RepF K F ((n, v) :: vs) ((n, d) :: ds)
inductive RepK (K : PySem.W.Frag) (F : Hp) : List (Key × V) → List (Key × D) → Prop
  | nil : RepK K F [] []
  | cons {n : Key} {v : V} {vs : List (Key × V)} {d : D} {ds : List (Key × D)} : Rep K F v d → RepK K F vs ds → RepK K F ((n, v) :: vs) ((n, d) :: ds)
end

theorem Same.sqt {K : PySem.W.Frag} {H H' : Hp} {a : Addr} {xs : List V} (e : Same H H') (h : SqT K H a xs) : SqT K H' a xs := by
  rcases h with (h | ⟨o, h⟩) | h
  · exact .inl (.inl (e _ _ h))
  · exact .inl (.inr ⟨o, e _ _ h⟩)
  · exact .inr h

mutual
theorem Rep.mono {K : PySem.W.Frag} {F F' : Hp} (s : Same F F') : ∀ {v : V} {d : D}, Rep K F v d → Rep K F' v d
  | _, _, .non => .non
  | _, _, .bl => .bl
  | _, _, .int => .int
  | _, _, .str => .str
  | _, _, .tup h r => .tup (s _ _ h) (Reps.mono s r)
  | _, _, .ktp h r => .ktp (Same.sqt s h) (Reps.mono s r)
  | _, _, .lst h r => .lst (s _ _ h) (Reps.mono s r)
  | _, _, .ins h r => .ins (s _ _ h) (RepF.mono s r)
  | _, _, .dk h r => .dk (s _ _ h) (RepK.mono s r)
  | _, _, .cls => .cls
  | _, _, .bty => .bty
  | _, _, .scr h => .scr (s.seq h)
theorem Reps.mono {K : PySem.W.Frag} {F F' : Hp} (s : Same F F') : ∀ {vs : List V} {ds : List D}, Reps K F vs ds → Reps K F' vs ds
  | _, _, .nil => .nil
  | _, _, .cons h r => .cons (Rep.mono s h) (Reps.mono s r)
theorem RepF.mono {K : PySem.W.Frag} {F F' : Hp} (s : Same F F') : ∀ {vs : List (Str × V)} {ds : List (Str × D)}, RepF K F vs ds → RepF K F' vs ds
  | _, _, .nil => .nil
  | _, _, .cons h r => .cons (Rep.mono s h) (RepF.mono s r)
theorem RepK.mono {K : PySem.W.Frag} {F F' : Hp} (s : Same F F') : ∀ {vs : List (Key × V)} {ds : List (Key × D)}, RepK K F vs ds → RepK K F' vs ds
  | _, _, .nil => .nil
  | _, _, .cons h r => .cons (Rep.mono s h) (RepK.mono s r)
end
/-- an object that may be changed: a list, a dict -/
inductive ORep (K : PySem.W.Frag) (F : Hp) : HO → D → Prop
  | lst {vs : List V} {ds : List D} : Reps K F vs ds → ORep K F (.lst vs) (.lst ds)
  | dk {vs : List (Key × V)} {ds : List (Key × D)} : RepK K F vs ds → ORep K F (.dK vs) (.dk ds)
  | ins {C dx : Addr} {vs : List (Str × V)} {ds : List (Str × D)} : RepF K F vs ds → ORep K F (.ins C dx vs) (.ins C ds)
theorem ORep.mono {K : PySem.W.Frag} {F F' : Hp} (s : Same F F') {o : HO} {d : D} (h : ORep K F o d) : ORep K F' o d := by
  cases h with
  | lst r => exact .lst (r.mono s)
  | dk r => exact .dk (r.mono s)
  | ins r => exact .ins (r.mono s)
theorem ORep.rep {K : PySem.W.Frag} {F : Hp} {p : Addr} {o : HO} {d : D} (h : ORep K F o d) (e : F p = some o) : Rep K F (.ref p) d := by
  cases h with
  | lst r => exact .lst e r
  | dk r => exact .dk e r
  | ins r => exact .ins e r

theorem Reps.length {K : PySem.W.Frag} {F : Hp} : ∀ {vs : List V} {ds : List D}, Reps K F vs ds → vs.length = ds.length
  | _, _, .nil => rfl
  | _, _, .cons _ r => by simp [Reps.length r]
theorem Reps.get {K : PySem.W.Frag} {F : Hp} : ∀ {vs : List V} {ds : List D} {i : Nat} {d : D}, Reps K F vs ds → ds[i]? = some d → ∃ v, vs[i]? = some v ∧ Rep K F v d
  | _, _, i, _, .nil, e => by simp at e
  | _, _, 0, _, .cons h _, e => by simp at e; subst e; exact ⟨_, rfl, h⟩
  | _, _, i + 1, d, .cons _ r, e => by
    obtain ⟨v, h1, h2⟩ := Reps.get (i := i) (d := d) r (by simpa using e)
    exact ⟨v, by simpa using h1, h2⟩
theorem Reps.get' {K : PySem.W.Frag} {F : Hp} : ∀ {vs : List V} {ds : List D} {i : Nat} {v : V}, Reps K F vs ds → vs[i]? = some v → ∃ d, ds[i]? = some d ∧ Rep K F v d
  | _, _, i, _, .nil, e => by simp at e
  | _, _, 0, _, .cons h _, e => by simp at e; subst e; exact ⟨_, rfl, h⟩
  | _, _, i + 1, d, .cons _ r, e => by
    obtain ⟨v, h1, h2⟩ := Reps.get' (i := i) (v := d) r (by simpa using e)
    exact ⟨v, by simpa using h1, h2⟩
theorem Reps.append {K : PySem.W.Frag} {F : Hp} : ∀ {vs ws : List V} {ds es : List D}, Reps K F vs ds → Reps K F ws es → Reps K F (vs ++ ws) (ds ++ es)
  | _, _, _, _, .nil, q => q
  | _, _, _, _, .cons h r, q => .cons h (Reps.append r q)
theorem Reps.set {K : PySem.W.Frag} {F : Hp} {v : V} {d : D} (h : Rep K F v d) : ∀ {vs : List V} {ds : List D} (i : Nat), Reps K F vs ds → Reps K F (vs.set i v) (ds.set i d)
  | _, _, _, .nil => .nil
  | _, _, 0, .cons _ r => .cons h r
  | _, _, i + 1, .cons q r => .cons q (Reps.set h i r)
theorem Reps.take {K : PySem.W.Frag} {F : Hp} : ∀ {vs : List V} {ds : List D} (n : Nat), Reps K F vs ds → Reps K F (vs.take n) (ds.take n)
  | _, _, 0, _ => by simp; exact .nil
  | _, _, _ + 1, .nil => .nil
  | _, _, n + 1, .cons h r => .cons h (Reps.take n r)
theorem Reps.drop {K : PySem.W.Frag} {F : Hp} : ∀ {vs : List V} {ds : List D} (n : Nat), Reps K F vs ds → Reps K F (vs.drop n) (ds.drop n)
  | _, _, 0, r => r
  | _, _, _ + 1, .nil => .nil
  | _, _, n + 1, .cons _ r => Reps.drop n r
theorem Reps.dropLast {K : PySem.W.Frag} {F : Hp} {vs : List V} {ds : List D} (r : Reps K F vs ds) : Reps K F vs.dropLast ds.dropLast := by
  rw [List.dropLast_eq_take, List.dropLast_eq_take, r.length]; exact r.take _
theorem Reps.reverse {K : PySem.W.Frag} {F : Hp} : ∀ {vs : List V} {ds : List D}, Reps K F vs ds → Reps K F vs.reverse ds.reverse
  | _, _, .nil => .nil
  | _, _, .cons h r => by rw [List.reverse_cons, List.reverse_cons]; exact (Reps.reverse r).append (.cons h .nil)

/-- ints are represented by themselves -/
theorem Reps.ints {K : PySem.W.Frag} {F : Hp} : ∀ {vs : List V} {ns : List Int}, Reps K F vs (ns.map D.int) → vs = ns.map V.int
  | _, [], r => by cases r; rfl
  | _, n :: ns, r => by
    cases r with
    | cons h r => cases h; rw [Reps.ints r]; rfl
theorem reps_ints {K : PySem.W.Frag} {F : Hp} : ∀ (ns : List Int), Reps K F (ns.map V.int) (ns.map D.int)
  | [] => .nil
  | _ :: ns => .cons .int (reps_ints ns)

def isLst : HO → Bool
  | .lst _ => true
  | .dK _ => true
  | .ins _ _ _ => true
  | _ => false
/-! ### boxes: things in an own thing that may be changed themselves, one deep -/
/-- an entry of an own thing -/
inductive BRep (K : PySem.W.Frag) (F H : Hp) : V → D → Prop
  | d {v : V} {d : D} : Rep K F v d → BRep K F H v d
  | box {l : Addr} {o : HO} {d : D} : F l = none → H l = some o → ORep K F o d → BRep K F H (.ref l) (.box d)
inductive BReps (K : PySem.W.Frag) (F H : Hp) : List V → List D → Prop
  | nil : BReps K F H [] []
  | cons {v : V} {vs : List V} {d : D} {ds : List D} : BRep K F H v d → BReps K F H vs ds → BReps K F H (v :: vs) (d :: ds)
/-- an own thing with boxes -/
inductive TRep (K : PySem.W.Frag) (F H : Hp) : HO → D → Prop
  | lst {vs : List V} {ds : List D} : BReps K F H vs ds → TRep K F H (.lst vs) (.lst ds)
  | ins {C dx : Addr} {vs : List (Str × V)} {ds : List (Str × D)} : vs.map (·.1) = ds.map (·.1) → BReps K F H (vs.map (·.2)) (ds.map (·.2)) → TRep K F H (.ins C dx vs) (.ins C ds)
/-- where the boxes lie -/
def bx1 : V → D → List Addr
  | .ref l, .box _ => [l]
  | _, _ => []
def bxs : List V → List D → List Addr
  | v :: vs, d :: ds => bx1 v d ++ bxs vs ds
  | _, _ => []
def bx : HO → D → List Addr
  | .lst vs, .lst ds => bxs vs ds
  | .ins _ _ vs, .ins _ ds => bxs (vs.map (·.2)) (ds.map (·.2))
  | _, _ => []
/-- as data -/
def ub1 : D → D
  | .box d => d
  | d => d
def ub : D → D
  | .lst ds => .lst (ds.map ub1)
  | .ins C gs => .ins C (gs.map fun p => (p.1, ub1 p.2))
  | d => d
section
variable {K : PySem.W.Frag} {F H F' H' : Hp}
theorem Rep.nobox {v : V} {d : D} (h : Rep K F v d) : bx1 v d = [] := by cases h <;> rfl
theorem Rep.ub1 {v : V} {d : D} (h : Rep K F v d) : ub1 d = d := by cases h <;> rfl
theorem Reps.nobox : ∀ {vs : List V} {ds : List D}, Reps K F vs ds → bxs vs ds = []
  | _, _, .nil => rfl
  | _, _, .cons h r => by unfold bxs; rw [h.nobox, r.nobox]; rfl
theorem Reps.breps : ∀ {vs : List V} {ds : List D}, Reps K F vs ds → BReps K F H vs ds
  | _, _, .nil => .nil
  | _, _, .cons h r => .cons (.d h) r.breps
theorem BRep.at_ {v : V} {d : D} (h : BRep K F H v d) : ∀ a ∈ bx1 v d, F a = none ∧ ∃ o, H a = some o ∧ isLst o = true := by
  cases h with
  | d r => rw [r.nobox]; intro a h; cases h
  | box h1 h2 h3 =>
    intro a ha
    rw [List.mem_singleton.mp ha]
    exact ⟨h1, _, h2, by cases h3 <;> rfl⟩
theorem BReps.at_ : ∀ {vs : List V} {ds : List D}, BReps K F H vs ds → ∀ a ∈ bxs vs ds, F a = none ∧ ∃ o, H a = some o ∧ isLst o = true
  | _, _, .nil, a, h => by cases h
  | _, _, .cons h r, a, m => by
    unfold bxs at m
    rcases List.mem_append.mp m with m | m
    · exact h.at_ a m
    · exact r.at_ a m
theorem TRep.at_ {o : HO} {d : D} (h : TRep K F H o d) : ∀ a ∈ bx o d, F a = none ∧ ∃ o, H a = some o ∧ isLst o = true := by
  cases h with
  | lst r => exact r.at_
  | ins e r => exact r.at_
theorem TRep.isLst {o : HO} {d : D} (h : TRep K F H o d) : L3.isLst o = true := by cases h <;> rfl
theorem BRep.move (s : Same F F') {v : V} {d : D} (h : BRep K F H v d) (k : ∀ a ∈ bx1 v d, F' a = none ∧ H' a = H a) : BRep K F' H' v d := by
  cases h with
  | d r => exact .d (r.mono s)
  | box h1 h2 h3 =>
    obtain ⟨k1, k2⟩ := k _ (List.mem_singleton.mpr rfl)
    exact .box k1 (by rw [k2]; exact h2) (h3.mono s)
theorem BReps.move (s : Same F F') : ∀ {vs : List V} {ds : List D}, BReps K F H vs ds → (∀ a ∈ bxs vs ds, F' a = none ∧ H' a = H a) → BReps K F' H' vs ds
  | _, _, .nil, _ => .nil
  | _, _, .cons h r, k => .cons (h.move s fun a m => k a (List.mem_append_left _ m)) (r.move s fun a m => k a (List.mem_append_right _ m))
theorem TRep.move (s : Same F F') {o : HO} {d : D} (h : TRep K F H o d) (k : ∀ a ∈ bx o d, F' a = none ∧ H' a = H a) : TRep K F' H' o d := by
  cases h with
  | lst r => exact .lst (r.move s k)
  | ins e r => exact .ins e (r.move s k)
theorem BRep.rep (s : Same F F') {v : V} {d : D} (h : BRep K F H v d) (k : ∀ a ∈ bx1 v d, F' a = H a) : Rep K F' v (L3.ub1 d) := by
  cases h with
  | d r => rw [r.ub1]; exact r.mono s
  | box h1 h2 h3 => exact (h3.mono s).rep (by rw [k _ (List.mem_singleton.mpr rfl)]; exact h2)
theorem BReps.reps (s : Same F F') : ∀ {vs : List V} {ds : List D}, BReps K F H vs ds → (∀ a ∈ bxs vs ds, F' a = H a) → Reps K F' vs (ds.map L3.ub1)
  | _, _, .nil, _ => .nil
  | _, _, .cons h r, k => .cons (h.rep s fun a m => k a (List.mem_append_left _ m)) (r.reps s fun a m => k a (List.mem_append_right _ m))
theorem RepF.of : ∀ {vs : List (Str × V)} {ds : List (Str × D)}, vs.map (·.1) = ds.map (·.1) → Reps K F (vs.map (·.2)) (ds.map fun p => L3.ub1 p.2) → RepF K F vs (ds.map fun p => (p.1, L3.ub1 p.2))
  | [], [], _, _ => .nil
  | [], _ :: _, e, _ => by cases e
  | _ :: _, [], e, _ => by cases e
  | (n, v) :: vs, (m, d) :: ds, e, .cons h r => by
    obtain ⟨e1, e2⟩ := List.cons.inj e
    have e1' : n = m := e1
    subst e1'
    exact .cons h (RepF.of e2 r)
theorem TRep.orep (s : Same F F') {o : HO} {d : D} (h : TRep K F H o d) (k : ∀ a ∈ bx o d, F' a = H a) : ORep K F' o (L3.ub d) := by
  cases h with
  | lst r => exact .lst (r.reps s k)
  | ins e r => exact .ins (RepF.of e (by have := r.reps s k; rw [List.map_map] at this; exact this))
theorem ORep.nobox {o : HO} {d : D} (h : ORep K F o d) : bx o d = [] := by
  cases h with
  | lst r => exact r.nobox
  | dk r => rfl
  | ins r =>
    show bxs _ _ = []
    have : ∀ {vs : List (Str × V)} {ds : List (Str × D)}, RepF K F vs ds → bxs (vs.map (·.2)) (ds.map (·.2)) = [] := by
      intro vs
      induction vs with
      | nil => intro ds r; cases r; rfl
      | cons a vs ih =>
        intro ds r
        cases r with
        | cons h r =>
          show bx1 _ _ ++ bxs _ _ = []
          rw [h.nobox, ih r]; rfl
    exact this r
end

/-- a slot: data; a thing that the def owns (t = some k: that of its k-th in-out parameter); one with boxes -/
inductive S where
  | d (x : D)
  | own (t : Option Nat) (x : D)
  | tre (t : Option Nat) (x : D)
abbrev Env := List (Option S)

/-- pl: the in-out things, each with its boxes -/
structure Gx where
  H0 : Hp
  F0 : Hp
  pl : List (Addr × List Addr)
  pin : Hp
def adL (pl : List (Addr × List Addr)) : List Addr := pl.flatMap fun p => p.1 :: p.2
def Gx.pa (g : Gx) : List Addr := adL g.pl

def tagOk (g : Gx) : Option Nat → Addr → Prop
  | none, l => g.H0 l = none
  | some k, l => ∃ bs, g.pl[k]? = some (l, bs)
/-- of a box -/
def tagX (g : Gx) : Option Nat → Addr → Prop
  | none, l => g.H0 l = none
  | some k, a => g.H0 a = none ∨ ∃ l bs, g.pl[k]? = some (l, bs) ∧ a ∈ bs
theorem adL_mem {pl : List (Addr × List Addr)} {k : Nat} {p : Addr × List Addr} {a : Addr} (h : pl[k]? = some p) (m : a ∈ p.1 :: p.2) : a ∈ adL pl := List.mem_flatMap.mpr ⟨p, List.mem_of_getElem? h, m⟩
theorem tagOk.x {g : Gx} {t : Option Nat} {l : Addr} (h : tagOk g t l) : g.H0 l = none ∨ l ∈ g.pa := by
  cases t with
  | none => exact .inl h
  | some k =>
    obtain ⟨bs, h⟩ := h
    exact .inr (adL_mem h List.mem_cons_self)
theorem tagX.x {g : Gx} {t : Option Nat} {l : Addr} (h : tagX g t l) : g.H0 l = none ∨ l ∈ g.pa := by
  cases t with
  | none => exact .inl h
  | some k =>
    rcases h with h | ⟨l, bs, h, m⟩
    · exact .inl h
    · exact .inr (adL_mem h (List.mem_cons_of_mem _ m))
theorem tagX.fresh {g : Gx} (t : Option Nat) {l : Addr} (h : g.H0 l = none) : tagX g t l := by
  cases t with
  | none => exact h
  | some k => exact .inl h

/-- the value v stands for the slot s -/
def SOk (K : PySem.W.Frag) (g : Gx) (F H : Hp) (o : Option (Option V)) : S → Prop
  | .d x => ∃ v, o = some (some v) ∧ Rep K F v x
  | .own t xs => ∃ l vs, o = some (some (.ref l)) ∧ tagOk g t l ∧ F l = none ∧ H l = some vs ∧ ORep K F vs xs
  | .tre t xs => ∃ l vs, o = some (some (.ref l)) ∧ tagOk g t l ∧ F l = none ∧ H l = some vs ∧ TRep K F H vs xs ∧ (l :: bx vs xs).Nodup ∧ ∀ a ∈ bx vs xs, tagX g t a

/-- the thing at l belongs to slot i -/
def OwnAt (H : Hp) (σ : St) (ρ : Env) (i : Nat) (a : Addr) : Prop := ∃ l, σ[i]? = some (some (.ref l)) ∧ (((∃ t xs, ρ[i]? = some (some (.own t xs))) ∧ a = l) ∨ ∃ t xs o, ρ[i]? = some (some (.tre t xs)) ∧ H l = some o ∧ a ∈ l :: bx o xs)
theorem OwnAt.of {H : Hp} {σ : St} {ρ : Env} {i : Nat} {l : Addr} {t : Option Nat} {xs : D} (h1 : σ[i]? = some (some (.ref l))) (h2 : ρ[i]? = some (some (.own t xs))) : OwnAt H σ ρ i l := ⟨l, h1, .inl ⟨⟨t, xs, h2⟩, rfl⟩⟩
theorem OwnAt.ofT {H : Hp} {σ : St} {ρ : Env} {i : Nat} {l a : Addr} {t : Option Nat} {xs : D} {o : HO} (h1 : σ[i]? = some (some (.ref l))) (h2 : ρ[i]? = some (some (.tre t xs))) (h3 : H l = some o) (h : a ∈ l :: bx o xs) : OwnAt H σ ρ i a := ⟨l, h1, .inr ⟨t, xs, o, h2, h3, h⟩⟩
/-- slots that are as they were -/
theorem OwnAt.to {H H' : Hp} {σ σ' : St} {ρ ρ' : Env} {i : Nat} {a : Addr} (h : OwnAt H σ ρ i a) (h1 : σ'[i]? = σ[i]?) (h2 : ρ'[i]? = ρ[i]?) (k : ∀ l t xs, σ[i]? = some (some (.ref l)) → ρ[i]? = some (some (.tre t xs)) → H' l = H l) : OwnAt H' σ' ρ' i a := by
  obtain ⟨l, e, ⟨⟨t, xs, r⟩, ea⟩ | ⟨t, xs, o, r, hl, m⟩⟩ := h
  · exact ⟨l, by rw [h1]; exact e, .inl ⟨⟨t, xs, by rw [h2]; exact r⟩, ea⟩⟩
  · exact ⟨l, by rw [h1]; exact e, .inr ⟨t, xs, o, by rw [h2]; exact r, by rw [k l t xs e r]; exact hl, m⟩⟩
theorem OwnAt.slot {H : Hp} {σ : St} {ρ : Env} {i : Nat} {a : Addr} (h : OwnAt H σ ρ i a) : ∃ s, ρ[i]? = some (some s) := by
  obtain ⟨l, e, ⟨⟨t, xs, r⟩, ea⟩ | ⟨t, xs, o, r, hl, m⟩⟩ := h
  · exact ⟨_, r⟩
  · exact ⟨_, r⟩

structure Gd (K : PySem.W.Frag) (g : Gx) (F H : Hp) (σ : St) (ρ : Env) : Prop where
  len : σ.length = ρ.length
  slot : ∀ (i : Nat) (s : S), ρ[i]? = some (some s) → SOk K g F H σ[i]? s
  dist : ∀ (i j : Nat) (l : Addr), OwnAt H σ ρ i l → OwnAt H σ ρ j l → i = j
  sub : Same F H
  old : Same g.F0 F
  keep : ∀ b o, g.H0 b = some o → b ∉ g.pa → H b = some o
  grow : ∀ b, H b = none → g.H0 b = none
  new : ∀ b o, F b = some o → g.F0 b = some o ∨ g.H0 b = none
  pinned : ∀ b o, g.pin b = some o → H b = some o ∧ F b = none ∧ ∀ i, ¬ OwnAt H σ ρ i b

/-- only new things have come; they are frozen or free -/
structure Ext (F H F' H' : Hp) : Prop where
  hh : Same H H'
  ff : Same F F'
  sub : Same F' H'
  new : ∀ b o, F' b = some o → F b = some o ∨ H b = none

theorem Ext.refl {F H : Hp} (s : Same F H) : Ext F H F H := ⟨Same.refl _, Same.refl _, s, fun _ _ h => .inl h⟩
theorem Ext.trans {F H F1 H1 F2 H2 : Hp} (a : Ext F H F1 H1) (b : Ext F1 H1 F2 H2) : Ext F H F2 H2 :=
  ⟨a.hh.trans b.hh, a.ff.trans b.ff, b.sub, fun c o h => (b.new c o h).elim (a.new c o) fun q => .inr (a.hh.free q)⟩
/-- a new frozen object -/
theorem Ext.alloc {F H : Hp} (s : Same F H) {p : Addr} (hp : H p = none) (o : HO) : Ext F H (upd F p o) (upd H p o) := by
  have fp : F p = none := s.free hp
  refine ⟨fun b u e => ?_, fun b u e => ?_, fun b u e => ?_, fun b u e => ?_⟩
  · rw [upd_ne (ne_of_none e hp)]; exact e
  · rw [upd_ne (ne_of_none e fp)]; exact e
  · by_cases hb : b = p
    · subst hb; rw [upd_same] at e ⊢; exact e
    · rw [upd_ne hb] at e ⊢; exact s _ _ e
  · by_cases hb : b = p
    · subst hb; exact .inr hp
    · rw [upd_ne hb] at e; exact .inl e
/-- a new object that is owned (not frozen) -/
theorem Ext.lay {F H : Hp} (s : Same F H) {p : Addr} (hp : H p = none) (o : HO) : Ext F H F (upd H p o) :=
  ⟨fun b u e => by rw [upd_ne (ne_of_none e hp)]; exact e, Same.refl _, fun b u e => by rw [upd_ne (ne_of_none (s _ _ e) hp)]; exact s _ _ e, fun _ _ h => .inl h⟩
/-- what is not frozen, but there, is frozen by nothing new -/
theorem Ext.none {F H F' H' : Hp} (x : Ext F H F' H') {l : Addr} {o : HO} (fl : F l = none) (hl : H l = some o) : F' l = none := by
  cases q : F' l with
  | none => rfl
  | some u =>
    rcases x.new l u q with z | z
    · rw [fl] at z; cases z
    · rw [hl] at z; cases z

section
variable {K : PySem.W.Frag} {g : Gx} {F H F' H' : Hp} {σ : St} {ρ : Env}
theorem SOk.ext {o : Option (Option V)} {s : S} (h : SOk K g F H o s) (x : Ext F H F' H') : SOk K g F' H' o s := by
  cases s with
  | d d =>
    obtain ⟨v, e, r⟩ := h
    exact ⟨v, e, r.mono x.ff⟩
  | own t xs =>
    obtain ⟨l, vs, e, tg, fl, hl, r⟩ := h
    exact ⟨l, vs, e, tg, x.none fl hl, x.hh _ _ hl, r.mono x.ff⟩
  | tre t xs =>
    obtain ⟨l, vs, e, tg, fl, hl, r, nd, tx⟩ := h
    refine ⟨l, vs, e, tg, x.none fl hl, x.hh _ _ hl, r.move x.ff fun a m => ?_, nd, tx⟩
    obtain ⟨fa, u, ha, _⟩ := r.at_ a m
    exact ⟨x.none fa ha, by rw [ha, x.hh _ _ ha]⟩
/-- what belongs to a slot -/
theorem Gd.own (G : Gd K g F H σ ρ) {i : Nat} {a : Addr} (h : OwnAt H σ ρ i a) : F a = none ∧ ∃ o, H a = some o ∧ isLst o = true ∧ (g.H0 a = none ∨ a ∈ g.pa) := by
  obtain ⟨l, e, ⟨⟨t, xs, r⟩, ea⟩ | ⟨t, xs, o, r, hl, m⟩⟩ := h
  · subst ea
    obtain ⟨k, vs, e1, tg, fl, hl, rr⟩ := G.slot i _ r
    rw [e] at e1
    cases e1
    exact ⟨fl, vs, hl, by cases rr <;> rfl, tg.x⟩
  · obtain ⟨k, vs, e1, tg, fl, hl', rr, nd, tx⟩ := G.slot i _ r
    rw [e] at e1
    cases e1
    rw [hl] at hl'
    cases hl'
    rcases List.mem_cons.mp m with rfl | m
    · exact ⟨fl, _, hl, rr.isLst, tg.x⟩
    · obtain ⟨fa, u, ha, hu⟩ := rr.at_ a m
      exact ⟨fa, u, ha, hu, (tx a m).x⟩
/-- the root of a tree slot is there -/
theorem Gd.root (G : Gd K g F H σ ρ) {i : Nat} {l : Addr} {t : Option Nat} {xs : D} (e : σ[i]? = some (some (.ref l))) (r : ρ[i]? = some (some (.tre t xs))) : ∃ o, H l = some o := by
  obtain ⟨k, vs, e1, tg, fl, hl', rr, nd, tx⟩ := G.slot i _ r
  rw [e] at e1
  cases e1
  exact ⟨_, hl'⟩
theorem Gd.ownExt (G : Gd K g F H σ ρ) (s : Same H H') {i : Nat} {a : Addr} (h : OwnAt H' σ ρ i a) : OwnAt H σ ρ i a := h.to rfl rfl fun l t xs e r => by
  obtain ⟨o, hl⟩ := G.root e r
  rw [hl, s _ _ hl]
theorem Gd.ext (G : Gd K g F H σ ρ) (x : Ext F H F' H') : Gd K g F' H' σ ρ where
  len := G.len
  slot := fun i s e => (G.slot i s e).ext x
  dist := fun i j l h1 h2 => G.dist i j l (G.ownExt x.hh h1) (G.ownExt x.hh h2)
  sub := x.sub
  old := G.old.trans x.ff
  keep := fun b o h n => x.hh _ _ (G.keep b o h n)
  grow := fun b h => G.grow b (x.hh.free h)
  new := fun b o h => (x.new b o h).elim (G.new b o) fun q => .inr (G.grow b q)
  pinned := fun b o h => by
    obtain ⟨h1, h2, h3⟩ := G.pinned b o h
    exact ⟨x.hh _ _ h1, x.none h2 h1, fun i q => h3 i (G.ownExt x.hh q)⟩
theorem TRep.no {o : HO} {d : D} {l : Addr} (h : TRep K F H o d) {F' : Hp} (s : Same F F') (hF : ∀ a, a ≠ l → F' a = F a) (hn : l ∉ bx o d) : TRep K F' H o d := h.move s fun a m => by
  refine ⟨?_, rfl⟩
  rw [hF a fun e => hn (e ▸ m)]
  exact (h.at_ a m).1
/-- frozen from now on: a list that is in no slot -/
theorem Gd.freeze (G : Gd K g F H σ ρ) {l : Addr} {vs : HO} (hl : H l = some vs) (hf : F l = none) (hn : g.H0 l = none) (hp : g.pin l = none) (no : ∀ i, ¬ OwnAt H σ ρ i l) : Gd K g (upd F l vs) H σ ρ where
  len := G.len
  slot := fun i s e => by
    have q := G.slot i s e
    have sm : Same F (upd F l vs) := fun b u e => by rw [upd_ne (ne_of_none e hf)]; exact e
    cases s with
    | d d => obtain ⟨v, e, r⟩ := q; exact ⟨v, e, r.mono sm⟩
    | own t xs =>
      obtain ⟨k, ws, e1, tg, fk, hk, r⟩ := q
      refine ⟨k, ws, e1, tg, ?_, hk, r.mono sm⟩
      rw [upd_ne]; exact fk
      intro z
      subst z
      exact no i (.of e1 e)
    | tre t xs =>
      obtain ⟨k, ws, e1, tg, fk, hk, r, nd, tx⟩ := q
      have ne : ∀ a ∈ k :: bx ws xs, a ≠ l := fun a m z => no i (.ofT e1 e hk (z ▸ m))
      refine ⟨k, ws, e1, tg, ?_, hk, r.no sm (fun a h => upd_ne h) fun m => ne l (List.mem_cons_of_mem _ m) rfl, nd, tx⟩
      rw [upd_ne (ne k List.mem_cons_self)]; exact fk
  dist := G.dist
  sub := fun b u e => by
    by_cases hb : b = l
    · subst hb; rw [upd_same] at e; cases e; exact hl
    · rw [upd_ne hb] at e; exact G.sub _ _ e
  old := fun b u e => by
    have q := G.old _ _ e
    rw [upd_ne (ne_of_none q hf)]; exact q
  keep := G.keep
  grow := G.grow
  new := fun b u e => by
    by_cases hb : b = l
    · subst hb; exact .inr hn
    · rw [upd_ne hb] at e; exact G.new _ _ e
  pinned := fun b o h => by
    obtain ⟨h1, h2, h3⟩ := G.pinned b o h
    refine ⟨h1, ?_, h3⟩
    rw [upd_ne]; exact h2
    intro z
    subst z
    rw [hp] at h; cases h
end


/-! ### lists that a def owns, lent for a moment -/
mutual
def lf : D → Bool
  | .lst _ => false
  | .dk _ => false
  | .tup l => lfs l
  | .ktp l => lfs l
  | .ins _ _ => false
  | .scr _ => false
  | .box _ => false
  | _ => true
def lfs : List D → Bool
  | [] => true
  | d :: r => lf d && lfs r
def lff : List (Str × D) → Bool
  | [] => true
  | (_, d) :: r => lf d && lff r
end
theorem SqT.keep {K : PySem.W.Frag} {F F' : Hp} (k : ∀ p o, F p = some o → isLst o = false → F' p = some o) {p : Addr} {xs : List V} (h : SqT K F p xs) : SqT K F' p xs := by
  rcases h with (h | ⟨o, h⟩) | h
  · exact .inl (.inl (k _ _ h rfl))
  · exact .inl (.inr ⟨o, k _ _ h rfl⟩)
  · exact .inr h
mutual
theorem Rep.cut {K : PySem.W.Frag} {F F' : Hp} (k : ∀ p o, F p = some o → isLst o = false → F' p = some o) : ∀ {v : V} {d : D}, lf d = true → Rep K F v d → Rep K F' v d
  | _, _, _, .non => .non
  | _, _, _, .bl => .bl
  | _, _, _, .int => .int
  | _, _, _, .str => .str
  | _, _, e, .tup h r => .tup (k _ _ h rfl) (Reps.cut k (by simpa [lf] using e) r)
  | _, _, e, .ktp h r => .ktp (SqT.keep k h) (Reps.cut k (by simpa [lf] using e) r)
  | _, _, e, .ins h r => by simp [lf] at e
  | _, _, _, .cls => .cls
  | _, _, _, .bty => .bty
  | _, _, e, .lst h r => by simp [lf] at e
  | _, _, e, .dk h r => by simp [lf] at e
  | _, _, e, .scr h => by simp [lf] at e
theorem Reps.cut {K : PySem.W.Frag} {F F' : Hp} (k : ∀ p o, F p = some o → isLst o = false → F' p = some o) : ∀ {v : List V} {d : List D}, lfs d = true → Reps K F v d → Reps K F' v d
  | _, _, _, .nil => .nil
  | _, _, e, .cons h r => by
    simp only [lfs, Bool.and_eq_true] at e
    exact .cons (Rep.cut k e.1 h) (Reps.cut k e.2 r)
theorem RepF.cut {K : PySem.W.Frag} {F F' : Hp} (k : ∀ p o, F p = some o → isLst o = false → F' p = some o) : ∀ {v : List (Str × V)} {d : List (Str × D)}, lff d = true → RepF K F v d → RepF K F' v d
  | _, _, _, .nil => .nil
  | _, _, e, .cons h r => by
    simp only [lff, Bool.and_eq_true] at e
    exact .cons (Rep.cut k e.1 h) (RepF.cut k e.2 r)
end

def lfk : List (Key × D) → Bool
  | [] => true
  | (_, d) :: r => lf d && lfk r
/-- nothing in it may be changed -/
def lfo : D → Bool
  | .lst l => lfs l
  | .dk l => lfk l
  | .ins _ l => lff l
  | _ => false
theorem RepK.cut {K : PySem.W.Frag} {F F' : Hp} (k : ∀ p o, F p = some o → isLst o = false → F' p = some o) : ∀ {v : List (Key × V)} {d : List (Key × D)}, lfk d = true → RepK K F v d → RepK K F' v d
  | _, _, _, .nil => .nil
  | _, _, e, .cons h r => by
    simp only [lfk, Bool.and_eq_true] at e
    exact .cons (Rep.cut k e.1 h) (RepK.cut k e.2 r)
theorem ORep.cut {K : PySem.W.Frag} {F F' : Hp} (k : ∀ p o, F p = some o → isLst o = false → F' p = some o) {o : HO} {d : D} (e : lfo d = true) (h : ORep K F o d) : ORep K F' o d := by
  cases h with
  | lst r => exact .lst (r.cut k e)
  | dk r => exact .dk (r.cut k e)
  | ins r => exact .ins (RepF.cut k e r)
theorem ORep.isLst {K : PySem.W.Frag} {F : Hp} {o : HO} {d : D} (h : ORep K F o d) : L3.isLst o = true := by
  cases h <;> rfl

open Classical in
/-- all owned things frozen for a moment -/
noncomputable def lent (σ : St) (ρ : Env) (F H : Hp) : Hp := fun b => if ∃ i, OwnAt H σ ρ i b then H b else F b
open Classical in
/-- and given back -/
noncomputable def back (H : Hp) (σ : St) (ρ : Env) (F : Hp) : Hp := fun b => if ∃ i, OwnAt H σ ρ i b then none else F b
section
variable {K : PySem.W.Frag} {g : Gx} {F H F' H' : Hp} {σ : St} {ρ : Env}
theorem lent_at {i : Nat} {b : Addr} (h : OwnAt H σ ρ i b) : lent σ ρ F H b = H b := by unfold lent; rw [if_pos ⟨i, h⟩]
theorem lent_no {b : Addr} (h : ¬ ∃ i, OwnAt H σ ρ i b) : lent σ ρ F H b = F b := by unfold lent; rw [if_neg h]
theorem Gd.lentF (G : Gd K g F H σ ρ) : Same F (lent σ ρ F H) := fun b o e => by
  by_cases h : ∃ i, OwnAt H σ ρ i b
  · obtain ⟨i, h⟩ := h
    rw [(G.own h).1] at e; cases e
  · rw [lent_no h]; exact e
theorem Gd.lentH (G : Gd K g F H σ ρ) : Same (lent σ ρ F H) H := fun b o e => by
  by_cases h : ∃ i, OwnAt H σ ρ i b
  · obtain ⟨i, h⟩ := h
    rw [lent_at h] at e; exact e
  · rw [lent_no h] at e; exact G.sub _ _ e
/-- a lent thing is data -/
theorem Gd.lentRep (G : Gd K g F H σ ρ) {i : Nat} {t : Option Nat} {xs : D} (h : ρ[i]? = some (some (.own t xs))) {v : V} (hv : σ[i]? = some (some v)) : Rep K (lent σ ρ F H) v xs := by
  obtain ⟨l, vs, e1, tg, fl, hl, rr⟩ := G.slot i _ h
  rw [hv] at e1
  cases e1
  have o : OwnAt H σ ρ i l := .of hv h
  exact (rr.mono G.lentF).rep (by rw [lent_at o]; exact hl)
theorem Gd.lentTre (G : Gd K g F H σ ρ) {i : Nat} {t : Option Nat} {xs : D} (h : ρ[i]? = some (some (.tre t xs))) {v : V} (hv : σ[i]? = some (some v)) : Rep K (lent σ ρ F H) v (ub xs) := by
  obtain ⟨l, vs, e1, tg, fl, hl, rr, nd, tx⟩ := G.slot i _ h
  rw [hv] at e1
  cases e1
  have o : OwnAt H σ ρ i l := .ofT hv h hl List.mem_cons_self
  exact (rr.orep G.lentF fun a m => lent_at (.ofT hv h hl (List.mem_cons_of_mem _ m))).rep (by rw [lent_at o]; exact hl)
/-- behind an operation on lent things -/
theorem Gd.lentBack (G : Gd K g F H σ ρ) (x : Ext (lent σ ρ F H) H F' H') : Ext F H (back H σ ρ F') H' ∧ ∀ {w : V} {c : D}, lf c = true → Rep K F' w c → Rep K (back H σ ρ F') w c := by
  have nb : ∀ b, (¬ ∃ i, OwnAt H σ ρ i b) → back H σ ρ F' b = F' b := fun b h => by unfold back; rw [if_neg h]
  have yb : ∀ b, (∃ i, OwnAt H σ ρ i b) → back H σ ρ F' b = none := fun b h => by unfold back; rw [if_pos h]
  refine ⟨⟨x.hh, fun b o e => ?_, fun b o e => ?_, fun b o e => ?_⟩, fun {w c} e r => r.cut (fun p o e q => ?_) e⟩
  · by_cases h : ∃ i, OwnAt H σ ρ i b
    · obtain ⟨i, h⟩ := h
      rw [(G.own h).1] at e; cases e
    · rw [nb b h]
      exact x.ff _ _ (by rw [lent_no h]; exact e)
  · by_cases h : ∃ i, OwnAt H σ ρ i b
    · rw [yb b h] at e; cases e
    · rw [nb b h] at e
      exact x.sub _ _ e
  · by_cases h : ∃ i, OwnAt H σ ρ i b
    · rw [yb b h] at e; cases e
    · rw [nb b h] at e
      rcases x.new b o e with z | z
      · rw [lent_no h] at z; exact .inl z
      · exact .inr z
  · by_cases h : ∃ i, OwnAt H σ ρ i p
    · obtain ⟨i, h⟩ := h
      obtain ⟨_, u, hl, hu, _⟩ := G.own h
      have z := x.sub _ _ e
      rw [x.hh _ _ hl] at z
      cases z
      rw [hu] at q
      cases q
    · rw [nb p h]; exact e
end

/-! ### operands: a value, or a list that the def owns, by its slot -/
inductive Opd where
  | val (d : D)
  | ref (i : Nat)
  | io (i : Nat)
abbrev EM := Env → Option (D × Env)
abbrev NM := Env → Option (D × Env)
abbrev TM := Env → Option (Bool × Env)
abbrev OM := Env → Option (Opd × Env)
abbrev AM := Env → Option (List Opd × Env)
def OpdOk (K : PySem.W.Frag) (F : Hp) (σ : St) (v : V) : Opd → Prop
  | .val d => Rep K F v d
  | .ref i => σ[i]? = some (some v)
  | .io i => σ[i]? = some (some v)
inductive OpdsOk (K : PySem.W.Frag) (F : Hp) (σ : St) : List V → List Opd → Prop
  | nil : OpdsOk K F σ [] []
  | cons {v : V} {vs : List V} {o : Opd} {os : List Opd} : OpdOk K F σ v o → OpdsOk K F σ vs os → OpdsOk K F σ (v :: vs) (o :: os)
theorem OpdOk.mono {K : PySem.W.Frag} {F F' : Hp} {σ : St} {v : V} {o : Opd} (s : Same F F') (h : OpdOk K F σ v o) : OpdOk K F' σ v o := by
  cases o with
  | val d => exact Rep.mono s h
  | ref i => exact h
  | io i => exact h
theorem OpdsOk.mono {K : PySem.W.Frag} {F F' : Hp} {σ : St} (s : Same F F') : ∀ {vs : List V} {os : List Opd}, OpdsOk K F σ vs os → OpdsOk K F' σ vs os
  | _, _, .nil => .nil
  | _, _, .cons h r => .cons (h.mono s) (r.mono s)

def tE (K : PySem.W.Frag) (g : Gx) (f : EM) : TE := fun σ H Q => ∃ F ρ d ρ', Gd K g F H σ ρ ∧ f ρ = some (d, ρ') ∧
  ∀ v F' H', Gd K g F' H' σ ρ' → Same F F' → Rep K F' v d → Q v H'
def tO (K : PySem.W.Frag) (g : Gx) (f : OM) : TE := fun σ H Q => ∃ F ρ o ρ', Gd K g F H σ ρ ∧ f ρ = some (o, ρ') ∧
  ∀ v F' H', Gd K g F' H' σ ρ' → Same F F' → OpdOk K F' σ v o → Q v H'
def tA (K : PySem.W.Frag) (g : Gx) (f : AM) : TA := fun σ H Q => ∃ F ρ os ρ', Gd K g F H σ ρ ∧ f ρ = some (os, ρ') ∧
  ∀ vs F' H', Gd K g F' H' σ ρ' → Same F F' → OpdsOk K F' σ vs os → Q vs H'
/-- a fresh list -/
def tN (K : PySem.W.Frag) (g : Gx) (f : NM) : TE := fun σ H Q => ∃ F ρ ds ρ', Gd K g F H σ ρ ∧ f ρ = some (ds, ρ') ∧
  ∀ l o F' H', Gd K g F' H' σ ρ' → Same F F' → H' l = some o → F' l = none → g.H0 l = none → g.pin l = none → (∀ i, ¬ OwnAt H' σ ρ' i l) → ORep K F' o ds → Q (.ref l) H'
/-- at l lies a thing with boxes that belongs to nobody yet -/
structure FrT (K : PySem.W.Frag) (g : Gx) (F H : Hp) (σ : St) (ρ : Env) (l : Addr) (o : HO) (x : D) : Prop where
  at_ : H l = some o
  rep : TRep K F H o x
  nd : (l :: bx o x).Nodup
  fr : ∀ a ∈ l :: bx o x, F a = none ∧ g.H0 a = none ∧ g.pin a = none ∧ ∀ i, ¬ OwnAt H σ ρ i a
/-- a fresh thing with boxes -/
def tR (K : PySem.W.Frag) (g : Gx) (f : NM) : TE := fun σ H Q => ∃ F ρ ds ρ', Gd K g F H σ ρ ∧ f ρ = some (ds, ρ') ∧
  ∀ l o F' H', Gd K g F' H' σ ρ' → Same F F' → FrT K g F' H' σ ρ' l o ds → Q (.ref l) H'
def tT (K : PySem.W.Frag) (g : Gx) (f : TM) : TT := fun σ H Q => ∃ F ρ b ρ', Gd K g F H σ ρ ∧ f ρ = some (b, ρ') ∧
  ∀ F' H', Gd K g F' H' σ ρ' → Same F F' → Q b H'

abbrev DE (X : Cx) (g : Gx) (e : Expr) (f : EM) : Prop := PE X e (tE X.K g f)
abbrev DO (X : Cx) (g : Gx) (e : Expr) (f : OM) : Prop := PE X e (tO X.K g f)
abbrev DN (X : Cx) (g : Gx) (e : Expr) (f : NM) : Prop := PE X e (tN X.K g f)
abbrev DR (X : Cx) (g : Gx) (e : Expr) (f : NM) : Prop := PE X e (tR X.K g f)
abbrev DT (X : Cx) (g : Gx) (e : Expr) (f : TM) : Prop := PT X e (tT X.K g f)
abbrev DA (X : Cx) (g : Gx) (es : List Expr) (f : AM) : Prop := PA X es (tA X.K g f)
theorem weakPE {X : Cx} {e : Expr} {t t' : TE} (h : PE X e t) (w : ∀ σ H Q, t' σ H Q → t σ H Q) : PE X e t' := ⟨fun pins s σ H Q I q => h.run pins s σ H Q I (w σ H Q q)⟩
theorem weakPT {X : Cx} {e : Expr} {t t' : TT} (h : PT X e t) (w : ∀ σ H Q, t' σ H Q → t σ H Q) : PT X e t' := ⟨fun pins s σ H Q I q => h.run pins s σ H Q I (w σ H Q q)⟩
theorem weakPW {X : Cx} {e : Expr} {t t' : TT} (h : PW X e t) (w : ∀ σ H Q, t' σ H Q → t σ H Q) : PW X e t' := ⟨fun wh pins s σ H Q I q => h.run wh pins s σ H Q I (w σ H Q q)⟩
theorem weakPA {X : Cx} {e : List Expr} {t t' : TA} (h : PA X e t) (w : ∀ σ H Q, t' σ H Q → t σ H Q) : PA X e t' := ⟨fun p pins s σ H Q I q => h.run p pins s σ H Q I (w σ H Q q)⟩
theorem weakPS {X : Cx} {e : Stmt} {t t' : TS} (h : PS X e t) (w : ∀ D σ H, t' D σ H → t D σ H) : PS X e t' := ⟨fun pins s σ H D I q => h.run pins s σ H D I (w D σ H q)⟩
theorem weakPSs {X : Cx} {e : List Stmt} {t t' : TS} (h : PSs X e t) (w : ∀ D σ H, t' D σ H → t D σ H) : PSs X e t' := ⟨fun pins s σ H D I q => h.run pins s σ H D I (w D σ H q)⟩

/-! the mirrors of expressions -/
def nE (f : NM) : EM := f
def eC (d : D) : EM := fun ρ => some (d, ρ)
def eV (i : Nat) : EM := fun ρ => match ρ[i]? with
  | some (some (.d x)) => some (x, ρ)
  | _ => none
def oV (f : EM) : OM := fun ρ => (f ρ).bind fun p => some (.val p.1, p.2)
/-- the own list of slot i, lent -/
def oR (i : Nat) : OM := fun ρ => match ρ[i]? with
  | some (some (.own _ _)) => some (.ref i, ρ)
  | some (some (.tre _ _)) => some (.ref i, ρ)
  | _ => none
/-- .. handed on to be changed -/
def oI (i : Nat) : OM := fun ρ => match ρ[i]? with
  | some (some (.own _ _)) => some (.io i, ρ)
  | some (some (.tre _ _)) => some (.io i, ρ)
  | _ => none
/-- an operand's data now -/
def res (ρ : Env) : Opd → Option D
  | .val d => some d
  | .ref i => match ρ[i]? with
    | some (some (.own _ x)) => some x
    | some (some (.tre _ x)) => some (ub x)
    | _ => none
  | .io _ => none
def isVal : Opd → Bool
  | .val _ => true
  | _ => false
def resAll (ρ : Env) : List Opd → Option (List D)
  | [] => some []
  | o :: r => (res ρ o).bind fun d => (resAll ρ r).bind fun ds => some (d :: ds)
def allVal (os : List Opd) : Bool := os.all isVal
/-- what an operation on operands gives -/
def fin (v : Bool) (c : D) (ρ : Env) : Option (D × Env) := if v || lf c then some (c, ρ) else none
def e1 (k : D → Option D) (f : OM) : EM := fun ρ => (f ρ).bind fun p => (res p.2 p.1).bind fun a => (k a).bind fun c => fin (isVal p.1) c p.2
def e2 (k : D → D → Option D) (f h : OM) : EM := fun ρ => (f ρ).bind fun p => (h p.2).bind fun q => (res q.2 p.1).bind fun a => (res q.2 q.1).bind fun b => (k a b).bind fun c => fin (isVal p.1 && isVal q.1) c q.2
def eL (k : List D → Option D) (f : AM) : EM := fun ρ => (f ρ).bind fun p => (resAll p.2 p.1).bind fun as => (k as).bind fun c => fin (allVal p.1) c p.2
def aN : AM := fun ρ => some ([], ρ)
def aC (f : OM) (h : AM) : AM := fun ρ => (f ρ).bind fun p => (h p.2).bind fun q => some (p.1 :: q.1, q.2)

/-- operations that only make new frozen things -/
def Op1 (K : PySem.W.Frag) (r : V → Hp → VK → Prop) (k : D → Option D) : Prop := ∀ (F H : Hp) (v : V) (a c : D) (Q : VK), Same F H → Rep K F v a → k a = some c →
  (∀ w F' H', Ext F H F' H' → Rep K F' w c → Q w H') → r v H Q
def Op2 (K : PySem.W.Frag) (r : R2) (k : D → D → Option D) : Prop := ∀ (F H : Hp) (v u : V) (a b c : D) (Q : VK), Same F H → Rep K F v a → Rep K F u b → k a b = some c →
  (∀ w F' H', Ext F H F' H' → Rep K F' w c → Q w H') → r v u H Q
def OpL (K : PySem.W.Frag) (r : List V → Hp → VK → Prop) (k : List D → Option D) : Prop := ∀ (F H : Hp) (vs : List V) (as : List D) (c : D) (Q : VK), Same F H → Reps K F vs as → k as = some c →
  (∀ w F' H', Ext F H F' H' → Rep K F' w c → Q w H') → r vs H Q

section
variable {K : PySem.W.Frag} {g : Gx} {F H F' H' : Hp} {σ : St} {ρ ρ' : Env}
theorem bnd {α β : Type} {o : Option α} {k : α → Option β} {b : β} (h : o.bind k = some b) : ∃ a, o = some a ∧ k a = some b := Option.bind_eq_some_iff.mp h
/-- the operand as data of the lent heap -/
theorem Gd.lentOpd (G : Gd K g F H σ ρ) {o : Opd} {v : V} {a : D} (h : OpdOk K F σ v o) (e : res ρ o = some a) : Rep K (lent σ ρ F H) v a := by
  cases o with
  | val d =>
    have e' : some d = some a := e
    cases e'
    exact Rep.mono G.lentF h
  | ref i =>
    simp only [res] at e
    split at e
    · rename_i t xs hx
      cases e
      exact G.lentRep hx h
    · rename_i t xs hx
      cases e
      exact G.lentTre hx h
    · cases e
  | io i => cases e
theorem Gd.lentOpds (G : Gd K g F H σ ρ) : ∀ {os : List Opd} {vs : List V} {as : List D}, OpdsOk K F σ vs os → resAll ρ os = some as → Reps K (lent σ ρ F H) vs as
  | _, _, _, .nil, e => by
    unfold resAll at e
    cases e
    exact .nil
  | _, _, _, .cons h r, e => by
    unfold resAll at e
    obtain ⟨d, e1, e⟩ := bnd e
    obtain ⟨ds, e2, e⟩ := bnd e
    cases e
    exact .cons (G.lentOpd h e1) (G.lentOpds r e2)
theorem valOpd {o : Opd} {v : V} {a : D} (h : OpdOk K F σ v o) (e : res ρ o = some a) (hv : isVal o = true) : Rep K F v a := by
  cases o with
  | val d =>
    have e' : some d = some a := e
    cases e'
    exact h
  | ref i => cases hv
  | io i => cases hv
theorem valOpds : ∀ {os : List Opd} {vs : List V} {as : List D}, OpdsOk K F σ vs os → resAll ρ os = some as → allVal os = true → Reps K F vs as
  | _, _, _, .nil, e, _ => by
    unfold resAll at e
    cases e
    exact .nil
  | _, _, _, .cons h r, e, hv => by
    unfold resAll at e
    obtain ⟨d, e1, e⟩ := bnd e
    obtain ⟨ds, e2, e⟩ := bnd e
    cases e
    have q : _ ∧ _ := Bool.and_eq_true_iff.mp (show (isVal _ && allVal _) = true from hv)
    exact .cons (valOpd h e1 q.1) (valOpds r e2 q.2)
/-- the end of an operation: vl tells that all operands are values (then nothing is lent) -/
theorem Gd.opEnd (G : Gd K g F H σ ρ) {vl : Bool} {c d : D} {Q : VK} {R : VK → Prop} (hf : L3.fin vl c ρ = some (d, ρ')) (q : ∀ w F' H', Gd K g F' H' σ ρ' → Same F F' → Rep K F' w d → Q w H')
    (hv : vl = true → (∀ w F' H', Ext F H F' H' → Rep K F' w c → Q w H') → R Q)
    (hl : (∀ w F' H', Ext (lent σ ρ F H) H F' H' → Rep K F' w c → Q w H') → R Q) : R Q := by
  unfold L3.fin at hf
  cases vl with
  | true =>
    rw [Bool.true_or, if_pos rfl] at hf
    cases hf
    exact hv rfl fun w F' H' x r => q w F' H' (G.ext x) x.ff r
  | false =>
    rw [Bool.false_or] at hf
    split at hf
    · rename_i e
      cases hf
      refine hl fun w F' H' x r => ?_
      obtain ⟨x', k⟩ := G.lentBack x
      exact q w _ H' (G.ext x') x'.ff (k e r)
    · cases hf
theorem Gd.op1 (G : Gd K g F H σ ρ) {r : V → Hp → VK → Prop} {k : D → Option D} (hk : Op1 K r k) {o : Opd} {v : V} {a c d : D} {Q : VK} (h : OpdOk K F σ v o) (e : res ρ o = some a) (ec : k a = some c) (hf : L3.fin (isVal o) c ρ = some (d, ρ'))
    (q : ∀ w F' H', Gd K g F' H' σ ρ' → Same F F' → Rep K F' w d → Q w H') : r v H Q :=
  G.opEnd (R := fun Q => r v H Q) hf q (fun hv q' => hk F H v a c Q G.sub (valOpd h e hv) ec q') (fun q' => hk _ H v a c Q G.lentH (G.lentOpd h e) ec q')
theorem Gd.op2 (G : Gd K g F H σ ρ) {r : R2} {k : D → D → Option D} (hk : Op2 K r k) {o p : Opd} {v u : V} {a b c d : D} {Q : VK} (h : OpdOk K F σ v o) (h' : OpdOk K F σ u p) (e : res ρ o = some a) (e' : res ρ p = some b) (ec : k a b = some c)
    (hf : L3.fin (isVal o && isVal p) c ρ = some (d, ρ')) (q : ∀ w F' H', Gd K g F' H' σ ρ' → Same F F' → Rep K F' w d → Q w H') : r v u H Q :=
  G.opEnd (R := fun Q => r v u H Q) hf q (fun hv q' => hk F H v u a b c Q G.sub (valOpd h e (Bool.and_eq_true_iff.mp hv).1) (valOpd h' e' (Bool.and_eq_true_iff.mp hv).2) ec q')
    (fun q' => hk _ H v u a b c Q G.lentH (G.lentOpd h e) (G.lentOpd h' e') ec q')
theorem Gd.opL (G : Gd K g F H σ ρ) {r : List V → Hp → VK → Prop} {k : List D → Option D} (hk : OpL K r k) {os : List Opd} {vs : List V} {as : List D} {c d : D} {Q : VK} (h : OpdsOk K F σ vs os) (e : resAll ρ os = some as) (ec : k as = some c)
    (hf : L3.fin (allVal os) c ρ = some (d, ρ')) (q : ∀ w F' H', Gd K g F' H' σ ρ' → Same F F' → Rep K F' w d → Q w H') : r vs H Q :=
  G.opEnd (R := fun Q => r vs H Q) hf q (fun hv q' => hk F H vs as c Q G.sub (valOpds h e hv) ec q') (fun q' => hk _ H vs as c Q G.lentH (G.lentOpds h e) ec q')
end

section
variable {X : Cx} {g : Gx} {a b c ex : Expr} {es : List Expr} {f f1 f2 f3 : OM} {fe : EM} {fa : AM} {pos : Pos}
/-- fresh, then frozen -/
theorem de_n {n : NM} (h : DN X g ex n) : DE X g ex n := weakPE h fun σ H Q ⟨F, ρ, d, ρ', G, hf, q⟩ => by
  refine ⟨F, ρ, d, ρ', G, hf, fun l vs F' H' G' sm hl hf hn hp no r => ?_⟩
  have sm' : Same F' (upd F' l vs) := fun b u e => by rw [upd_ne (ne_of_none e hf)]; exact e
  exact q _ _ _ (G'.freeze hl hf hn hp no) (sm.trans sm') ((r.mono sm').rep upd_same)
theorem de_c {d : D} {v : V} (h : PE X ex (tC v)) (r : ∀ F, Rep X.K F v d) : DE X g ex (eC d) := weakPE h fun σ H Q ⟨F, ρ, d', ρ', G, hf, q⟩ => by
  cases hf
  exact q v F H G (Same.refl _) (r F)
theorem de_int {i : Int} {j : Nat} : DE X g (.Constant (.int i) j pos) (eC (.int i)) := de_c pe_int fun _ => .int
theorem de_bl {i : Bool} {j : Nat} : DE X g (.Constant (.bool i) j pos) (eC (.bl i)) := de_c pe_bl fun _ => .bl
theorem de_non {j : Nat} : DE X g (.Constant .none j pos) (eC .non) := de_c pe_non fun _ => .non
theorem de_str {x : Str} {j : Nat} : DE X g (.Constant (.str x) j pos) (eC (.str x)) := de_c pe_str fun _ => .str
theorem de_v {i : Nat} (h : PE X ex (tVar i)) : DE X g ex (eV i) := weakPE h fun σ H Q ⟨F, ρ, d, ρ', G, hf, q⟩ => by
  unfold eV at hf
  split at hf
  · rename_i x hx
    cases hf
    obtain ⟨v, e, r⟩ := G.slot i _ hx
    exact ⟨v, e, q v F H G (Same.refl _) r⟩
  · cases hf
theorem do_v (h : DE X g ex fe) : DO X g ex (oV fe) := weakPE h fun σ H Q ⟨F, ρ, d, ρ', G, hf, q⟩ => by
  obtain ⟨p, en, hf⟩ := bnd hf
  cases hf
  exact ⟨F, ρ, p.1, p.2, G, en, fun v F' H' G' sm r => q v F' H' G' sm r⟩
theorem do_r {i : Nat} (h : PE X ex (tVar i)) : DO X g ex (oR i) := weakPE h fun σ H Q ⟨F, ρ, d, ρ', G, hf, q⟩ => by
  unfold oR at hf
  split at hf
  · rename_i t xs hx
    cases hf
    obtain ⟨l, vs, e, r⟩ := G.slot i _ hx
    exact ⟨.ref l, e, q _ F H G (Same.refl _) e⟩
  · rename_i t xs hx
    cases hf
    obtain ⟨l, vs, e, r⟩ := G.slot i _ hx
    exact ⟨.ref l, e, q _ F H G (Same.refl _) e⟩
  · cases hf
theorem do_i {i : Nat} (h : PE X ex (tVar i)) : DO X g ex (oI i) := weakPE h fun σ H Q ⟨F, ρ, d, ρ', G, hf, q⟩ => by
  unfold oI at hf
  split at hf
  · rename_i t xs hx
    cases hf
    obtain ⟨l, vs, e, r⟩ := G.slot i _ hx
    exact ⟨.ref l, e, q _ F H G (Same.refl _) e⟩
  · rename_i t xs hx
    cases hf
    obtain ⟨l, vs, e, r⟩ := G.slot i _ hx
    exact ⟨.ref l, e, q _ F H G (Same.refl _) e⟩
  · cases hf
theorem da_n : DA X g [] aN := weakPA pa_nil fun σ H Q ⟨F, ρ, d, ρ', G, hf, q⟩ => by
  cases hf
  exact q _ F H G (Same.refl _) .nil
theorem da_c (h : DO X g ex f) (hr : DA X g es fa) (hs : starEach (ex :: es) X.env = (false, eval ex X.env) :: starEach es X.env := by rfl) : DA X g (ex :: es) (aC f fa) := weakPA (pa_cons h hr hs) fun σ H Q ⟨F, ρ, d, ρ', G, hf, q⟩ => by
  obtain ⟨p, e1, hf⟩ := bnd hf
  obtain ⟨p', e2, hf⟩ := bnd hf
  cases hf
  exact ⟨F, ρ, p.1, p.2, G, e1, fun v F1 H1 G1 s1 r1 => ⟨F1, p.2, p'.1, p'.2, G1, e2, fun vs F2 H2 G2 s2 r2 => q _ F2 H2 G2 (s1.trans s2) (.cons (r1.mono s2) r2)⟩⟩

theorem op1_t {r : V → Hp → VK → Prop} {k : D → Option D} (hk : Op1 X.K r k) {σ : St} {H : Hp} {Q : VK} (h : tE X.K g (e1 k f) σ H Q) : tUn r (tO X.K g f) σ H Q := by
  obtain ⟨F, ρ, d, ρ', G, hf, q⟩ := h
  obtain ⟨p, e1, hf⟩ := bnd hf
  obtain ⟨x, e2, hf⟩ := bnd hf
  obtain ⟨c, e3, hf⟩ := bnd hf
  exact ⟨F, ρ, p.1, p.2, G, e1, fun v F1 H1 G1 s1 r1 => G1.op1 hk r1 e2 e3 hf fun w F2 H2 G2 s2 r2 => q w F2 H2 G2 (s1.trans s2) r2⟩
theorem op2_t {r : R2} {k : D → D → Option D} (hk : Op2 X.K r k) {σ : St} {H : Hp} {Q : VK} (h : tE X.K g (e2 k f1 f2) σ H Q) : tOp r (tO X.K g f1) (tO X.K g f2) σ H Q := by
  obtain ⟨F, ρ, d, ρ', G, hf, q⟩ := h
  obtain ⟨p, e1, hf⟩ := bnd hf
  obtain ⟨p', e1', hf⟩ := bnd hf
  obtain ⟨x, e2, hf⟩ := bnd hf
  obtain ⟨x', e2', hf⟩ := bnd hf
  obtain ⟨c, e3, hf⟩ := bnd hf
  exact ⟨F, ρ, p.1, p.2, G, e1, fun v F1 H1 G1 s1 r1 => ⟨F1, p.2, p'.1, p'.2, G1, e1', fun u F2 H2 G2 s2 r2 => G2.op2 hk (r1.mono s2) r2 e2 e2' e3 hf fun w F3 H3 G3 s3 r3 => q w F3 H3 G3 ((s1.trans s2).trans s3) r3⟩⟩
theorem opL_t {r : List V → Hp → VK → Prop} {k : List D → Option D} (hk : OpL X.K r k) {σ : St} {H : Hp} {Q : VK} (h : tE X.K g (eL k fa) σ H Q) : tCB r (tA X.K g fa) σ H Q := by
  obtain ⟨F, ρ, d, ρ', G, hf, q⟩ := h
  obtain ⟨p, e1, hf⟩ := bnd hf
  obtain ⟨x, e2, hf⟩ := bnd hf
  obtain ⟨c, e3, hf⟩ := bnd hf
  exact ⟨F, ρ, p.1, p.2, G, e1, fun v F1 H1 G1 s1 r1 => G1.opL hk r1 e2 e3 hf fun w F2 H2 G2 s2 r2 => q w F2 H2 G2 (s1.trans s2) r2⟩
theorem de_bin {op : Operator} {r : R2} {k : D → D → Option D} (ho : OpR X (binaryOp op) r) (hk : Op2 X.K r k) (ha : DO X g a f1) (hb : DO X g b f2) : DE X g (.BinOp a op b pos) (e2 k f1 f2) :=
  weakPE (pe_op ho ha hb) fun _ _ _ h => op2_t hk h
theorem de_cmp {op : CmpOp} {r : R2} {k : D → D → Option D} (ho : OpR X (compareOp op) r) (hk : Op2 X.K r k) (ha : DO X g a f1) (hb : DO X g b f2) (h1 : behindInMarks op b = false := by rfl) : DE X g (.Compare a [op] [b] pos) (e2 k f1 f2) :=
  weakPE (pe_cmpR ho ha hb h1) fun _ _ _ h => op2_t hk h
theorem de_ix {r : R2} {k : D → D → Option D} (ho : IxR X r) (hk : Op2 X.K r k) (ha : DO X g a f1) (hb : DO X g b f2) (hs : PlainIx b := by exact fun _ _ => rfl) : DE X g (.Subscript a b pos) (e2 k f1 f2) :=
  weakPE (pe_ix ho ha hb hs) fun _ _ _ h => op2_t hk h
theorem de_un {op : UnaryOp} {r : V → Hp → VK → Prop} {k : D → Option D} (ho : UnR X (unaryOp op) r) (hk : Op1 X.K r k) (ha : DO X g a f) : DE X g (.UnaryOp op a pos) (e1 k f) :=
  weakPE (pe_un ho ha) fun _ _ _ h => op1_t hk h
theorem de_callB {id : String} {x : Str} {p : Pos} {r : List V → Hp → VK → Prop} {k : List D → Option D} (hc : CallR X (.builtin id) r) (hk : OpL X.K r k) (hg : Gl X x) (hm : X.mg x = none) (hv : bootBuiltins x = some (.builtin id)) (ha : DA X g (ex :: es) fa)
    (hn : x ≠ "__name__" := by decide) (hdb : (x == ("__debug__" : Str)) = false := by decide) 
    (h1 : starEach (ex :: es) X.env = (false, eval ex X.env) :: starEach es X.env := by rfl) (h2 : (backTo pos (starEach es X.env)).any (·.1) = false := by rfl) : DE X g (.Call (.Name x p) (ex :: es) [] pos) (eL k fa) :=
  weakPE (pe_callB hc hg hm hv ha hn hdb h1 h2) fun _ _ _ h => opL_t hk h
theorem de_callTy {id : String} {x : Str} {p : Pos} {r : List V → Hp → VK → Prop} {k : List D → Option D} (hc : CallR X (.type id) r) (hk : OpL X.K r k) (hg : Gl X x) (hm : X.mg x = none) (hv : bootBuiltins x = some (.type id)) (ha : DA X g (ex :: es) fa)
    (hn : x ≠ "__name__" := by decide) (hdb : (x == ("__debug__" : Str)) = false := by decide) 
    (h1 : starEach (ex :: es) X.env = (false, eval ex X.env) :: starEach es X.env := by rfl) (h2 : (backTo pos (starEach es X.env)).any (·.1) = false := by rfl) : DE X g (.Call (.Name x p) (ex :: es) [] pos) (eL k fa) :=
  weakPE (pe_callTy hc hg hm hv ha hn hdb h1 h2) fun _ _ _ h => opL_t hk h
end
end L3

namespace L3
open PySem L2

/-! ### slots written -/
theorem get_set {α : Type} {l : List α} {i j : Nat} {x y : α} (h : (l.set i x)[j]? = some y) : (j = i ∧ y = x ∧ i < l.length) ∨ (j ≠ i ∧ l[j]? = some y) := by
  by_cases e : j = i
  · subst e
    by_cases hl : j < l.length
    · rw [List.getElem?_set_self hl] at h
      cases h
      exact .inl ⟨rfl, rfl, hl⟩
    · rw [List.set_eq_of_length_le (by omega)] at h
      have := (List.getElem?_eq_some_iff.mp h).1
      omega
  · rw [List.getElem?_set_ne (Ne.symm e)] at h
    exact .inr ⟨e, h⟩
section
variable {K : PySem.W.Frag} {g : Gx} {F H F' H' : Hp} {σ : St} {ρ ρ' : Env}
theorem Gd.lt (G : Gd K g F H σ ρ) {i : Nat} (h : i < ρ.length) : i < σ.length := by rw [G.len]; exact h
theorem OwnAt.ne {H : Hp} {σ : St} {ρ : Env} {i j : Nat} {v : Option V} {s : Option S} {a : Addr} (h : OwnAt H (σ.set i v) (ρ.set i s) j a) (ne : j ≠ i) : OwnAt H σ ρ j a :=
  h.to (by rw [List.getElem?_set_ne (Ne.symm ne)]) (by rw [List.getElem?_set_ne (Ne.symm ne)]) fun _ _ _ _ _ => rfl
theorem OwnAt.neR {H : Hp} {σ : St} {ρ : Env} {i j : Nat} {s : Option S} {a : Addr} (h : OwnAt H σ (ρ.set i s) j a) (ne : j ≠ i) : OwnAt H σ ρ j a :=
  h.to rfl (by rw [List.getElem?_set_ne (Ne.symm ne)]) fun _ _ _ _ _ => rfl
theorem OwnAt.of_set {H : Hp} {i j : Nat} {v : Option V} {s : Option S} {l : Addr} (hn : (∃ x, s = some (.d x)) ∨ s = none) (h : OwnAt H (σ.set i v) (ρ.set i s) j l) : OwnAt H σ ρ j l := by
  refine h.ne fun e => ?_
  subst e
  obtain ⟨l, e, ⟨⟨t, xs, r⟩, ea⟩ | ⟨t, xs, o, r, hl, m⟩⟩ := h
  · rcases get_set r with ⟨_, h2, _⟩ | ⟨h1, _⟩
    · rcases hn with ⟨x, hn⟩ | hn <;> (rw [hn] at h2; cases h2)
    · exact h1 rfl
  · rcases get_set r with ⟨_, h2, _⟩ | ⟨h1, _⟩
    · rcases hn with ⟨x, hn⟩ | hn <;> (rw [hn] at h2; cases h2)
    · exact h1 rfl
/-- a slot gets data -/
theorem Gd.setD (G : Gd K g F H σ ρ) (i : Nat) {v : V} {x : D} (r : Rep K F v x) : Gd K g F H (σ.set i (some v)) (ρ.set i (some (.d x))) where
  len := by simp [G.len]
  slot := fun j s e => by
    rcases get_set e with ⟨h1, h2, h3⟩ | ⟨h1, h2⟩
    · subst h1; cases h2
      refine ⟨v, ?_, r⟩
      rw [List.getElem?_set_self (G.lt h3)]
    · rw [List.getElem?_set_ne (Ne.symm h1)]
      exact G.slot j s h2
  dist := fun a b l h1 h2 => G.dist a b l (h1.of_set (.inl ⟨_, rfl⟩)) (h2.of_set (.inl ⟨_, rfl⟩))
  sub := G.sub
  old := G.old
  keep := G.keep
  grow := G.grow
  new := G.new
  pinned := fun b o h => ⟨(G.pinned b o h).1, (G.pinned b o h).2.1, fun j q => (G.pinned b o h).2.2 j (q.of_set (.inl ⟨_, rfl⟩))⟩
/-- a slot is forgotten -/
theorem Gd.setN (G : Gd K g F H σ ρ) (i : Nat) (v : Option V) : Gd K g F H (σ.set i v) (ρ.set i none) where
  len := by simp [G.len]
  slot := fun j s e => by
    rcases get_set e with ⟨h1, h2, h3⟩ | ⟨h1, h2⟩
    · cases h2
    · rw [List.getElem?_set_ne (Ne.symm h1)]
      exact G.slot j s h2
  dist := fun a b l h1 h2 => G.dist a b l (h1.of_set (.inr rfl)) (h2.of_set (.inr rfl))
  sub := G.sub
  old := G.old
  keep := G.keep
  grow := G.grow
  new := G.new
  pinned := fun b o h => ⟨(G.pinned b o h).1, (G.pinned b o h).2.1, fun j q => (G.pinned b o h).2.2 j (q.of_set (.inr rfl))⟩
/-- what a slot has got, behind a store of an own thing -/
theorem own_set {H : Hp} {σ : St} {ρ : Env} {i j : Nat} {l b : Addr} {t : Option Nat} {xs : D} (hl : i < σ.length) (h : OwnAt H (σ.set i (some (.ref l))) (ρ.set i (some (.own t xs))) j b) : (j = i ∧ b = l) ∨ (j ≠ i ∧ OwnAt H σ ρ j b) := by
  by_cases e : j = i
  · subst e
    obtain ⟨k, e1, ⟨⟨t', ys, r⟩, ea⟩ | ⟨t', ys, o, r, hk, m⟩⟩ := h
    · rw [List.getElem?_set_self hl] at e1
      cases e1
      exact .inl ⟨rfl, ea⟩
    · rcases get_set r with ⟨_, h2, _⟩ | ⟨h1, _⟩
      · cases h2
      · exact absurd rfl h1
  · exact .inr ⟨e, h.ne e⟩
theorem own_setT {H : Hp} {σ : St} {ρ : Env} {i j : Nat} {l b : Addr} {t : Option Nat} {xs : D} {o : HO} (hl : i < σ.length) (ho : H l = some o) (h : OwnAt H (σ.set i (some (.ref l))) (ρ.set i (some (.tre t xs))) j b) : (j = i ∧ b ∈ l :: bx o xs) ∨ (j ≠ i ∧ OwnAt H σ ρ j b) := by
  by_cases e : j = i
  · subst e
    obtain ⟨k, e1, ⟨⟨t', ys, r⟩, ea⟩ | ⟨t', ys, o', r, hk, m⟩⟩ := h
    · rcases get_set r with ⟨_, h2, _⟩ | ⟨h1, _⟩
      · cases h2
      · exact absurd rfl h1
    · rw [List.getElem?_set_self hl] at e1
      cases e1
      rcases get_set r with ⟨_, h2, _⟩ | ⟨h1, _⟩
      · cases h2
        rw [ho] at hk
        cases hk
        exact .inl ⟨rfl, m⟩
      · exact absurd rfl h1
  · exact .inr ⟨e, h.ne e⟩
/-- a slot gets a fresh list -/
theorem Gd.setOwn (G : Gd K g F H σ ρ) (i : Nat) {l : Addr} {vs : HO} {xs : D} (hl : H l = some vs) (hf : F l = none) (hn : g.H0 l = none) (hp : g.pin l = none) (no : ∀ i, ¬ OwnAt H σ ρ i l) (r : ORep K F vs xs) :
    Gd K g F H (σ.set i (some (.ref l))) (ρ.set i (some (.own none xs))) := by
  by_cases hi : i < σ.length
  · refine ⟨by simp [G.len], fun j s e => ?_, fun a b k h1 h2 => ?_, G.sub, G.old, G.keep, G.grow, G.new, fun b o h => ⟨(G.pinned b o h).1, (G.pinned b o h).2.1, fun j q => ?_⟩⟩
    · rcases get_set e with ⟨h1, h2, h3⟩ | ⟨h1, h2⟩
      · subst h1; cases h2
        refine ⟨l, vs, ?_, hn, hf, hl, r⟩
        rw [List.getElem?_set_self (G.lt h3)]
      · rw [List.getElem?_set_ne (Ne.symm h1)]
        exact G.slot j s h2
    · rcases own_set hi h1 with ⟨a1, a2⟩ | ⟨a1, a2⟩
      · rcases own_set hi h2 with ⟨b1, b2⟩ | ⟨b1, b2⟩
        · rw [a1, b1]
        · subst a2; exact absurd b2 (no b)
      · rcases own_set hi h2 with ⟨b1, b2⟩ | ⟨b1, b2⟩
        · subst b2; exact absurd a2 (no a)
        · exact G.dist a b k a2 b2
    · rcases own_set hi q with ⟨a1, a2⟩ | ⟨a1, a2⟩
      · subst a2; rw [hp] at h; cases h
      · exact (G.pinned b o h).2.2 j a2
  · rw [List.set_eq_of_length_le (by omega), List.set_eq_of_length_le (by rw [← G.len]; omega)]
    exact G
/-- a slot gets a fresh thing with boxes -/
theorem Gd.setTre (G : Gd K g F H σ ρ) (i : Nat) {l : Addr} {o : HO} {x : D} (f : FrT K g F H σ ρ l o x) : Gd K g F H (σ.set i (some (.ref l))) (ρ.set i (some (.tre none x))) := by
  have fl := f.fr l List.mem_cons_self
  by_cases hi : i < σ.length
  · refine ⟨by simp [G.len], fun j s e => ?_, fun a b k h1 h2 => ?_, G.sub, G.old, G.keep, G.grow, G.new, fun b u h => ⟨(G.pinned b u h).1, (G.pinned b u h).2.1, fun j q => ?_⟩⟩
    · rcases get_set e with ⟨h1, h2, h3⟩ | ⟨h1, h2⟩
      · subst h1; cases h2
        refine ⟨l, o, ?_, fl.2.1, fl.1, f.at_, f.rep, f.nd, fun a m => (f.fr a (List.mem_cons_of_mem _ m)).2.1⟩
        rw [List.getElem?_set_self (G.lt h3)]
      · rw [List.getElem?_set_ne (Ne.symm h1)]
        exact G.slot j s h2
    · rcases own_setT hi f.at_ h1 with ⟨a1, a2⟩ | ⟨a1, a2⟩
      · rcases own_setT hi f.at_ h2 with ⟨b1, b2⟩ | ⟨b1, b2⟩
        · rw [a1, b1]
        · exact absurd b2 ((f.fr k a2).2.2.2 b)
      · rcases own_setT hi f.at_ h2 with ⟨b1, b2⟩ | ⟨b1, b2⟩
        · exact absurd a2 ((f.fr k b2).2.2.2 a)
        · exact G.dist a b k a2 b2
    · rcases own_setT hi f.at_ q with ⟨a1, a2⟩ | ⟨a1, a2⟩
      · rw [(f.fr b a2).2.2.1] at h; cases h
      · exact (G.pinned b u h).2.2 j a2
  · rw [List.set_eq_of_length_le (by omega), List.set_eq_of_length_le (by rw [← G.len]; omega)]
    exact G
/-- the other slots, where the heap is changed at places of slot i alone -/
theorem Gd.others (G : Gd K g F H σ ρ) {i : Nat} {fp : List Addr} (hfp : ∀ a ∈ fp, OwnAt H σ ρ i a) {H' : Hp} (hH : ∀ a, a ∉ fp → H' a = H a) {j : Nat} (ne : j ≠ i) {s : S} (e : ρ[j]? = some (some s)) : SOk K g F H' σ[j]? s := by
  have z := G.slot j s e
  cases s with
  | d x => exact z
  | own t' zs =>
    obtain ⟨l', vs', e', tg', fl', hl', rr'⟩ := z
    refine ⟨l', vs', e', tg', fl', ?_, rr'⟩
    rw [hH]; exact hl'
    intro c
    exact ne (G.dist j i l' (.of e' e) (hfp l' c))
  | tre t' zs =>
    obtain ⟨l', vs', e', tg', fl', hl', rr', nd', tx'⟩ := z
    have out : ∀ a ∈ l' :: bx vs' zs, H' a = H a := fun a m => hH a fun c => ne (G.dist j i a (.ofT e' e hl' m) (hfp a c))
    exact ⟨l', vs', e', tg', fl', by rw [out l' List.mem_cons_self]; exact hl', rr'.move (Same.refl _) fun a m => ⟨(rr'.at_ a m).1, out a (List.mem_cons_of_mem _ m)⟩, nd', tx'⟩
theorem Gd.othersOwn (G : Gd K g F H σ ρ) {i : Nat} {fp : List Addr} (hfp : ∀ a ∈ fp, OwnAt H σ ρ i a) {H' : Hp} (hH : ∀ a, a ∉ fp → H' a = H a) {j : Nat} (ne : j ≠ i) {s : Option S} {b : Addr} (h : OwnAt H' σ (ρ.set i s) j b) : OwnAt H σ ρ j b := by
  refine (h.neR ne).to rfl rfl fun l t xs e r => ?_
  obtain ⟨o, ho⟩ := G.root e r
  rw [hH l fun c => ne (G.dist j i l (.ofT e r ho List.mem_cons_self) (hfp l c))]
/-- an owned list is changed -/
theorem Gd.updOwn (G : Gd K g F H σ ρ) {i : Nat} {l : Addr} {t : Option Nat} {xs : D} (e : ρ[i]? = some (some (.own t xs))) (hv : σ[i]? = some (some (.ref l))) {ws : HO} {ys : D} (r : ORep K F ws ys) :
    Gd K g F (upd H l ws) σ (ρ.set i (some (.own t ys))) := by
  obtain ⟨k, vs, e1, tg, fl, hl, rr⟩ := G.slot i _ e
  rw [hv] at e1; cases e1
  have hi : i < ρ.length := (List.getElem?_eq_some_iff.mp e).1
  have oi : OwnAt H σ ρ i l := .of hv e
  have hfp : ∀ a ∈ [l], OwnAt H σ ρ i a := fun a m => by rw [List.mem_singleton.mp m]; exact oi
  have hH : ∀ a, a ∉ [l] → upd H l ws a = H a := fun a m => upd_ne fun c => m (List.mem_singleton.mpr c)
  have own : ∀ {j : Nat} {b : Addr}, OwnAt (upd H l ws) σ (ρ.set i (some (.own t ys))) j b → OwnAt H σ ρ j b := fun {j b} h => by
    by_cases c : j = i
    · subst c
      obtain ⟨k, e1, ⟨⟨t', zs, q⟩, ea⟩ | ⟨t', zs, o, q, hk, m⟩⟩ := h
      · rw [hv] at e1; cases e1
        rw [ea]; exact oi
      · rcases get_set q with ⟨_, h2, _⟩ | ⟨h1, _⟩
        · cases h2
        · exact absurd rfl h1
    · exact G.othersOwn hfp hH c h
  refine ⟨by simp [G.len], fun j s q => ?_, fun a b k h1 h2 => G.dist a b k (own h1) (own h2), fun b o q => ?_, G.old, fun b o q n => ?_, fun b q => ?_, G.new, fun b o q => ?_⟩
  · rcases get_set q with ⟨h1, h2, h3⟩ | ⟨h1, h2⟩
    · subst h1; cases h2
      exact ⟨l, ws, hv, tg, fl, upd_same, r⟩
    · exact G.others hfp hH h1 h2
  · rw [upd_ne]; exact G.sub _ _ q
    intro c; subst c; rw [fl] at q; cases q
  · have z := G.keep b o q n
    rw [upd_ne]; exact z
    intro c
    subst c
    rcases tg.x with h | h
    · rw [h] at q; cases q
    · exact n h
  · by_cases c : b = l
    · subst c; rw [upd_same] at q; cases q
    · rw [upd_ne c] at q; exact G.grow b q
  · obtain ⟨h1, h2, h3⟩ := G.pinned b o q
    refine ⟨?_, h2, fun j z => h3 j (own z)⟩
    rw [upd_ne]; exact h1
    intro c; subst c; exact h3 i oi
/-- a thing with boxes is changed, it or its boxes -/
theorem Gd.updTre (G : Gd K g F H σ ρ) {i : Nat} {l : Addr} {t : Option Nat} {xs : D} {vs : HO} (e : ρ[i]? = some (some (.tre t xs))) (hv : σ[i]? = some (some (.ref l))) (hl : H l = some vs) {H' : Hp} (hH : ∀ a, a ∉ l :: bx vs xs → H' a = H a) (hS : ∀ a ∈ l :: bx vs xs, H' a ≠ none)
    {ws : HO} {ys : D} (hl' : H' l = some ws) (r : TRep K F H' ws ys) (nd : (l :: bx ws ys).Nodup) (bf : ∀ a ∈ bx ws ys, a ∈ bx vs xs ∨ (g.H0 a = none ∧ g.pin a = none ∧ ∀ j, ¬ OwnAt H σ ρ j a)) : Gd K g F H' σ (ρ.set i (some (.tre t ys))) := by
  obtain ⟨k, vs', e1, tg, fl, hl2, rr, nd0, tx⟩ := G.slot i _ e
  rw [hv] at e1; cases e1
  rw [hl] at hl2; cases hl2
  have hi : i < ρ.length := (List.getElem?_eq_some_iff.mp e).1
  have hfp : ∀ a ∈ l :: bx vs xs, OwnAt H σ ρ i a := fun a m => .ofT hv e hl m
  have own : ∀ {j : Nat} {b : Addr}, OwnAt H' σ (ρ.set i (some (.tre t ys))) j b → OwnAt H σ ρ j b ∨ (j = i ∧ g.H0 b = none ∧ g.pin b = none ∧ ∀ j, ¬ OwnAt H σ ρ j b) := fun {j b} h => by
    by_cases c : j = i
    · subst c
      obtain ⟨k, e1, ⟨⟨t', zs, q⟩, ea⟩ | ⟨t', zs, o, q, hk, m⟩⟩ := h
      · rcases get_set q with ⟨_, h2, _⟩ | ⟨h1, _⟩
        · cases h2
        · exact absurd rfl h1
      · rw [hv] at e1; cases e1
        rcases get_set q with ⟨_, h2, _⟩ | ⟨h1, _⟩
        · cases h2
          rw [hl'] at hk; cases hk
          rcases List.mem_cons.mp m with rfl | m
          · exact .inl (hfp _ List.mem_cons_self)
          · rcases bf b m with h | h
            · exact .inl (hfp b (List.mem_cons_of_mem _ h))
            · exact .inr ⟨rfl, h⟩
        · exact absurd rfl h1
    · exact .inl (G.othersOwn hfp hH c h)
  refine ⟨by simp [G.len], fun j s q => ?_, fun a b k h1 h2 => ?_, fun b o q => ?_, G.old, fun b o q n => ?_, fun b q => ?_, G.new, fun b o q => ?_⟩
  · rcases get_set q with ⟨h1, h2, h3⟩ | ⟨h1, h2⟩
    · subst h1; cases h2
      exact ⟨l, ws, hv, tg, fl, hl', r, nd, fun a m => (bf a m).elim (tx a) fun h => .fresh t h.1⟩
    · exact G.others hfp hH h1 h2
  · rcases own h1 with h1 | ⟨ea, h1⟩
    · rcases own h2 with h2 | ⟨eb, h2⟩
      · exact G.dist a b k h1 h2
      · exact absurd h1 (h2.2.2 a)
    · rcases own h2 with h2 | ⟨eb, h2⟩
      · exact absurd h2 (h1.2.2 b)
      · rw [ea, eb]
  · rw [hH]; exact G.sub _ _ q
    intro c
    rw [(G.own (hfp b c)).1] at q; cases q
  · have z := G.keep b o q n
    rw [hH]; exact z
    intro c
    obtain ⟨_, _, _, _, h⟩ := G.own (hfp b c)
    rcases h with h | h
    · rw [h] at q; cases q
    · exact n h
  · rw [hH] at q; exact G.grow b q
    intro c; exact hS b c q
  · obtain ⟨h1, h2, h3⟩ := G.pinned b o q
    refine ⟨?_, h2, fun j z => ?_⟩
    · rw [hH]; exact h1
      intro c; exact h3 i (hfp b c)
    · rcases own z with z | ⟨_, _, z, _⟩
      · exact h3 j z
      · rw [z] at q; cases q
/-- an owned list is frozen for good -/
theorem Gd.frzOwn (G : Gd K g F H σ ρ) {i : Nat} {l : Addr} {vs : HO} {xs : D} (e : ρ[i]? = some (some (.own none xs))) (hv : σ[i]? = some (some (.ref l))) (hl : H l = some vs) (r : ORep K F vs xs) :
    Gd K g (upd F l vs) H σ (ρ.set i (some (.d xs))) ∧ Same F (upd F l vs) := by
  obtain ⟨k, ws, e1, tg, fl, hl', rr⟩ := G.slot i _ e
  rw [hv] at e1; cases e1
  have hi : i < ρ.length := (List.getElem?_eq_some_iff.mp e).1
  have oi : OwnAt H σ ρ i l := .of hv e
  have sm : Same F (upd F l vs) := fun b u e => by rw [upd_ne (ne_of_none e fl)]; exact e
  have own : ∀ {j : Nat} {b : Addr}, OwnAt H σ (ρ.set i (some (.d xs))) j b → j ≠ i ∧ OwnAt H σ ρ j b := fun {j b} h => by
    have ne : j ≠ i := fun c => by
      subst c
      obtain ⟨k, e1, ⟨⟨t', zs, q⟩, ea⟩ | ⟨t', zs, o, q, hk, m⟩⟩ := h
      · rcases get_set q with ⟨_, h2, _⟩ | ⟨h1, _⟩
        · cases h2
        · exact h1 rfl
      · rcases get_set q with ⟨_, h2, _⟩ | ⟨h1, _⟩
        · cases h2
        · exact h1 rfl
    exact ⟨ne, h.neR ne⟩
  refine ⟨⟨by simp [G.len], fun j s q => ?_, fun a b k h1 h2 => G.dist a b k (own h1).2 (own h2).2, fun b o q => ?_, G.old.trans sm, G.keep, G.grow, fun b o q => ?_, fun b o q => ?_⟩, sm⟩
  · rcases get_set q with ⟨h1, h2, h3⟩ | ⟨h1, h2⟩
    · subst h1; cases h2
      exact ⟨.ref l, hv, (r.mono sm).rep upd_same⟩
    · have z := G.slot j s h2
      cases s with
      | d x => obtain ⟨v, a1, a2⟩ := z; exact ⟨v, a1, a2.mono sm⟩
      | own t' zs =>
        obtain ⟨l', vs', e', tg', fl', hl', rr'⟩ := z
        refine ⟨l', vs', e', tg', ?_, hl', rr'.mono sm⟩
        rw [upd_ne]; exact fl'
        intro c
        subst c
        exact h1 (G.dist j i l' (.of e' h2) oi)
      | tre t' zs =>
        obtain ⟨l', vs', e', tg', fl', hl', rr', nd', tx'⟩ := z
        have ne : ∀ a ∈ l' :: bx vs' zs, a ≠ l := fun a m c => h1 (G.dist j i a (.ofT e' h2 hl' m) (c ▸ oi))
        refine ⟨l', vs', e', tg', ?_, hl', rr'.no sm (fun a h => upd_ne h) fun m => ne l (List.mem_cons_of_mem _ m) rfl, nd', tx'⟩
        rw [upd_ne (ne l' List.mem_cons_self)]; exact fl'
  · by_cases c : b = l
    · subst c; rw [upd_same] at q; cases q; exact hl
    · rw [upd_ne c] at q; exact G.sub _ _ q
  · by_cases c : b = l
    · subst c; exact .inr tg
    · rw [upd_ne c] at q; exact G.new _ _ q
  · obtain ⟨h1, h2, h3⟩ := G.pinned b o q
    refine ⟨h1, ?_, fun j z => h3 j (own z).2⟩
    rw [upd_ne]; exact h2
    intro c; subst c; exact h3 i oi
end

/-! ### tests -/
def tV (f : EM) : TM := fun ρ => (f ρ).bind fun p => match p.1 with
  | .bl b => some (b, p.2)
  | _ => none
def tNt (f : TM) : TM := fun ρ => (f ρ).bind fun p => some (!p.1, p.2)
def tAn (f h : TM) : TM := fun ρ => (f ρ).bind fun p => if p.1 then h p.2 else some (false, p.2)
def tOr' (f h : TM) : TM := fun ρ => (f ρ).bind fun p => if p.1 then some (true, p.2) else h p.2
/-- truth of a value -/
def tru : D → Option Bool
  | .non => some false
  | .bl b => some b
  | .int i => some (i != 0)
  | .lst l => some (!l.isEmpty)
  | .tup l => some (!l.isEmpty)
  | _ => none
def eB (f : TM) : EM := fun ρ => (f ρ).bind fun p => some (.bl p.1, p.2)
def eIf (t : TM) (f h : EM) : EM := fun ρ => (t ρ).bind fun p => if p.1 then f p.2 else h p.2
def eAnd (f h : EM) : EM := fun ρ => (f ρ).bind fun p => match p.1 with
  | .bl true => h p.2
  | .bl false => some (.bl false, p.2)
  | _ => none
def eOr (f h : EM) : EM := fun ρ => (f ρ).bind fun p => match p.1 with
  | .bl false => h p.2
  | .bl true => some (.bl true, p.2)
  | _ => none
def eNot (f : EM) : EM := fun ρ => (f ρ).bind fun p => match p.1 with
  | .bl b => some (.bl (!b), p.2)
  | _ => none
section
variable {X : Cx} {g : Gx} {a b c ex : Expr} {es rest : List Expr} {f f1 f2 : EM} {o1 o2 : OM} {t t1 t2 : TM} {pos : Pos}
theorem tV_t {te : TE} (h : ∀ σ H Q, tE X.K g f σ H Q → te σ H Q) {σ : St} {H : Hp} {Q : Bool → Hp → Prop} (q : tT X.K g (tV f) σ H Q) : te σ H (fun x H' => ∃ k, x = .bl k ∧ Q k H') := by
  obtain ⟨F, ρ, b, ρ', G, hf, q⟩ := q
  obtain ⟨p, e, hf⟩ := bnd hf
  refine h _ _ _ ⟨F, ρ, p.1, p.2, G, e, fun v F' H' G' s r => ?_⟩
  split at hf
  · rename_i k hk
    cases hf
    rw [hk] at r
    cases r
    exact ⟨_, rfl, q F' H' G' s⟩
  · cases hf
theorem dt_cmp {op : CmpOp} {r : R2} {k : D → D → Option D} (ho : OpR X (compareOp op) r) (hk : Op2 X.K r k) (ha : DO X g a o1) (hb : DO X g b o2) (h1 : behindInMarks op b = false := by rfl) : DT X g (.Compare a [op] [b] pos) (tV (e2 k o1 o2)) :=
  weakPT (pt_cmpR ho ha hb h1) fun _ _ _ h => tV_t (fun _ _ _ h => op2_t hk h) h
/-- a bool as a test (no comparison) -/
theorem dt_v (h : DE X g ex f) (he : ∀ whole, isTrue ex X.env whole = (do let v ← whole; standAt ex.pos; holding [v] (truthy v)) := by intro _; rfl) : DT X g ex (tV f) :=
  weakPT (pt_val h he) fun _ _ _ h => tV_t (fun _ _ _ h => h) h
theorem dt_not (h : DT X g a t) : DT X g (.UnaryOp .Not a pos) (tNt t) := weakPT (pt_not h) fun σ H Q ⟨F, ρ, b, ρ', G, hf, q⟩ => by
  obtain ⟨p, e, hf⟩ := bnd hf
  cases hf
  exact ⟨F, ρ, p.1, p.2, G, e, q⟩
abbrev DW (X : Cx) (g : Gx) (e : Expr) (f : TM) : Prop := PW X e (tT X.K g f)
theorem dw_and1 (h : DT X g a t) : DW X g (.BoolOp .And [a] pos) t := pw_and1 h
theorem dw_or1 (h : DT X g a t) : DW X g (.BoolOp .Or [a] pos) t := pw_or1 h
theorem dw_and (h : DT X g a t1) (h2 : DW X g (.BoolOp .And (b :: rest) pos) t2) : DW X g (.BoolOp .And (a :: b :: rest) pos) (tAn t1 t2) := weakPW (pw_and h h2) fun σ H Q ⟨F, ρ, b, ρ', G, hf, q⟩ => by
  obtain ⟨p, e, hf⟩ := bnd hf
  refine ⟨F, ρ, p.1, p.2, G, e, fun F' H' G' s => ?_⟩
  obtain ⟨k, ρ1⟩ := p
  cases k with
  | true => exact iteT ⟨F', ρ1, b, ρ', G', hf, fun F2 H2 G2 s2 => q F2 H2 G2 (s.trans s2)⟩
  | false => cases hf; exact iteF (q F' H' G' s)
theorem dw_or (h : DT X g a t1) (h2 : DW X g (.BoolOp .Or (b :: rest) pos) t2) : DW X g (.BoolOp .Or (a :: b :: rest) pos) (tOr' t1 t2) := weakPW (pw_or h h2) fun σ H Q ⟨F, ρ, b, ρ', G, hf, q⟩ => by
  obtain ⟨p, e, hf⟩ := bnd hf
  refine ⟨F, ρ, p.1, p.2, G, e, fun F' H' G' s => ?_⟩
  obtain ⟨k, ρ1⟩ := p
  cases k with
  | false => exact iteF ⟨F', ρ1, b, ρ', G', hf, fun F2 H2 G2 s2 => q F2 H2 G2 (s.trans s2)⟩
  | true => cases hf; exact iteT (q F' H' G' s)
theorem dt_w (h : DW X g a t) : DT X g a t := PW.pt h
theorem de_if (h : DT X g c t) (ha : DE X g a f1) (hb : DE X g b f2) : DE X g (.IfExp c a b pos) (eIf t f1 f2) := weakPE (pe_ifExp h ha hb) fun σ H Q ⟨F, ρ, d, ρ', G, hf, q⟩ => by
  obtain ⟨p, e, hf⟩ := bnd hf
  refine ⟨F, ρ, p.1, p.2, G, e, fun F' H' G' s => ?_⟩
  obtain ⟨k, ρ1⟩ := p
  cases k with
  | true => exact iteT ⟨F', ρ1, d, ρ', G', hf, fun v F2 H2 G2 s2 => q v F2 H2 G2 (s.trans s2)⟩
  | false => exact iteF ⟨F', ρ1, d, ρ', G', hf, fun v F2 H2 G2 s2 => q v F2 H2 G2 (s.trans s2)⟩
theorem de_one {op : BoolOp} (h : DE X g a f) : DE X g (.BoolOp op [a] pos) f := pe_one h
theorem de_and (ha : DE X g a f1) (hb : DE X g (.BoolOp .And (b :: rest) pos) f2) : DE X g (.BoolOp .And (a :: b :: rest) pos) (eAnd f1 f2) := weakPE (pe_and ha hb) fun σ H Q ⟨F, ρ, d, ρ', G, hf, q⟩ => by
  obtain ⟨p, e, hf⟩ := bnd hf
  obtain ⟨k, ρ1⟩ := p
  refine ⟨F, ρ, k, ρ1, G, e, fun v F' H' G' s r => ?_⟩
  cases k with
  | bl k =>
    cases r
    cases k with
    | true => exact ⟨true, rfl, iteT ⟨F', ρ1, d, ρ', G', hf, fun v F2 H2 G2 s2 => q v F2 H2 G2 (s.trans s2)⟩⟩
    | false => cases hf; exact ⟨false, rfl, iteF (q _ F' H' G' s .bl)⟩
  | _ => cases hf
theorem de_or (ha : DE X g a f1) (hb : DE X g (.BoolOp .Or (b :: rest) pos) f2) : DE X g (.BoolOp .Or (a :: b :: rest) pos) (eOr f1 f2) := weakPE (pe_or ha hb) fun σ H Q ⟨F, ρ, d, ρ', G, hf, q⟩ => by
  obtain ⟨p, e, hf⟩ := bnd hf
  obtain ⟨k, ρ1⟩ := p
  refine ⟨F, ρ, k, ρ1, G, e, fun v F' H' G' s r => ?_⟩
  cases k with
  | bl k =>
    cases r
    cases k with
    | false => exact ⟨false, rfl, iteF ⟨F', ρ1, d, ρ', G', hf, fun v F2 H2 G2 s2 => q v F2 H2 G2 (s.trans s2)⟩⟩
    | true => cases hf; exact ⟨true, rfl, iteT (q _ F' H' G' s .bl)⟩
  | _ => cases hf
theorem de_not (ha : DE X g a f) : DE X g (.UnaryOp .Not a pos) (eNot f) := weakPE (pe_not ha) fun σ H Q ⟨F, ρ, d, ρ', G, hf, q⟩ => by
  obtain ⟨p, e, hf⟩ := bnd hf
  obtain ⟨k, ρ1⟩ := p
  refine ⟨F, ρ, k, ρ1, G, e, fun v F' H' G' s r => ?_⟩
  cases k with
  | bl k => cases r; cases hf; exact ⟨k, rfl, q _ F' H' G' s .bl⟩
  | _ => cases hf
end

/-! ### tuples, lists -/
def valsOf : List Opd → Option (List D)
  | [] => some []
  | .val d :: r => (valsOf r).bind fun ds => some (d :: ds)
  | _ :: _ => none
def eTup (f : AM) : EM := fun ρ => (f ρ).bind fun p => (valsOf p.1).bind fun ds => some (.tup ds, p.2)
def nLst (f : AM) : NM := fun ρ => (f ρ).bind fun p => (valsOf p.1).bind fun ds => some (.lst ds, p.2)
theorem valsOk {K : PySem.W.Frag} {F : Hp} {σ : St} : ∀ {os : List Opd} {vs : List V} {ds : List D}, OpdsOk K F σ vs os → valsOf os = some ds → Reps K F vs ds
  | _, _, _, .nil, e => by cases e; exact .nil
  | .val d :: os, _, _, .cons h r, e => by
    obtain ⟨ds', e1, e2⟩ := bnd e
    cases e2
    exact .cons h (valsOk r e1)
  | .ref _ :: os, _, _, .cons h r, e => by cases e
  | .io _ :: os, _, _, .cons h r, e => by cases e
theorem OpdsOk.length {K : PySem.W.Frag} {F : Hp} {σ : St} : ∀ {os : List Opd} {vs : List V}, OpdsOk K F σ vs os → vs.length = os.length
  | _, _, .nil => rfl
  | _, _, .cons _ r => by simp [OpdsOk.length r]
/-- so many arguments -/
def LenA (f : AM) (n : Nat) : Prop := ∀ ρ os ρ', f ρ = some (os, ρ') → os.length = n
theorem la_n : LenA aN 0 := fun ρ os ρ' h => by cases h; rfl
theorem la_c {f : OM} {h : AM} {n : Nat} (l : LenA h n) : LenA (aC f h) (n + 1) := fun ρ os ρ' e => by
  obtain ⟨p, e1, e⟩ := bnd e
  obtain ⟨q, e2, e⟩ := bnd e
  cases e
  simp [l _ _ _ e2]
section
variable {X : Cx} {g : Gx} {es : List Expr} {fa : AM} {pos : Pos} {n : Nat}
theorem de_tup {x1} (h : DA X g es fa) (l : LenA fa n) (hn : n ≤ 1000 := by decide) : DE X g (.Tuple es x1 pos) (eTup fa) := weakPE (pe_tup h) fun σ H Q ⟨F, ρ, d, ρ', G, hf, q⟩ => by
  obtain ⟨p, e, hf⟩ := bnd hf
  obtain ⟨ds, e1, hf⟩ := bnd hf
  cases hf
  refine ⟨F, ρ, p.1, p.2, G, e, fun vs F' H' G' s r => ⟨?_, fun a ha => ?_⟩⟩
  · rw [r.length, l _ _ _ e]; exact Nat.le_of_lt (small1000 hn)
  · have x := Ext.alloc G'.sub ha (.tup vs)
    exact q _ _ _ (G'.ext x) (s.trans x.ff) (.tup upd_same ((valsOk r e1).mono x.ff))
/-- a new list at a -/
theorem Gd.fresh {K : PySem.W.Frag} {F H : Hp} {σ : St} {ρ : Env} (G : Gd K g F H σ ρ) {a : Addr} (ha : H a = none) (vs : HO) :
    Gd K g F (upd H a vs) σ ρ ∧ F a = none ∧ g.H0 a = none ∧ g.pin a = none ∧ ∀ i, ¬ OwnAt (upd H a vs) σ ρ i a := by
  refine ⟨G.ext (Ext.lay G.sub ha _), G.sub.free ha, G.grow a ha, ?_, fun i h => ?_⟩
  · cases q : g.pin a with
    | none => rfl
    | some o => have := (G.pinned a o q).1; rw [ha] at this; cases this
  · obtain ⟨_, u, hl, _⟩ := G.own (G.ownExt (Ext.lay G.sub ha vs).hh h)
    rw [ha] at hl; cases hl
theorem dn_lst (h : DA X g es fa) (l : LenA fa n) (hn : n ≤ 1000 := by decide) : DN X g (.List es pos) (nLst fa) := weakPE (pe_lst h) fun σ H Q ⟨F, ρ, d, ρ', G, hf, q⟩ => by
  obtain ⟨p, e, hf⟩ := bnd hf
  obtain ⟨ds, e1, hf⟩ := bnd hf
  cases hf
  refine ⟨F, ρ, p.1, p.2, G, e, fun vs F' H' G' s r => ⟨?_, fun a ha => ?_⟩⟩
  · rw [r.length, l _ _ _ e]; exact Nat.le_of_lt (small1000 hn)
  · obtain ⟨G2, h1, h2, h3, h4⟩ := G'.fresh ha (.lst vs)
    exact q _ _ _ _ G2 s upd_same h1 h2 h3 h4 (.lst (valsOk r e1))
end

/-! ### statements -/
inductive Out where
  | nx | br | ct
  | rt (d : D)
  /-- a fresh list is handed back -/
  | rn (x : D)
  /-- a fresh thing with boxes is handed back -/
  | rr (x : D)
abbrev SM := Env → Option (Out × Env)
/-- slot j is an in-out parameter's -/
def IsPar (ρ : Env) (j : Nat) : Prop := ∃ k x, ρ[j]? = some (some (.own (some k) x)) ∨ ρ[j]? = some (some (.tre (some k) x))
def OutQ (K : PySem.W.Frag) (g : Gx) (E : Ends) (F' : Hp) (σ' : St) (ρ' : Env) (H' : Hp) : Out → Prop
  | .nx => E.nx σ' H'
  | .br => E.bk σ' H'
  | .ct => E.ct σ' H'
  | .rt d => ∀ v, Rep K F' v d → E.rt v H'
  | .rn x => ∀ l o, H' l = some o → F' l = none → g.H0 l = none → (∀ j, IsPar ρ' j → ¬ OwnAt H' σ' ρ' j l) → ORep K F' o x → E.rt (.ref l) H'
  | .rr x => ∀ l o, H' l = some o → TRep K F' H' o x → (l :: bx o x).Nodup → (∀ a ∈ l :: bx o x, F' a = none ∧ g.H0 a = none ∧ ∀ j, IsPar ρ' j → ¬ OwnAt H' σ' ρ' j a) → E.rt (.ref l) H'
def tS (K : PySem.W.Frag) (g : Gx) (f : SM) : TS := fun E σ H => ∃ F ρ o ρ', Gd K g F H σ ρ ∧ f ρ = some (o, ρ') ∧ ∀ σ' F' H', Gd K g F' H' σ' ρ' → Same F F' → OutQ K g E F' σ' ρ' H' o
abbrev DS (X : Cx) (g : Gx) (s : Stmt) (f : SM) : Prop := PS X s (tS X.K g f)
abbrev DSs (X : Cx) (g : Gx) (s : List Stmt) (f : SM) : Prop := PSs X s (tS X.K g f)
def sNx : SM := fun ρ => some (.nx, ρ)
def sSeq (f h : SM) : SM := fun ρ => (f ρ).bind fun p => match p.1 with
  | .nx => h p.2
  | o => some (o, p.2)
def sRet (f : EM) : SM := fun ρ => (f ρ).bind fun p => some (.rt p.1, p.2)
def sRetN (f : NM) : SM := fun ρ => (f ρ).bind fun p => some (.rn p.1, p.2)
/-- return of the own list of slot i, as it is -/
def sRetO (i : Nat) : SM := fun ρ => match ρ[i]? with
  | some (some (.own none xs)) => some (.rn xs, ρ)
  | some (some (.tre none xs)) => some (.rr xs, ρ)
  | _ => none
def sRetR (f : NM) : SM := fun ρ => (f ρ).bind fun p => some (.rr p.1, p.2)
def sTre (i : Nat) (f : NM) : SM := fun ρ => (f ρ).bind fun p => some (.nx, p.2.set i (some (.tre none p.1)))
def sIf (t : TM) (f h : SM) : SM := fun ρ => (t ρ).bind fun p => if p.1 then f p.2 else h p.2
def sSet (i : Nat) (f : EM) : SM := fun ρ => (f ρ).bind fun p => some (.nx, p.2.set i (some (.d p.1)))
def sOwn (i : Nat) (f : NM) : SM := fun ρ => (f ρ).bind fun p => some (.nx, p.2.set i (some (.own none p.1)))
def sEx (f : EM) : SM := fun ρ => (f ρ).bind fun p => some (.nx, p.2)
/-- ahead of the statement the own list of slot i is frozen -/
def sFrz (i : Nat) (f : SM) : SM := fun ρ => match ρ[i]? with
  | some (some (.own none xs)) => f (ρ.set i (some (.d xs)))
  | _ => none
def sBr : SM := fun ρ => some (.br, ρ)
def sCt : SM := fun ρ => some (.ct, ρ)
/-- never reached -/
def sNo : SM := fun _ => none
section
variable {X : Cx} {g : Gx} {st : Stmt} {sts : List Stmt} {ex c : Expr} {f h : SM} {fe : EM} {fn : NM} {t : TM} {pos : Pos}
theorem OutQ.imp {K : PySem.W.Frag} {E E' : Ends} {F : Hp} {σ : St} {ρ : Env} {H : Hp} {o : Out} (h : OutQ K g E F σ ρ H o) (h1 : ∀ σ H, E.nx σ H → E'.nx σ H) (h2 : ∀ σ H, E.bk σ H → E'.bk σ H) (h3 : ∀ σ H, E.ct σ H → E'.ct σ H) (h4 : ∀ v H, E.rt v H → E'.rt v H) : OutQ K g E' F σ ρ H o := by
  cases o with
  | nx => exact h1 _ _ h
  | br => exact h2 _ _ h
  | ct => exact h3 _ _ h
  | rt d => exact fun v r => h4 _ _ (h v r)
  | rn xs => exact fun l vs a b c d e => h4 _ _ (h l vs a b c d e)
  | rr xs => exact fun l vs a b c d => h4 _ _ (h l vs a b c d)
theorem dss_nil : DSs X g [] sNx := weakPSs pss_nil fun D σ H ⟨F, ρ, o, ρ', G, hf, q⟩ => by
  cases hf
  exact q σ F H G (Same.refl _)
theorem dss_one (h1 : DS X g st f) : DSs X g [st] f := pss_one h1
theorem dss_cons (h1 : DS X g st f) (h2 : DSs X g sts h) : DSs X g (st :: sts) (sSeq f h) := weakPSs (pss_cons h1 h2) fun D σ H ⟨F, ρ, o, ρ', G, hf, q⟩ => by
  obtain ⟨p, e, hf⟩ := bnd hf
  obtain ⟨o1, ρ1⟩ := p
  refine ⟨F, ρ, o1, ρ1, G, e, fun σ' F' H' G' s => ?_⟩
  cases o1 with
  | nx => exact ⟨F', ρ1, o, ρ', G', hf, fun σ2 F2 H2 G2 s2 => q σ2 F2 H2 G2 (s.trans s2)⟩
  | br => cases hf; exact q σ' F' H' G' s
  | ct => cases hf; exact q σ' F' H' G' s
  | rt d => cases hf; exact q σ' F' H' G' s
  | rn xs => cases hf; exact q σ' F' H' G' s
  | rr xs => cases hf; exact q σ' F' H' G' s
theorem ds_pass : DS X g (.Pass pos) sNx := weakPS ps_pass fun D σ H ⟨F, ρ, o, ρ', G, hf, q⟩ => by
  cases hf
  exact q σ F H G (Same.refl _)
theorem ds_break : DS X g (.Break pos) sBr := weakPS ps_break fun D σ H ⟨F, ρ, o, ρ', G, hf, q⟩ => by
  cases hf
  exact q σ F H G (Same.refl _)
theorem ds_continue : DS X g (.Continue pos) sCt := weakPS ps_continue fun D σ H ⟨F, ρ, o, ρ', G, hf, q⟩ => by
  cases hf
  exact q σ F H G (Same.refl _)
theorem ds_no : DS X g st sNo := weakPS ps_never fun D σ H ⟨F, ρ, o, ρ', G, hf, q⟩ => by cases hf
theorem dss_no : DSs X g sts sNo := weakPSs pss_never fun D σ H ⟨F, ρ, o, ρ', G, hf, q⟩ => by cases hf
theorem ds_ret (h : DE X g ex fe) : DS X g (.Return (some ex) pos) (sRet fe) := weakPS (ps_ret h) fun D σ H ⟨F, ρ, o, ρ', G, hf, q⟩ => by
  obtain ⟨p, e, hf⟩ := bnd hf
  cases hf
  exact ⟨F, ρ, p.1, p.2, G, e, fun v F' H' G' s r => q σ F' H' G' s v r⟩
theorem ds_ret0 : DS X g (.Return none pos) (sRet (eC .non)) := weakPS ps_retN fun D σ H ⟨F, ρ, o, ρ', G, hf, q⟩ => by
  cases hf
  exact q σ F H G (Same.refl _) _ .non
theorem ds_retN (h : DN X g ex fn) : DS X g (.Return (some ex) pos) (sRetN fn) := weakPS (ps_ret h) fun D σ H ⟨F, ρ, o, ρ', G, hf, q⟩ => by
  obtain ⟨p, e, hf⟩ := bnd hf
  cases hf
  exact ⟨F, ρ, p.1, p.2, G, e, fun l vs F' H' G' s h1 h2 h3 h4 h5 h6 => q σ F' H' G' s l vs h1 h2 h3 (fun j _ => h5 j) h6⟩
theorem noPar {K : PySem.W.Frag} {F H : Hp} {σ : St} {ρ : Env} (G : Gd K g F H σ ρ) {i : Nat} {a : Addr} (h : OwnAt H σ ρ i a) (np : ¬ IsPar ρ i) : ∀ j, IsPar ρ j → ¬ OwnAt H σ ρ j a := fun j hp ho => np (by rw [G.dist i j a h ho]; exact hp)
theorem ds_retO {i : Nat} (h : PE X ex (tVar i)) : DS X g (.Return (some ex) pos) (sRetO i) := weakPS (ps_ret h) fun D σ H ⟨F, ρ, o, ρ', G, hf, q⟩ => by
  unfold sRetO at hf
  split at hf
  · rename_i xs hx
    cases hf
    obtain ⟨l, vs, e, tg, fl, hl, r⟩ := G.slot i _ hx
    refine ⟨_, e, q σ F H G (Same.refl _) l vs hl fl tg (noPar G (.of e hx) fun ⟨k, x, h⟩ => ?_) r⟩
    rw [hx] at h
    rcases h with h | h <;> cases h
  · rename_i xs hx
    cases hf
    obtain ⟨l, vs, e, tg, fl, hl, r, nd, tx⟩ := G.slot i _ hx
    have np : ¬ IsPar ρ i := fun ⟨k, x, h⟩ => by
      rw [hx] at h
      rcases h with h | h <;> cases h
    refine ⟨_, e, q σ F H G (Same.refl _) l vs hl r nd fun a m => ⟨(G.own (.ofT e hx hl m)).1, ?_, noPar G (.ofT e hx hl m) np⟩⟩
    rcases List.mem_cons.mp m with rfl | m
    · exact tg
    · exact tx a m
  · cases hf
theorem ds_retR (h : DR X g ex fn) : DS X g (.Return (some ex) pos) (sRetR fn) := weakPS (ps_ret h) fun D σ H ⟨F, ρ, o, ρ', G, hf, q⟩ => by
  obtain ⟨p, e, hf⟩ := bnd hf
  cases hf
  exact ⟨F, ρ, p.1, p.2, G, e, fun l vs F' H' G' s f => q σ F' H' G' s l vs f.at_ f.rep f.nd fun a m => ⟨(f.fr a m).1, (f.fr a m).2.1, fun j _ => (f.fr a m).2.2.2 j⟩⟩
theorem ds_tre {i : Nat} {x : Str} {pos' : Pos} (hN : X.N.Nodup) (hi : X.N[i]? = some x) (hx : Loc X.env.scope x) (he : DR X g ex fn) (hs : swapsWith ex (some (.Name x pos')) pos.line X.env = pure false := by rfl)
    (hf : X.fn x = true ∨ X.env.scope.names.lookup x = some .local := by first | exact .inl rfl | exact .inr rfl | assumption) : DS X g (.Assign [.Name x pos'] ex pos) (sTre i fn) := weakPS (ps_set hN hi hx he hs hf) fun D σ H ⟨F, ρ, o, ρ', G, hf, q⟩ => by
  obtain ⟨p, e, hf⟩ := bnd hf
  cases hf
  exact ⟨F, ρ, p.1, p.2, G, e, fun l vs F' H' G' s f => q _ F' H' (G'.setTre i f) s⟩
theorem ds_if {a b : List Stmt} (hc : DT X g c t) (ha : DSs X g a f) (hb : DSs X g b h) : DS X g (.If c a b pos) (sIf t f h) := weakPS (ps_if hc ha hb) fun D σ H ⟨F, ρ, o, ρ', G, hf, q⟩ => by
  obtain ⟨p, e, hf⟩ := bnd hf
  refine ⟨F, ρ, p.1, p.2, G, e, fun F' H' G' s => ?_⟩
  obtain ⟨k, ρ1⟩ := p
  cases k with
  | true => exact iteT ⟨F', ρ1, o, ρ', G', hf, fun σ2 F2 H2 G2 s2 => q σ2 F2 H2 G2 (s.trans s2)⟩
  | false => exact iteF ⟨F', ρ1, o, ρ', G', hf, fun σ2 F2 H2 G2 s2 => q σ2 F2 H2 G2 (s.trans s2)⟩
theorem ds_ex (h : DE X g ex fe) (hs : swapsWith ex none pos.line X.env = pure false := by rfl) : DS X g (.Expr ex pos) (sEx fe) := weakPS (ps_expr h hs) fun D σ H ⟨F, ρ, o, ρ', G, hf, q⟩ => by
  obtain ⟨p, e, hf⟩ := bnd hf
  cases hf
  exact ⟨F, ρ, p.1, p.2, G, e, fun v F' H' G' s r => q σ F' H' G' s⟩
theorem ds_set {i : Nat} {x : Str} {pos' : Pos} (hN : X.N.Nodup) (hi : X.N[i]? = some x) (hx : Loc X.env.scope x) (he : DE X g ex fe) (hs : swapsWith ex (some (.Name x pos')) pos.line X.env = pure false := by rfl)
    (hf : X.fn x = true ∨ X.env.scope.names.lookup x = some .local := by first | exact .inl rfl | exact .inr rfl | assumption) : DS X g (.Assign [.Name x pos'] ex pos) (sSet i fe) := weakPS (ps_set hN hi hx he hs hf) fun D σ H ⟨F, ρ, o, ρ', G, hf, q⟩ => by
  obtain ⟨p, e, hf⟩ := bnd hf
  cases hf
  exact ⟨F, ρ, p.1, p.2, G, e, fun v F' H' G' s r => q _ F' H' (G'.setD i r) s⟩
theorem ds_own {i : Nat} {x : Str} {pos' : Pos} (hN : X.N.Nodup) (hi : X.N[i]? = some x) (hx : Loc X.env.scope x) (he : DN X g ex fn) (hs : swapsWith ex (some (.Name x pos')) pos.line X.env = pure false := by rfl)
    (hf : X.fn x = true ∨ X.env.scope.names.lookup x = some .local := by first | exact .inl rfl | exact .inr rfl | assumption) : DS X g (.Assign [.Name x pos'] ex pos) (sOwn i fn) := weakPS (ps_set hN hi hx he hs hf) fun D σ H ⟨F, ρ, o, ρ', G, hf, q⟩ => by
  obtain ⟨p, e, hf⟩ := bnd hf
  cases hf
  exact ⟨F, ρ, p.1, p.2, G, e, fun l vs F' H' G' s h1 h2 h3 h4 h5 h6 => q _ F' H' (G'.setOwn i h1 h2 h3 h4 h5 h6) s⟩
theorem frz_t {i : Nat} {te : TS} (h : ∀ D σ H, tS X.K g f D σ H → te D σ H) : ∀ D σ H, tS X.K g (sFrz i f) D σ H → te D σ H := fun D σ H ⟨F, ρ, o, ρ', G, hf, q⟩ => by
  unfold sFrz at hf
  split at hf
  · rename_i xs hx
    obtain ⟨l, vs, e, tg, fl, hl, r⟩ := G.slot i _ hx
    obtain ⟨G2, sm⟩ := G.frzOwn hx e hl r
    exact h D σ H ⟨_, _, o, ρ', G2, hf, fun σ2 F2 H2 G3 s2 => q σ2 F2 H2 G3 (sm.trans s2)⟩
  · cases hf
theorem ds_frz (i : Nat) (h : DS X g st f) : DS X g st (sFrz i f) := weakPS h (frz_t fun _ _ _ z => z)
theorem dss_frz (i : Nat) (h : DSs X g sts f) : DSs X g sts (sFrz i f) := weakPSs h (frz_t fun _ _ _ z => z)
end
end L3

namespace L3
open PySem L2

/-! ### what is walked -/
/-- an iterator that yields ds, whatever is made meanwhile -/
structure WalkOk (K : PySem.W.Frag) (J : It) (F0 : Hp) (ds : List D) : Prop where
  go : ∀ (i : Nat) (F H : Hp), Same F0 F → Same F H → i < ds.length → J.go i H
  yld : ∀ (i : Nat) (F H : Hp) (x : V) (H' : Hp), Same F0 F → Same F H → i < ds.length → J.yld i H x H' → ∃ d F', ds[i]? = some d ∧ Ext F H F' H' ∧ Rep K F' x d
  stop : ∀ (i : Nat) (F H : Hp), Same F0 F → Same F H → ds.length ≤ i → J.stop i H
abbrev LM := Env → Option (List D × Env)
def tI (K : PySem.W.Frag) (g : Gx) (f : LM) : TI := fun σ H R => ∃ F ρ ds ρ', Gd K g F H σ ρ ∧ f ρ = some (ds, ρ') ∧
  ∀ J F' H', Gd K g F' H' σ ρ' → Same F F' → WalkOk K J F' ds → R J H'
abbrev DI (X : Cx) (g : Gx) (tg e : Expr) (f : LM) : Prop := PI X tg e (tI X.K g f)
theorem weakPI {X : Cx} {tg e : Expr} {t t' : TI} (h : PI X tg e t) (w : ∀ σ H R, t' σ H R → t σ H R) : PI X tg e t' := ⟨fun pins s σ H R I q => h.run pins s σ H R I (w σ H R q)⟩
theorem walk_list {K : PySem.W.Frag} {F0 : Hp} {a : Addr} {vs : List V} {ds : List D} (h : F0 a = some (.lst vs)) (r : Reps K F0 vs ds) : WalkOk K (Itl K a) F0 ds where
  go := fun i F H s1 s2 hi => by
    rw [← r.length] at hi
    exact ⟨vs, vs[i], SqL.of (s2 _ _ (s1 _ _ h)), by simp [hi]⟩
  yld := fun i F H x H' s1 s2 hi ⟨e, y⟩ => by
    subst e
    obtain ⟨d, e1, e2⟩ := r.get' (y vs (SqL.of (s2 _ _ (s1 _ _ h))))
    exact ⟨d, F, e1, Ext.refl s2, e2.mono s1⟩
  stop := fun i F H s1 s2 hi => by
    rw [← r.length] at hi
    exact ⟨vs, SqL.of (s2 _ _ (s1 _ _ h)), hi⟩
theorem walk_scr {K : PySem.W.Frag} {F0 : Hp} {a : Addr} {ns : List Int} (h : SqL K F0 a (ns.map V.int)) : WalkOk K (Itl K a) F0 (ns.map D.int) where
  go := fun i F H s1 s2 hi => by
    rw [List.length_map] at hi
    exact ⟨_, (ns.map V.int)[i]'(by simpa using hi), s2.seq (s1.seq h), by simp [hi]⟩
  yld := fun i F H x H' s1 s2 hi ⟨e, y⟩ => by
    subst e
    have q := y _ (s2.seq (s1.seq h))
    rw [List.getElem?_map] at q
    cases hn : ns[i]? with
    | none => rw [hn] at q; cases q
    | some n =>
      rw [hn] at q; cases q
      exact ⟨.int n, F, by rw [List.getElem?_map, hn]; rfl, Ext.refl s2, .int⟩
  stop := fun i F H s1 s2 hi => by
    rw [List.length_map] at hi
    exact ⟨_, s2.seq (s1.seq h), by simpa using hi⟩
theorem walk_tup {K : PySem.W.Frag} {F0 : Hp} {a : Addr} {vs : List V} {ds : List D} (h : SqT K F0 a vs) (r : Reps K F0 vs ds) : WalkOk K (Itt K a) F0 ds where
  go := fun i F H s1 s2 hi => by
    rw [← r.length] at hi
    exact ⟨vs, vs[i], Same.sqt s2 (Same.sqt s1 h), by simp [hi]⟩
  yld := fun i F H x H' s1 s2 hi ⟨e, y⟩ => by
    subst e
    obtain ⟨d, e1, e2⟩ := r.get' (y vs (Same.sqt s2 (Same.sqt s1 h)))
    exact ⟨d, F, e1, Ext.refl s2, e2.mono s1⟩
  stop := fun i F H s1 s2 hi => by
    rw [← r.length] at hi
    exact ⟨vs, Same.sqt s2 (Same.sqt s1 h), hi⟩
/-- lo, lo + 1, .. -/
def rng (lo : Int) (n : Nat) : List D := (List.range n).map fun (i : Nat) => D.int (lo + (i : Int))
theorem walk_rng {K : PySem.W.Frag} {F0 : Hp} (lo : Int) (n : Nat) : WalkOk K (Itr lo n) F0 (rng lo n) where
  go := fun i F H s1 s2 hi => by
    unfold rng at hi
    show i < n
    simpa using hi
  yld := fun i F H x H' s1 s2 hi ⟨e, y⟩ => by
    subst e; subst y
    unfold rng at hi
    have hi' : i < n := by simpa using hi
    exact ⟨.int (lo + (i : Int)), F, by unfold rng; simp [hi'], Ext.refl s2, .int⟩
  stop := fun i F H s1 s2 hi => by
    unfold rng at hi
    show n ≤ i
    simpa using hi

/-- an iterable's own value: a list, a tuple, the script -/
def itV (f : EM) : LM := fun ρ => (f ρ).bind fun p => match p.1 with
  | .lst ds => some (ds, p.2)
  | .scr ns => some (ns.map D.int, p.2)
  | _ => none
def itT (f : EM) : LM := fun ρ => (f ρ).bind fun p => match p.1 with
  | .tup ds => some (ds, p.2)
  | .ktp ds => some (ds, p.2)
  | _ => none
def big (i : Int) : Bool := decide (-(2 ^ 62) ≤ i ∧ i < 2 ^ 62)
def itR1 (f : AM) : LM := fun ρ => (f ρ).bind fun p => match p.1 with
  | [.val (.int j)] => if big j then some (rng 0 j.toNat, p.2) else none
  | _ => none
def itR2 (f : AM) : LM := fun ρ => (f ρ).bind fun p => match p.1 with
  | [.val (.int i), .val (.int j)] => if big i && big j then some (rng i (j - i).toNat, p.2) else none
  | _ => none
section
variable {X : Cx} {g : Gx} {tg ex a b : Expr} {fe : EM} {fa : AM} {p pos : Pos}
theorem di_list (h : DE X g ex fe) : DI X g tg ex (itV fe) := weakPI (pi_list h) fun σ H R ⟨F, ρ, ds, ρ', G, hf, q⟩ => by
  obtain ⟨p, e, hf⟩ := bnd hf
  obtain ⟨d, ρ1⟩ := p
  refine ⟨F, ρ, d, ρ1, G, e, fun v F' H' G' s r => ?_⟩
  cases d with
  | lst l =>
    cases hf
    cases r with
    | lst h1 h2 => exact ⟨_, rfl, ⟨_, SqL.of (G'.sub _ _ h1)⟩, q _ F' H' G' s (walk_list h1 h2)⟩
  | scr ns =>
    cases hf
    cases r with
    | scr h1 => exact ⟨_, rfl, ⟨_, G'.sub.seq h1⟩, q _ F' H' G' s (walk_scr h1)⟩
  | _ => cases hf
theorem di_tup (h : DE X g ex fe) : DI X g tg ex (itT fe) := weakPI (pi_tup h) fun σ H R ⟨F, ρ, ds, ρ', G, hf, q⟩ => by
  obtain ⟨p, e, hf⟩ := bnd hf
  obtain ⟨d, ρ1⟩ := p
  refine ⟨F, ρ, d, ρ1, G, e, fun v F' H' G' s r => ?_⟩
  cases d with
  | tup l =>
    cases hf
    cases r with
    | tup h1 h2 => exact ⟨_, rfl, ⟨_, SqT.of (G'.sub _ _ h1)⟩, q _ F' H' G' s (walk_tup (SqT.of h1) h2)⟩
  | ktp l =>
    cases hf
    cases r with
    | ktp h1 h2 => exact ⟨_, rfl, ⟨_, Same.sqt G'.sub h1⟩, q _ F' H' G' s (walk_tup h1 h2)⟩
  | _ => cases hf
theorem di_r1 (hg : Gl X "range") (hm : X.mg "range" = none) (ha : DA X g [a] fa) (hs : starEach [a] X.env = [(false, eval a X.env)] := by rfl) : DI X g tg (.Call (.Name "range" p) [a] [] pos) (itR1 fa) :=
  weakPI (pi_range1 hg hm ha hs) fun σ H R ⟨F, ρ, ds, ρ', G, hf, q⟩ => by
  obtain ⟨p, e, hf⟩ := bnd hf
  obtain ⟨os, ρ1⟩ := p
  refine ⟨F, ρ, os, ρ1, G, e, fun vs F' H' G' s r => ?_⟩
  dsimp only at hf
  split at hf
  · rename_i j
    split at hf
    · rename_i hb
      cases hf
      cases r with
      | cons r rr =>
        cases rr
        cases r
        have hb' := of_decide_eq_true hb
        exact ⟨_, rfl, hb'.1, hb'.2, q _ F' H' G' s (walk_rng 0 _)⟩
    · cases hf
  · cases hf
theorem di_r2 (hg : Gl X "range") (hm : X.mg "range" = none) (ha : DA X g [a, b] fa) (hs : starEach [a, b] X.env = [(false, eval a X.env), (false, eval b X.env)] := by rfl) (hs2 : starEach [b] X.env = [(false, eval b X.env)] := by rfl) :
    DI X g tg (.Call (.Name "range" p) [a, b] [] pos) (itR2 fa) :=
  weakPI (pi_range2 hg hm ha hs hs2) fun σ H R ⟨F, ρ, ds, ρ', G, hf, q⟩ => by
  obtain ⟨p, e, hf⟩ := bnd hf
  obtain ⟨os, ρ1⟩ := p
  refine ⟨F, ρ, os, ρ1, G, e, fun vs F' H' G' s r => ?_⟩
  dsimp only at hf
  split at hf
  · rename_i i j
    split at hf
    · rename_i hb
      cases hf
      cases r with
      | cons r rr =>
        cases rr with
        | cons r' rr =>
          cases rr
          cases r
          cases r'
          have hb' := Bool.and_eq_true_iff.mp hb
          have h1 := of_decide_eq_true hb'.1
          have h2 := of_decide_eq_true hb'.2
          exact ⟨_, _, rfl, ⟨h1.1, h1.2, h2.1, h2.2⟩, q _ F' H' G' s (walk_rng _ _)⟩
    · cases hf
  · cases hf
end

/-! ### targets -/
abbrev GM := D → Env → Option Env
/-- the slots ws alone are written -/
def Wr (ws : List Nat) (σ σ' : St) : Prop := σ'.length = σ.length ∧ ∀ j, j ∉ ws → σ'[j]? = σ[j]?
def tG (K : PySem.W.Frag) (g : Gx) (ws : List Nat) (f : GM) : TG := fun v σ H Q => ∃ F ρ d ρ', Gd K g F H σ ρ ∧ Rep K F v d ∧ f d ρ = some ρ' ∧ ∀ σ', Gd K g F H σ' ρ' → Wr ws σ σ' → Q σ' H
abbrev DG (X : Cx) (g : Gx) (tg : Expr) (ws : List Nat) (f : GM) : Prop := PG X tg (tG X.K g ws f)
theorem weakPG {X : Cx} {e : Expr} {t t' : TG} (h : PG X e t) (w : ∀ v σ H Q, t' v σ H Q → t v σ H Q) : PG X e t' := ⟨fun pins s σ H v u Q I r q => h.run pins s σ H v u Q I r (w v σ H Q q)⟩
def tGs (K : PySem.W.Frag) (g : Gx) (ws : List Nat) (f : List D → Env → Option Env) : TGs := fun vs σ H Q => ∃ F ρ ds ρ', Gd K g F H σ ρ ∧ Reps K F vs ds ∧ f ds ρ = some ρ' ∧ ∀ σ', Gd K g F H σ' ρ' → Wr ws σ σ' → Q σ' H
abbrev DGs (X : Cx) (g : Gx) (ts : List Expr) (ws : List Nat) (f : List D → Env → Option Env) : Prop := PGs X ts (tGs X.K g ws f)
theorem weakPGs {X : Cx} {e : List Expr} {t t' : TGs} (h : PGs X e t) (w : ∀ v σ H Q, t' v σ H Q → t v σ H Q) : PGs X e t' := ⟨fun pins s σ H v u Q I r q => h.run pins s σ H v u Q I r (w v σ H Q q)⟩
def gN (i : Nat) : GM := fun d ρ => some (ρ.set i (some (.d d)))
def gsNil : List D → Env → Option Env := fun ds ρ => match ds with
  | [] => some ρ
  | _ => none
def gsCons (f : GM) (h : List D → Env → Option Env) : List D → Env → Option Env := fun ds ρ => match ds with
  | d :: r => (f d ρ).bind fun ρ1 => h r ρ1
  | _ => none
def gTp (n : Nat) (h : List D → Env → Option Env) : GM := fun d ρ => match d with
  | .tup l => if l.length = n then h l ρ else none
  | .ktp l => if l.length = n then h l ρ else none
  | _ => none
section
variable {X : Cx} {g : Gx} {tg e : Expr} {es : List Expr} {f : GM} {ws us : List Nat} {fs : List D → Env → Option Env} {pos : Pos}
theorem dg_n {i : Nat} {x : Str} (hN : X.N.Nodup) (hi : X.N[i]? = some x) (hx : Loc X.env.scope x) (hf : X.fn x = true ∨ X.env.scope.names.lookup x = some .local := by first | exact .inl rfl | exact .inr rfl | assumption) : DG X g (.Name x pos) [i] (gN i) :=
  weakPG (pg_name hN hi hx hf) fun v σ H Q ⟨F, ρ, d, ρ', G, r, hf, q⟩ => by
  cases hf
  refine q _ (G.setD i r) ⟨by simp, fun j hj => ?_⟩
  rw [List.getElem?_set_ne]
  intro e; subst e; simp at hj
theorem dgs_nil : DGs X g [] [] gsNil := weakPGs pgs_nil fun v σ H Q ⟨F, ρ, d, ρ', G, r, hf, q⟩ => by
  cases r with
  | nil => cases hf; exact ⟨rfl, q _ G ⟨rfl, fun _ _ => rfl⟩⟩
  | cons _ _ => cases hf
theorem dgs_cons (h1 : DG X g e ws f) (h2 : DGs X g es us fs) (hs : (assignEach (e :: es) X.env).map (·.2) = assign e X.env :: (assignEach es X.env).map (·.2) := by rfl) : DGs X g (e :: es) (ws ++ us) (gsCons f fs) :=
  weakPGs (pgs_cons h1 h2 hs) fun v σ H Q ⟨F, ρ, d, ρ', G, r, hf, q⟩ => by
  cases r with
  | nil => cases hf
  | cons r rr =>
    obtain ⟨ρ1, e1, e2⟩ := bnd hf
    refine ⟨_, _, rfl, F, ρ, _, ρ1, G, r, e1, fun σ1 G1 w1 => ⟨F, ρ1, _, ρ', G1, rr, e2, fun σ2 G2 w2 => q σ2 G2 ⟨w2.1.trans w1.1, fun j hj => ?_⟩⟩⟩
    rw [List.mem_append, not_or] at hj
    exact (w2.2 j hj.2).trans (w1.2 j hj.1)
theorem dg_tup {k n : Nat} (hc : X.calm = true) (h : DGs X g es ws fs) (hn : (assignEach es X.env).length = n := by rfl) (hst : (assignEach es X.env).findIdx? (·.1) = none := by rfl) : DG X g (.Tuple es k pos) ws (gTp n fs) :=
  weakPG (pg_tup hc h hn hst) fun v σ H Q ⟨F, ρ, d, ρ', G, r, hf, q⟩ => by
  cases r with
  | tup h1 h2 =>
    unfold gTp at hf
    dsimp only at hf
    split at hf
    · rename_i hl
      exact ⟨_, _, rfl, SqT.of (G.sub _ _ h1), by rw [h2.length, hl], F, ρ, _, ρ', G, h2, hf, q⟩
    · cases hf
  | ktp h1 h2 =>
    unfold gTp at hf
    dsimp only at hf
    split at hf
    · rename_i hl
      exact ⟨_, _, rfl, Same.sqt G.sub h1, by rw [h2.length, hl], F, ρ, _, ρ', G, h2, hf, q⟩
    · cases hf
  | _ => cases hf
end
/-- targets = value -/
def sAsg (f : EM) (h : GM) : SM := fun ρ => (f ρ).bind fun p => (h p.1 p.2).bind fun ρ' => some (.nx, ρ')
section
variable {X : Cx} {g : Gx} {tg e : Expr} {f : EM} {h : GM} {pos : Pos}
theorem ds_asg {ws : List Nat} (he : DE X g e f) (hg : DG X g tg ws h) (hs : swapsWithSole [tg] e pos.line X.env = pure false := by rfl) (hw : swappedStores [tg] e X.env = pure none := by rfl)
    (h1 : (assignEach [tg] X.env).map (·.2) = [assign tg X.env] := by rfl) : DS X g (.Assign [tg] e pos) (sAsg f h) := weakPS (ps_asg he hg hs hw h1) fun D σ H ⟨F, ρ, o, ρ', G, hf, q⟩ => by
  obtain ⟨p, e, hf⟩ := bnd hf
  obtain ⟨ρ1, e1, hf⟩ := bnd hf
  cases hf
  exact ⟨F, ρ, p.1, p.2, G, e, fun v F' H' G' s r => ⟨F', p.2, p.1, ρ', G', r, e1, fun σ' G2 _ => q σ' F' H' G2 s⟩⟩
end

/-! ### for -/
def loop (h : GM) (b : SM) : List D → SM
  | [], ρ => some (.nx, ρ)
  | d :: r, ρ => (h d ρ).bind fun ρ1 => (b ρ1).bind fun p => match p.1 with
    | .nx => loop h b r p.2
    | .ct => loop h b r p.2
    | .br => some (.nx, p.2)
    | o => some (o, p.2)
def sFor (it : LM) (h : GM) (b : SM) : SM := fun ρ => (it ρ).bind fun p => loop h b p.1 p.2
section
variable {X : Cx} {g : Gx} {tg iter : Expr} {body : List Stmt} {it : LM} {h : GM} {b : SM} {pos : Pos}
theorem ds_for {ws : List Nat} (hp : PassesOwn (model X.prog X.w) X.A X.env X.xe) (hc : X.calm = true) (hi : DI X g tg iter it) (hg : DG X g tg ws h) (hb : DSs X g body b)
    (hs : ∀ x, foldedSetIterable iter X.env x = pure x := by intro _; rfl) : DS X g (.For tg iter body [] pos) (sFor it h b) := weakPS (ps_for hp hc hi hg hb hs) fun E σ H ⟨F, ρ, o, ρ', G, hf, q⟩ => by
  obtain ⟨p, e, hf⟩ := bnd hf
  obtain ⟨ds, ρ1⟩ := p
  refine ⟨F, ρ, ds, ρ1, G, e, fun J F1 H1 G1 s1 w => ?_⟩
  refine ⟨fun i m σ H => m = ds.length - i ∧ i ≤ ds.length ∧ ∃ F2 ρ2, Gd X.K g F2 H σ ρ2 ∧ Same F1 F2 ∧ loop h b (ds.drop i) ρ2 = some (o, ρ'), ⟨_, rfl, Nat.zero_le _, F1, ρ1, G1, Same.refl _, hf⟩, ?_⟩
  rintro i m σ H ⟨rfl, hi, F2, ρ2, G2, s2, hl⟩
  by_cases hlt : i < ds.length
  · refine .inr ⟨w.go i F2 H s2 G2.sub hlt, fun σ' H' => i + 1 ≤ ds.length ∧ ∃ F3 ρ3, Gd X.K g F3 H' σ' ρ3 ∧ Same F1 F3 ∧ loop h b (ds.drop (i + 1)) ρ3 = some (o, ρ'), fun σ' H' p' => ⟨ds.length - (i + 1), by omega, rfl, p'⟩, fun x H' y => ?_⟩
    obtain ⟨d, F3, hd, xt, r⟩ := w.yld i F2 H x H' s2 G2.sub hlt y
    have ed : ds.drop i = d :: ds.drop (i + 1) := by
      rw [List.drop_eq_getElem_cons hlt]
      rw [List.getElem?_eq_getElem hlt] at hd
      cases hd; rfl
    rw [ed] at hl
    unfold loop at hl
    obtain ⟨ρ4, e4, hl⟩ := bnd hl
    obtain ⟨p5, e5, hl⟩ := bnd hl
    obtain ⟨o5, ρ5⟩ := p5
    refine ⟨F3, ρ2, d, ρ4, G2.ext xt, r, e4, fun σ4 G4 _ => ⟨F3, ρ4, o5, ρ5, G4, e5, fun σ5 F5 H5 G5 s5 => ?_⟩⟩
    have s15 : Same F1 F5 := (s2.trans xt.ff).trans s5
    cases o5 with
    | nx => exact ⟨hlt, F5, ρ5, G5, s15, hl⟩
    | ct => exact ⟨hlt, F5, ρ5, G5, s15, hl⟩
    | br => cases hl; exact q σ5 F5 H5 G5 (s1.trans s15)
    | rt d => cases hl; exact q σ5 F5 H5 G5 (s1.trans s15)
    | rn d => cases hl; exact q σ5 F5 H5 G5 (s1.trans s15)
    | rr d => cases hl; exact q σ5 F5 H5 G5 (s1.trans s15)
  · have e : i = ds.length := by omega
    subst e
    rw [List.drop_length] at hl
    cases hl
    exact .inl ⟨w.stop _ F2 H s2 G2.sub (Nat.le_refl _), q σ F2 H G2 (s1.trans s2)⟩
end

/-! ### comprehensions -/
def wipeE : Env → List Nat → Env
  | ρ, [] => ρ
  | ρ, v :: vs => (wipeE ρ vs).set v none
def keepD (ρ : Env) (v : Nat) : Option S := match ρ[v]? with
  | some (some (.d x)) => some (.d x)
  | _ => none
/-- the slots of the comprehension's own names as they were -/
def putBack (ρ0 ρ : Env) : List Nat → Env
  | [] => ρ
  | v :: vs => (putBack ρ0 ρ vs).set v (keepD ρ0 v)
def lcLoop (h : GM) (t : TM) (e : EM) (vs : List Nat) : List D → List D → LM
  | [], acc, ρ => some (acc, ρ)
  | d :: r, acc, ρ => (h d (wipeE ρ vs)).bind fun ρ1 => (t ρ1).bind fun p => if p.1 then (e p.2).bind fun q => if acc.length < 16777216 then lcLoop h t e vs r (acc ++ [q.1]) q.2 else none
    else lcLoop h t e vs r acc p.2
def tYs : TM := fun ρ => some (true, ρ)
abbrev DTs (X : Cx) (g : Gx) (es : List Expr) (t : TM) : Prop := PTs X es (tT X.K g t)
theorem dts_nil {X : Cx} {g : Gx} : DTs X g [] tYs := ⟨fun pins s σ H Q I ⟨F, ρ, b, ρ', G, hf, q⟩ => by
  cases hf
  exact pts_nil.run pins s σ H Q I (q F H G (Same.refl _))⟩
theorem dts_one {X : Cx} {g : Gx} {c : Expr} {t : TM} (h : DT X g c t) : DTs X g [c] t := pts_one h

def nLc (it : LM) (h : GM) (t : TM) (e : EM) (vs : List Nat) : NM := fun ρ => (it ρ).bind fun p => (lcLoop h t e vs p.1 [] p.2).bind fun q => some (.lst q.1, putBack p.2 q.2 vs)
theorem wipe_get {σ : St} : ∀ {vs : List Nat} {j : Nat}, (wipe σ vs)[j]? = if j ∈ vs then (if j < σ.length then some none else none) else σ[j]?
  | [], j => by simp [wipe]
  | v :: vs, j => by
    unfold wipe
    by_cases e : j = v
    · subst e
      simp only [List.mem_cons, true_or, if_true]
      by_cases hl : j < σ.length
      · rw [List.getElem?_set_self (by rw [wipe_length]; exact hl), if_pos hl]
      · rw [List.getElem?_eq_none (by rw [List.length_set, wipe_length]; omega), if_neg hl]
    · rw [List.getElem?_set_ne (Ne.symm e), wipe_get]
      simp [e]
theorem wipe_eq {σ σ' : St} {vs : List Nat} (hl : σ'.length = σ.length) (h : ∀ j, j ∉ vs → σ'[j]? = σ[j]?) : wipe σ' vs = wipe σ vs := by
  apply List.ext_getElem?
  intro j
  rw [wipe_get, wipe_get, hl]
  by_cases hj : j ∈ vs
  · rw [if_pos hj, if_pos hj]
  · rw [if_neg hj, if_neg hj, h j hj]
theorem wipeE_length (ρ : Env) : ∀ vs : List Nat, (wipeE ρ vs).length = ρ.length
  | [] => rfl
  | v :: vs => by unfold wipeE; rw [List.length_set, wipeE_length ρ vs]
theorem putBack_length (ρ0 ρ : Env) : ∀ vs : List Nat, (putBack ρ0 ρ vs).length = ρ.length
  | [] => rfl
  | v :: vs => by unfold putBack; rw [List.length_set, putBack_length ρ0 ρ vs]
theorem wipeE_get {ρ : Env} : ∀ {vs : List Nat} {j : Nat}, (wipeE ρ vs)[j]? = if j ∈ vs then (if j < ρ.length then some none else none) else ρ[j]?
  | [], j => by simp [wipeE]
  | v :: vs, j => by
    unfold wipeE
    by_cases e : j = v
    · subst e
      simp only [List.mem_cons, true_or, if_true]
      by_cases hl : j < ρ.length
      · rw [List.getElem?_set_self (by rw [wipeE_length]; exact hl), if_pos hl]
      · rw [List.getElem?_eq_none (by rw [List.length_set, wipeE_length]; omega), if_neg hl]
    · rw [List.getElem?_set_ne (Ne.symm e), wipeE_get]
      simp [e]
theorem putBack_get {ρ0 ρ : Env} : ∀ {vs : List Nat} {j : Nat}, (putBack ρ0 ρ vs)[j]? = if j ∈ vs then (if j < ρ.length then some (keepD ρ0 j) else none) else ρ[j]?
  | [], j => by simp [putBack]
  | v :: vs, j => by
    unfold putBack
    by_cases e : j = v
    · subst e
      simp only [List.mem_cons, true_or, if_true]
      by_cases hl : j < ρ.length
      · rw [List.getElem?_set_self (by rw [putBack_length]; exact hl), if_pos hl]
      · rw [List.getElem?_eq_none (by rw [List.length_set, putBack_length]; omega), if_neg hl]
    · rw [List.getElem?_set_ne (Ne.symm e), putBack_get]
      simp [e]
section
variable {K : PySem.W.Frag} {g : Gx} {F H F' H' : Hp} {σ : St} {ρ ρ' : Env}
/-- fewer slots are known -/
theorem Gd.less (G : Gd K g F H σ ρ) {σ' : St} {ρ' : Env} (hl : σ'.length = ρ'.length) (h : ∀ (j : Nat) (s : S), ρ'[j]? = some (some s) → ρ[j]? = some (some s) ∧ σ'[j]? = σ[j]?) : Gd K g F H σ' ρ' := by
  have own : ∀ {j : Nat} {b : Addr}, OwnAt H σ' ρ' j b → OwnAt H σ ρ j b := fun {j b} h0 => by
    obtain ⟨s, hs⟩ := h0.slot
    obtain ⟨h1, h2⟩ := h j s hs
    exact h0.to h2.symm (h1.trans hs.symm) fun _ _ _ _ _ => rfl
  exact ⟨hl, fun j s e => by
    obtain ⟨h1, h2⟩ := h j s e
    rw [h2]; exact G.slot j s h1, fun a b l h1 h2 => G.dist a b l (own h1) (own h2), G.sub, G.old, G.keep, G.grow, G.new, fun b o q => ⟨(G.pinned b o q).1, (G.pinned b o q).2.1, fun j z => (G.pinned b o q).2.2 j (own z)⟩⟩
theorem Gd.wipe (G : Gd K g F H σ ρ) (vs : List Nat) : Gd K g F H (L2.wipe σ vs) (wipeE ρ vs) := G.less (by rw [wipe_length, wipeE_length, G.len]) fun j s e => by
  rw [wipeE_get] at e
  by_cases hj : j ∈ vs
  · rw [if_pos hj] at e
    split at e <;> cases e
  · rw [if_neg hj] at e
    rw [wipe_get, if_neg hj]
    exact ⟨e, rfl⟩
/-- with one more thing to be kept -/
def Gx.also (g : Gx) (a : Addr) (o : HO) : Gx := ⟨g.H0, g.F0, g.pl, upd g.pin a o⟩
theorem Gd.pin (G : Gd K g F H σ ρ) {a : Addr} {o : HO} (h1 : H a = some o) (h2 : F a = none) (h3 : ∀ i, ¬ OwnAt H σ ρ i a) : Gd K (g.also a o) F H σ ρ :=
  ⟨G.len, fun i s e => by
    have z := G.slot i s e
    cases s with
    | d x => exact z
    | own t xs => exact z
    | tre t xs => exact z, G.dist, G.sub, G.old, G.keep, G.grow, G.new, fun b u q => by
    have q' : upd g.pin a o b = some u := q
    by_cases e : b = a
    · subst e
      rw [upd_same] at q'
      cases q'
      exact ⟨h1, h2, h3⟩
    · rw [upd_ne e] at q'
      exact G.pinned b u q'⟩
theorem Gd.unpin {a : Addr} {o : HO} (hn : g.pin a = none) (G : Gd K (g.also a o) F H σ ρ) : Gd K g F H σ ρ ∧ H a = some o ∧ F a = none ∧ ∀ i, ¬ OwnAt H σ ρ i a :=
  ⟨⟨G.len, fun i s e => by
    have z := G.slot i s e
    cases s with
    | d x => exact z
    | own t xs => exact z
    | tre t xs => exact z, G.dist, G.sub, G.old, G.keep, G.grow, G.new, fun b u q => G.pinned b u (by
      show upd g.pin a o b = some u
      rw [upd_ne (ne_of_none q hn)]; exact q)⟩, G.pinned a o upd_same⟩
theorem Gd.ownUpd (G : Gd K g F H σ ρ) {a : Addr} {o : HO} (no : ∀ i, ¬ OwnAt H σ ρ i a) {j : Nat} {b : Addr} (h : OwnAt (upd H a o) σ ρ j b) : OwnAt H σ ρ j b := h.to rfl rfl fun l t xs e r => by
  obtain ⟨u, hu⟩ := G.root e r
  have ne : l ≠ a := fun c => by
    subst c
    exact no j (.ofT e r hu List.mem_cons_self)
  exact (upd_ne ne).symm
/-- a thing that is neither frozen, nor owned, nor to be kept is changed -/
theorem Gd.updFree (G : Gd K g F H σ ρ) {a : Addr} {o : HO} (hf : F a = none) (h0 : g.H0 a = none) (hp : g.pin a = none) (no : ∀ i, ¬ OwnAt H σ ρ i a) : Gd K g F (upd H a o) σ ρ :=
  ⟨G.len, fun i s e => by
    have z := G.slot i s e
    cases s with
    | d x => exact z
    | own t xs =>
      obtain ⟨l, vs, e1, tg, fl, hl, r⟩ := z
      refine ⟨l, vs, e1, tg, fl, ?_, r⟩
      rw [upd_ne]; exact hl
      intro c; subst c; exact no i (.of e1 e)
    | tre t xs =>
      obtain ⟨l, vs, e1, tg, fl, hl, r, nd, tx⟩ := z
      have ne : ∀ b ∈ l :: bx vs xs, b ≠ a := fun b m c => no i (.ofT e1 e hl (c ▸ m))
      exact ⟨l, vs, e1, tg, fl, by rw [upd_ne (ne l List.mem_cons_self)]; exact hl, r.move (Same.refl _) fun b m => ⟨(r.at_ b m).1, upd_ne (ne b (List.mem_cons_of_mem _ m))⟩, nd, tx⟩, fun i j l h1 h2 => G.dist i j l (G.ownUpd no h1) (G.ownUpd no h2), fun b u q => by rw [upd_ne (ne_of_none q hf)]; exact G.sub _ _ q, G.old, fun b u q n => by rw [upd_ne (ne_of_none q h0)]; exact G.keep _ _ q n, fun b q => by
      by_cases c : b = a
      · subst c; exact h0
      · rw [upd_ne c] at q; exact G.grow b q, G.new, fun b u q => by
      obtain ⟨h1, h2, h3⟩ := G.pinned b u q
      refine ⟨?_, h2, fun i z => h3 i (G.ownUpd no z)⟩
      rw [upd_ne (ne_of_none q hp)]; exact h1⟩
theorem keepD_some {ρ : Env} {v : Nat} {s : S} (h : keepD ρ v = some s) : ∃ x, s = .d x ∧ ρ[v]? = some (some (.d x)) := by
  unfold keepD at h
  split at h
  · rename_i x hx
    cases h
    exact ⟨x, rfl, hx⟩
  · cases h
theorem Gd.unwipe {F1 H1 : Hp} {ρ1 ρE : Env} {vs : List Nat} (G1 : Gd K g F1 H1 σ ρ1) (s : Same F1 F) (G : Gd K g F H (L2.wipe σ vs) (wipeE ρE vs)) : Gd K g F H σ (putBack ρ1 ρE vs) := by
  have hl : σ.length = (putBack ρ1 ρE vs).length := by
    have := G.len
    rw [wipe_length, wipeE_length] at this
    rw [putBack_length, this]
  have old : ∀ {j : Nat} {s : S}, (putBack ρ1 ρE vs)[j]? = some (some s) → (j ∈ vs ∧ ∃ x, s = .d x ∧ ρ1[j]? = some (some (.d x))) ∨ (j ∉ vs ∧ (wipeE ρE vs)[j]? = some (some s) ∧ (L2.wipe σ vs)[j]? = σ[j]?) := fun {j s} e => by
    rw [putBack_get] at e
    by_cases hj : j ∈ vs
    · rw [if_pos hj] at e
      split at e
      · exact .inl ⟨hj, keepD_some (Option.some.inj e)⟩
      · cases e
    · rw [if_neg hj] at e
      exact .inr ⟨hj, by rw [wipeE_get, if_neg hj]; exact e, by rw [wipe_get, if_neg hj]⟩
  have own : ∀ {j : Nat} {b : Addr}, OwnAt H σ (putBack ρ1 ρE vs) j b → OwnAt H (L2.wipe σ vs) (wipeE ρE vs) j b := fun {j b} h0 => by
    by_cases hj : j ∈ vs
    · obtain ⟨l, e1, ⟨⟨t, xs, r⟩, _⟩ | ⟨t, xs, o, r, _, _⟩⟩ := h0 <;>
      · rcases old r with ⟨_, x, q, _⟩ | ⟨n, _⟩
        · cases q
        · exact absurd hj n
    · exact h0.to (by rw [wipe_get, if_neg hj]) (by rw [wipeE_get, if_neg hj, putBack_get, if_neg hj]) fun _ _ _ _ _ => rfl
  refine ⟨hl, fun j s' e => ?_, fun a b l h1 h2 => G.dist a b l (own h1) (own h2), G.sub, G.old, G.keep, G.grow, G.new, fun b o q => ⟨(G.pinned b o q).1, (G.pinned b o q).2.1, fun j z => (G.pinned b o q).2.2 j (own z)⟩⟩
  rcases old e with ⟨_, x, rfl, q⟩ | ⟨_, q1, q2⟩
  · obtain ⟨v, e1, r⟩ := G1.slot j _ q
    exact ⟨v, e1, r.mono s⟩
  · rw [← q2]; exact G.slot j s' q1
end
def tGx (K : PySem.W.Frag) (ws : List Nat) (f : GM) : TG := fun v σ H Q => ∃ g, tG K g ws f v σ H Q
def tTx (K : PySem.W.Frag) (f : TM) : TT := fun σ H Q => ∃ g, tT K g f σ H Q
def tEx (K : PySem.W.Frag) (f : EM) : TE := fun σ H Q => ∃ g, tE K g f σ H Q
theorem pgx {X : Cx} {tg : Expr} {ws : List Nat} {f : GM} (h : ∀ g, DG X g tg ws f) : PG X tg (tGx X.K ws f) := ⟨fun pins s σ H v u Q I r ⟨g, q⟩ => (h g).run pins s σ H v u Q I r q⟩
theorem ptsx {X : Cx} {es : List Expr} {f : TM} (h : ∀ g, DTs X g es f) : PTs X es (tTx X.K f) := ⟨fun pins s σ H Q I ⟨g, q⟩ => (h g).run pins s σ H Q I q⟩
theorem pex {X : Cx} {ex : Expr} {f : EM} (h : ∀ g, DE X g ex f) : PE X ex (tEx X.K f) := ⟨fun pins s σ H Q I ⟨g, q⟩ => (h g).run pins s σ H Q I q⟩
/-- what is walked, told by the state -/
structure WalkG (K : PySem.W.Frag) (J : It) (g : Gx) (F0 : Hp) (ds : List D) : Prop where
  go : ∀ (i : Nat) (F H : Hp) (σ : L2.St) (ρ : Env), Gd K g F H σ ρ → Same F0 F → i < ds.length → J.go i H
  yld : ∀ (i : Nat) (F H : Hp) (σ : L2.St) (ρ : Env) (x : V) (H' : Hp), Gd K g F H σ ρ → Same F0 F → i < ds.length → J.yld i H x H' → ∃ d F', ds[i]? = some d ∧ Ext F H F' H' ∧ Rep K F' x d
  stop : ∀ (i : Nat) (F H : Hp) (σ : L2.St) (ρ : Env), Gd K g F H σ ρ → Same F0 F → ds.length ≤ i → J.stop i H
theorem WalkOk.toG {K : PySem.W.Frag} {J : It} {g : Gx} {F0 : Hp} {ds : List D} (w : WalkOk K J F0 ds) : WalkG K J g F0 ds :=
  ⟨fun i F H _ _ G s hi => w.go i F H s G.sub hi, fun i F H _ _ x H' G s hi y => w.yld i F H x H' s G.sub hi y, fun i F H _ _ G s hi => w.stop i F H s G.sub hi⟩
theorem lc_in {K : PySem.W.Frag} {g : Gx} {h : GM} {t : TM} {e : EM} {ws vs : List Nat} (sub : ∀ j ∈ ws, j ∈ vs) {σ : St} {J : It} {F1 H1 : Hp} {ρ1 ρE : Env} {ds xsE : List D} (G1 : Gd K g F1 H1 σ ρ1) (w : WalkG K J g F1 ds) (eE : lcLoop h t e vs ds [] ρ1 = some (xsE, ρE)) {Q : VK}
    (q : ∀ l o F' H', Gd K g F' H' σ (putBack ρ1 ρE vs) → Same F1 F' → H' l = some o → F' l = none → g.H0 l = none → g.pin l = none → (∀ i, ¬ OwnAt H' σ (putBack ρ1 ρE vs) i l) → ORep K F' o (.lst xsE) → Q (.ref l) H') :
    ∀ D, H1 D = none → ∃ W : Nat → Nat → Hp → Prop, (∃ m, W 0 m (upd H1 D (.lst []))) ∧ ∀ i m H, W i m H →
      (J.stop i H ∧ Q (.ref D) H) ∨ (J.go i H ∧ ∃ Nx : Hp → Prop, (∀ H', Nx H' → ∃ m', m' < m ∧ W (i + 1) m' H') ∧ ∀ x H', J.yld i H x H' → tGx K ws h x (L2.wipe σ vs) H' fun σ2 H2 => L2.wipe σ2 vs = L2.wipe σ vs ∧ tTx K t σ2 H2 fun b H3 =>
        if b = true then tEx K e σ2 H3 fun y H4 => ∃ acc, H4 D = some (.lst acc) ∧ acc.length < sizeLine ∧ Nx (upd H4 D (.lst (acc ++ [y]))) else Nx H3) := by
  intro L hL
  obtain ⟨_, fL, nL, pL, _⟩ := G1.fresh hL (.lst [])
  have G1' := (G1.fresh hL (.lst [])).1
  have Gw := G1'.wipe vs
  have noW : ∀ i, ¬ OwnAt (upd H1 L (.lst [])) (L2.wipe σ vs) (wipeE ρ1 vs) i L := (Gd.fresh (G1.wipe vs) hL (.lst [])).2.2.2.2
  refine ⟨fun i m H => m = ds.length - i ∧ i ≤ ds.length ∧ ∃ F2 ρ2 acc ws', Gd K g F2 H (L2.wipe σ vs) (wipeE ρ2 vs) ∧ Same F1 F2 ∧ H L = some (.lst ws') ∧ F2 L = none ∧ (∀ i, ¬ OwnAt H (L2.wipe σ vs) (wipeE ρ2 vs) i L) ∧ Reps K F2 ws' acc ∧ ws'.length = acc.length ∧ lcLoop h t e vs (ds.drop i) acc ρ2 = some (xsE, ρE),
    ⟨_, rfl, Nat.zero_le _, F1, ρ1, [], [], Gw, Same.refl _, upd_same, fL, noW, .nil, rfl, eE⟩, ?_⟩
  rintro i m H ⟨rfl, hi, F2, ρ2, acc, ws', G2, s2, hL2, fL2, no2, racc, hlen, hl⟩
  by_cases hlt : i < ds.length
  · refine .inr ⟨w.go i F2 H _ _ G2 s2 hlt, fun H' => i + 1 ≤ ds.length ∧ ∃ F3 ρ3 acc ws', Gd K g F3 H' (L2.wipe σ vs) (wipeE ρ3 vs) ∧ Same F1 F3 ∧ H' L = some (.lst ws') ∧ F3 L = none ∧ (∀ i, ¬ OwnAt H' (L2.wipe σ vs) (wipeE ρ3 vs) i L) ∧ Reps K F3 ws' acc ∧ ws'.length = acc.length ∧ lcLoop h t e vs (ds.drop (i + 1)) acc ρ3 = some (xsE, ρE),
      fun H' p' => ⟨ds.length - (i + 1), by omega, rfl, p'⟩, fun x H' y => ?_⟩
    obtain ⟨d, F3, hd, xt, r⟩ := w.yld i F2 H _ _ x H' G2 s2 hlt y
    have ed : ds.drop i = d :: ds.drop (i + 1) := by
      rw [List.drop_eq_getElem_cons hlt]
      rw [List.getElem?_eq_getElem hlt] at hd
      cases hd; rfl
    rw [ed] at hl
    unfold lcLoop at hl
    obtain ⟨ρ4, e4, hl⟩ := bnd hl
    obtain ⟨p5, e5, hl⟩ := bnd hl
    obtain ⟨b5, ρ5⟩ := p5
    have Gp := (G2.pin hL2 fL2 no2).ext xt
    have r3 : Reps K F3 ws' acc := racc.mono xt.ff
    -- wipe behind a turn
    have fold : ∀ {σ4 : St} {F6 H6 : Hp} {ρ6 : Env}, L2.wipe σ4 vs = L2.wipe σ vs → Gd K (g.also L (.lst ws')) F6 H6 σ4 ρ6 → Gd K g F6 H6 (L2.wipe σ vs) (wipeE ρ6 vs) ∧ H6 L = some (.lst ws') ∧ F6 L = none ∧ ∀ i, ¬ OwnAt H6 (L2.wipe σ vs) (wipeE ρ6 vs) i L := fun {σ4 F6 H6 ρ6} ew G6 => by
      have z := G6.wipe vs
      rw [ew] at z
      exact z.unpin pL
    refine ⟨g.also L (.lst ws'), F3, wipeE ρ2 vs, d, ρ4, Gp, r, e4, fun σ4 G4 w4 => ?_⟩
    have ew : L2.wipe σ4 vs = L2.wipe σ vs := by
      have e1 := wipe_eq (σ := L2.wipe σ vs) (σ' := σ4) (vs := vs) w4.1 fun j hj => w4.2 j fun z => hj (sub j z)
      rw [e1]
      apply List.ext_getElem?
      intro j
      rw [wipe_get, wipe_get, wipe_length]
      by_cases hj : j ∈ vs
      · rw [if_pos hj, if_pos hj]
      · rw [if_neg hj, if_neg hj]
    refine ⟨?_, g.also L (.lst ws'), F3, ρ4, b5, ρ5, G4, e5, fun F5 H5 G5 s5 => ?_⟩
    · exact ew
    · cases b5 with
      | true =>
        refine iteT ?_
        simp only [if_true] at hl
        obtain ⟨p6, e6, hl⟩ := bnd hl
        obtain ⟨y6, ρ6⟩ := p6
        refine ⟨g.also L (.lst ws'), F5, ρ5, y6, ρ6, G5, e6, fun y F6 H6 G6 s6 r6 => ?_⟩
        dsimp only at hl
        split at hl
        · rename_i hsz
          obtain ⟨G7, l7, f7, n7⟩ := fold ew G6
          refine ⟨ws', l7, by rw [hlen]; exact (by rw [sizeLine_eq]; exact hsz), hlt, F6, ρ6, acc ++ [y6], ws' ++ [y], G7.updFree f7 nL pL n7, ((s2.trans xt.ff).trans s5).trans s6, upd_same, f7, fun j z => n7 j (G7.ownUpd n7 z), ((r3.mono s5).mono s6).append (.cons r6 .nil), by simp [hlen], hl⟩
        · cases hl
      | false =>
        refine iteF ?_
        obtain ⟨G7, l7, f7, n7⟩ := fold ew G5
        exact ⟨hlt, F5, ρ5, acc, ws', G7, (s2.trans xt.ff).trans s5, l7, f7, n7, r3.mono s5, hlen, hl⟩
  · have e : i = ds.length := by omega
    subst e
    rw [List.drop_length] at hl
    cases hl
    refine .inl ⟨w.stop _ F2 H _ _ G2 s2 (Nat.le_refl _), q L _ F2 H (G1.unwipe s2 G2) s2 hL2 fL2 nL pL (fun i hi => ?_) (.lst racc)⟩
    -- the new list is in no slot
    by_cases hj : i ∈ vs
    · obtain ⟨l, e1, ⟨⟨t', zs, r1⟩, _⟩ | ⟨t', zs, o, r1, _, _⟩⟩ := hi <;>
      · rw [putBack_get, if_pos hj] at r1
        split at r1
        · obtain ⟨x, ex, _⟩ := keepD_some (Option.some.inj r1)
          cases ex
        · cases r1
    · exact no2 i (hi.to (by rw [wipe_get, if_neg hj]) (by rw [wipeE_get, if_neg hj, putBack_get, if_neg hj]) fun _ _ _ _ _ => rfl)
theorem lc_t {K : PySem.W.Frag} {g : Gx} {it : LM} {h : GM} {t : TM} {e : EM} {ws vs : List Nat} (sub : ∀ j ∈ ws, j ∈ vs) {σ : St} {H : Hp} {Q : VK} (q : tN K g (nLc it h t e vs) σ H Q) :
    tLc (tI K g it) (tGx K ws h) (tTx K t) (tEx K e) vs σ H Q := by
  obtain ⟨F, ρ, d, ρ', G, hf, q⟩ := q
  obtain ⟨p, e0, hf⟩ := bnd hf
  obtain ⟨ds, ρ1⟩ := p
  obtain ⟨pE, eE, hf⟩ := bnd hf
  obtain ⟨xsE, ρE⟩ := pE
  cases hf
  refine ⟨F, ρ, ds, ρ1, G, e0, fun J F1 H1 G1 s1 w => ?_⟩
  exact lc_in sub G1 w.toG eE fun l o F' H' G' s' => q l o F' H' G' (s1.trans s')
section
variable {X : Cx} {g : Gx} {elt tg iter : Expr} {ifs : List Expr} {scope : Scope} {own : List (Str × Nat)} {pos : Pos} {it : LM} {h : GM} {t : TM} {e : EM} {ws : List Nat}
theorem dn_lc (hc : X.calm = true) (hN : X.N.Nodup) (hi : DI X g tg iter it) (ok : BlkOk X.N X.env.scope scope own)
    (hg : ∀ (s : Shared) (H : Hp) (C : Addr) (cl : List (Str × Addr)) (fp : List Addr) (g : Gx), DG (X.blk s H scope (compEnvC scope cl C X.env) fp) g tg ws h)
    (ht : ∀ (s : Shared) (H : Hp) (C : Addr) (cl : List (Str × Addr)) (fp : List Addr) (g : Gx), DTs (X.blk s H scope (compEnvC scope cl C X.env) fp) g ifs t)
    (he : ∀ (s : Shared) (H : Hp) (C : Addr) (cl : List (Str × Addr)) (fp : List Addr) (g : Gx), DE (X.blk s H scope (compEnvC scope cl C X.env) fp) g elt e)
    (sub : ∀ j ∈ ws, j ∈ own.map (·.2)) (hs : ∀ x, foldedSetIterable iter X.env x = pure x := by intro _; rfl) :
    DN X g (.ListComp elt [⟨tg, iter, ifs, 0⟩] scope pos) (nLc it h t e (own.map (·.2))) :=
  weakPE (pe_lc (g := tGx X.K ws h) (tt := tTx X.K t) (te := tEx X.K e) hc hN hi ok (fun s H C cl fp => pgx (hg s H C cl fp)) (fun s H C cl fp => ptsx (ht s H C cl fp)) (fun s H C cl fp => pex (he s H C cl fp)) hs) fun σ H Q q => lc_t sub q
/-- name = [..] on one line, kept as an own list -/
theorem ds_ownLc {i : Nat} {y : Str} {py spos : Pos} (hc : X.calm = true) (hN : X.N.Nodup) (hy : X.N[i]? = some y) (hyl : X.env.scope.names.lookup y = some .local)
    (hsw : swapsWith (.ListComp elt [⟨tg, iter, ifs, 0⟩] scope pos) (some (.Name y py)) spos.line X.env = pure true) (hi : DI X g tg iter it) (ok : BlkOk X.N X.env.scope scope own)
    (hg : ∀ (s : Shared) (H : Hp) (C : Addr) (cl : List (Str × Addr)) (fp : List Addr) (g : Gx), DG (X.blk s H scope (compEnvC scope cl C X.env) fp) g tg ws h)
    (ht : ∀ (s : Shared) (H : Hp) (C : Addr) (cl : List (Str × Addr)) (fp : List Addr) (g : Gx), DTs (X.blk s H scope (compEnvC scope cl C X.env) fp) g ifs t)
    (he : ∀ (s : Shared) (H : Hp) (C : Addr) (cl : List (Str × Addr)) (fp : List Addr) (g : Gx), DE (X.blk s H scope (compEnvC scope cl C X.env) fp) g elt e)
    (sub : ∀ j ∈ ws, j ∈ own.map (·.2)) (hs : ∀ x, foldedSetIterable iter X.env x = pure x := by intro _; rfl) :
    DS X g (.Assign [.Name y py] (.ListComp elt [⟨tg, iter, ifs, 0⟩] scope pos) spos) (sOwn i (nLc it h t e (own.map (·.2)))) :=
  weakPS (ps_setLc (g := tGx X.K ws h) (tt := tTx X.K t) (te := tEx X.K e) hc hN hy hyl hsw hi ok (fun s H C cl fp => pgx (hg s H C cl fp)) (fun s H C cl fp => ptsx (ht s H C cl fp)) (fun s H C cl fp => pex (he s H C cl fp)) hs) fun D σ H ⟨F, ρ, o, ρ', G, hf, q⟩ => by
  obtain ⟨p, e, hf⟩ := bnd hf
  cases hf
  exact lc_t sub ⟨F, ρ, p.1, p.2, G, e, fun l vs F' H' G' s h1 h2 h3 h4 h5 h6 => q _ F' H' (G'.setOwn i h1 h2 h3 h4 h5 h6) s⟩
/-- .. kept as data -/
def sSetN (i : Nat) (f : NM) : SM := fun ρ => (f ρ).bind fun p => some (.nx, p.2.set i (some (.d p.1)))
theorem ds_setLc {i : Nat} {y : Str} {py spos : Pos} (hc : X.calm = true) (hN : X.N.Nodup) (hy : X.N[i]? = some y) (hyl : X.env.scope.names.lookup y = some .local)
    (hsw : swapsWith (.ListComp elt [⟨tg, iter, ifs, 0⟩] scope pos) (some (.Name y py)) spos.line X.env = pure true) (hi : DI X g tg iter it) (ok : BlkOk X.N X.env.scope scope own)
    (hg : ∀ (s : Shared) (H : Hp) (C : Addr) (cl : List (Str × Addr)) (fp : List Addr) (g : Gx), DG (X.blk s H scope (compEnvC scope cl C X.env) fp) g tg ws h)
    (ht : ∀ (s : Shared) (H : Hp) (C : Addr) (cl : List (Str × Addr)) (fp : List Addr) (g : Gx), DTs (X.blk s H scope (compEnvC scope cl C X.env) fp) g ifs t)
    (he : ∀ (s : Shared) (H : Hp) (C : Addr) (cl : List (Str × Addr)) (fp : List Addr) (g : Gx), DE (X.blk s H scope (compEnvC scope cl C X.env) fp) g elt e)
    (sub : ∀ j ∈ ws, j ∈ own.map (·.2)) (hs : ∀ x, foldedSetIterable iter X.env x = pure x := by intro _; rfl) :
    DS X g (.Assign [.Name y py] (.ListComp elt [⟨tg, iter, ifs, 0⟩] scope pos) spos) (sSetN i (nLc it h t e (own.map (·.2)))) :=
  weakPS (ps_setLc (g := tGx X.K ws h) (tt := tTx X.K t) (te := tEx X.K e) hc hN hy hyl hsw hi ok (fun s H C cl fp => pgx (hg s H C cl fp)) (fun s H C cl fp => ptsx (ht s H C cl fp)) (fun s H C cl fp => pex (he s H C cl fp)) hs) fun D σ H ⟨F, ρ, o, ρ', G, hf, q⟩ => by
  obtain ⟨p, e, hf⟩ := bnd hf
  cases hf
  refine lc_t sub ⟨F, ρ, p.1, p.2, G, e, fun l vs F' H' G' s h1 h2 h3 h4 h5 h6 => ?_⟩
  have sm' : Same F' (upd F' l vs) := fun b u e => by rw [upd_ne (ne_of_none e h2)]; exact e
  exact q _ _ H' ((G'.freeze h1 h2 h3 h4 h5).setD i ((h6.mono sm').rep upd_same)) (s.trans sm')
end
end L3

namespace L3
open PySem L2

/-! ### defs: what they are called with, what they hand back -/
inductive A where
  | v (x : D)
  | io (x : D)
  | tr (x : D)
inductive Res where
  | d (x : D)
  | n (x : D)
  | r (x : D)
abbrev FM := List A → Option (Res × List D)
inductive ArgsOk (K : PySem.W.Frag) (F H : Hp) : List V → List A → Prop
  | nil : ArgsOk K F H [] []
  | v {v : V} {x : D} {vs : List V} {as : List A} : Rep K F v x → ArgsOk K F H vs as → ArgsOk K F H (v :: vs) (.v x :: as)
  | io {l : Addr} {ws : HO} {xs : D} {vs : List V} {as : List A} : F l = none → H l = some ws → ORep K F ws xs → ArgsOk K F H vs as → ArgsOk K F H (.ref l :: vs) (.io xs :: as)
  | tr {l : Addr} {ws : HO} {xs : D} {vs : List V} {as : List A} : F l = none → H l = some ws → TRep K F H ws xs → ArgsOk K F H vs as → ArgsOk K F H (.ref l :: vs) (.tr xs :: as)
def bxo : Option HO → D → List Addr
  | some o, x => bx o x
  | none, _ => []
/-- the in-out things, each with its boxes -/
def fpA (H : Hp) : V → A → List (Addr × List Addr)
  | .ref l, .io _ => [(l, [])]
  | .ref l, .tr x => [(l, bxo (H l) x)]
  | _, _ => []
def fpL (H : Hp) : List V → List A → List (Addr × List Addr)
  | v :: vs, a :: as => fpA H v a ++ fpL H vs as
  | _, _ => []
theorem fpL_v (H : Hp) (v : V) (x : D) (vs : List V) (as : List A) : fpL H (v :: vs) (.v x :: as) = fpL H vs as := by cases v <;> rfl
theorem fpL_io (H : Hp) (l : Addr) (x : D) (vs : List V) (as : List A) : fpL H (.ref l :: vs) (.io x :: as) = (l, []) :: fpL H vs as := rfl
theorem fpL_tr {H : Hp} {l : Addr} {o : HO} (h : H l = some o) (x : D) (vs : List V) (as : List A) : fpL H (.ref l :: vs) (.tr x :: as) = (l, bx o x) :: fpL H vs as := by
  show (l, bxo (H l) x) :: _ = _
  rw [h]; rfl
theorem adL_cons (p : Addr × List Addr) (r : List (Addr × List Addr)) : adL (p :: r) = p.1 :: (p.2 ++ adL r) := by simp [adL]
/-- what the in-out things are behind a call -/
inductive IosOk (K : PySem.W.Frag) (H F' H' : Hp) : List V → List A → List D → Prop
  | nil : IosOk K H F' H' [] [] []
  | v {v : V} {x : D} {vs : List V} {as : List A} {os : List D} : IosOk K H F' H' vs as os → IosOk K H F' H' (v :: vs) (.v x :: as) os
  | io {l : Addr} {ws : HO} {x0 xs : D} {vs : List V} {as : List A} {os : List D} : F' l = none → H' l = some ws → ORep K F' ws xs → IosOk K H F' H' vs as os → IosOk K H F' H' (.ref l :: vs) (.io x0 :: as) (xs :: os)
  | tr {l : Addr} {ws : HO} {x0 xs : D} {vs : List V} {as : List A} {os : List D} : F' l = none → H' l = some ws → TRep K F' H' ws xs → (∀ a ∈ bx ws xs, a ∈ bxo (H l) x0 ∨ H a = none) → IosOk K H F' H' vs as os → IosOk K H F' H' (.ref l :: vs) (.tr x0 :: as) (xs :: os)
def fpO (H' : Hp) : List V → List A → List D → List (Addr × List Addr)
  | _ :: vs, .v _ :: as, os => fpO H' vs as os
  | .ref l :: vs, .io _ :: as, _ :: os => (l, []) :: fpO H' vs as os
  | .ref l :: vs, .tr _ :: as, x :: os => (l, bxo (H' l) x) :: fpO H' vs as os
  | _, _, _ => []
theorem fpO_v (H : Hp) (v : V) (x : D) (vs : List V) (as : List A) (os : List D) : fpO H (v :: vs) (.v x :: as) os = fpO H vs as os := by cases v <;> cases os <;> rfl
def ResOk (K : PySem.W.Frag) (H F' H' : Hp) (ad : List Addr) (v : V) : Res → Prop
  | .d x => Rep K F' v x
  | .n xs => ∃ l ws, v = .ref l ∧ H l = none ∧ F' l = none ∧ l ∉ ad ∧ H' l = some ws ∧ ORep K F' ws xs
  | .r xs => ∃ l ws, v = .ref l ∧ H' l = some ws ∧ TRep K F' H' ws xs ∧ (l :: bx ws xs).Nodup ∧ ∀ a ∈ l :: bx ws xs, H a = none ∧ F' a = none ∧ a ∉ ad
/-- behind a call -/
structure Post (K : PySem.W.Frag) (F H F' H' : Hp) (io : List Addr) : Prop where
  ff : Same F F'
  sub : Same F' H'
  keep : ∀ b o, H b = some o → b ∉ io → H' b = some o
  new : ∀ b o, F' b = some o → F b = some o ∨ H b = none
  grow : ∀ b, H' b = none → H b = none
def spF (K : PySem.W.Frag) (fm : FM) : Sp := fun vs H Q _ => ∃ F as r os, ArgsOk K F H vs as ∧ (adL (fpL H vs as)).Nodup ∧ Same F H ∧ fm as = some (r, os) ∧
  ∀ v F' H', Post K F H F' H' (adL (fpL H vs as)) → IosOk K H F' H' vs as os → (adL (fpO H' vs as os)).Nodup → ResOk K H F' H' (adL (fpO H' vs as os)) v r → Q v H'

theorem ArgsOk.length {K : PySem.W.Frag} {F H : Hp} : ∀ {vs : List V} {as : List A}, ArgsOk K F H vs as → vs.length = as.length
  | _, _, .nil => rfl
  | _, _, .v _ r => by simp [ArgsOk.length r]
  | _, _, .io _ _ _ r => by simp [ArgsOk.length r]
  | _, _, .tr _ _ _ r => by simp [ArgsOk.length r]

def entry : Nat → List A → Env
  | _, [] => []
  | k, .v x :: r => some (.d x) :: entry k r
  | k, .io xs :: r => some (.own (some k) xs) :: entry (k + 1) r
  | k, .tr xs :: r => some (.tre (some k) xs) :: entry (k + 1) r
def collect : Nat → Nat → List A → Env → Option (List D)
  | _, _, [], _ => some []
  | k, i, .v _ :: r, ρ => collect k (i + 1) r ρ
  | k, i, .io _ :: r, ρ => match ρ[i]? with
    | some (some (.own (some k') xs)) => if k' = k then (collect (k + 1) (i + 1) r ρ).bind fun os => some (xs :: os) else none
    | _ => none
  | k, i, .tr _ :: r, ρ => match ρ[i]? with
    | some (some (.tre (some k') xs)) => if k' = k then (collect (k + 1) (i + 1) r ρ).bind fun os => some (xs :: os) else none
    | _ => none
def resOf : Out → Option Res
  | .rt d => some (.d d)
  | .rn xs => some (.n xs)
  | .rr xs => some (.r xs)
  | .nx => some (.d .non)
  | _ => none
/-- the mirror of a def with n parameters and m names, by its body -/
def mkF (n m : Nat) (G : SM) : FM := fun as => if as.length = n then (G (entry 0 as ++ List.replicate (m - n) none)).bind fun p => (resOf p.1).bind fun r => (collect 0 0 as p.2).bind fun os => some (r, os) else none

theorem entry_length : ∀ (k : Nat) (as : List A), (entry k as).length = as.length
  | _, [] => rfl
  | k, .v x :: r => by simp [entry, entry_length k r]
  | k, .io xs :: r => by simp [entry, entry_length (k + 1) r]
  | k, .tr xs :: r => by simp [entry, entry_length (k + 1) r]
section
variable {K : PySem.W.Frag} {F H : Hp} {F0 : Hp}
theorem entry_slot {pin : Hp} : ∀ {vs : List V} {as : List A} {k : Nat} {pre : List (Addr × List Addr)}, ArgsOk K F H vs as → (adL (fpL H vs as)).Nodup → pre.length = k → ∀ (i : Nat) (s : S), (entry k as)[i]? = some (some s) → SOk K ⟨H, F0, pre ++ fpL H vs as, pin⟩ F H (vs.map some)[i]? s
  | _, _, k, pre, .nil, nd, hp, i, s, e => by simp [entry] at e
  | _, _, k, pre, .v (v := v) (x := x) h r, nd, hp, i, s, e => by
    rw [fpL_v] at nd ⊢
    have ih := entry_slot (pin := pin) r nd hp
    cases i with
    | zero =>
      simp [entry] at e
      subst e
      exact ⟨v, by simp, h⟩
    | succ i =>
      have z := ih i s (by simpa [entry] using e)
      simpa using z
  | _, _, k, pre, .io (l := l) (ws := ws) (xs := xs) h1 h2 h3 r, nd, hp, i, s, e => by
    rw [fpL_io, adL_cons] at nd
    have ih := entry_slot (pin := pin) r (List.nodup_cons.mp nd).2 (k := k + 1) (pre := pre ++ [(l, [])]) (by simp [hp])
    cases i with
    | zero =>
      simp [entry] at e
      subst e
      refine ⟨l, ws, by simp, ⟨[], ?_⟩, h1, h2, h3⟩
      show (pre ++ (l, []) :: _)[k]? = some (l, [])
      rw [← hp]; simp
    | succ i =>
      have z := ih i s (by simpa [entry] using e)
      rw [List.append_assoc] at z
      simpa [fpL_io] using z
  | _, _, k, pre, .tr (l := l) (ws := ws) (xs := xs) (vs := vs) (as := as) h1 h2 h3 r, nd, hp, i, s, e => by
    rw [fpL_tr h2, adL_cons] at nd
    have nd2 : (bx ws xs ++ adL (fpL H vs as)).Nodup := (List.nodup_cons.mp nd).2
    have ih := entry_slot (pin := pin) r (List.nodup_append.mp nd2).2.1 (k := k + 1) (pre := pre ++ [(l, bx ws xs)]) (by simp [hp])
    rw [fpL_tr h2]
    cases i with
    | zero =>
      simp [entry] at e
      subst e
      have at_ : (pre ++ (l, bx ws xs) :: fpL H vs as)[k]? = some (l, bx ws xs) := by rw [← hp]; simp
      refine ⟨l, ws, by simp, ⟨_, at_⟩, h1, h2, h3, ?_, fun a m => .inr ⟨_, _, at_, m⟩⟩
      have nd' : (l :: (bx ws xs ++ adL (fpL H vs as))).Nodup := nd
      rw [← List.cons_append] at nd'
      exact (List.nodup_append.mp nd').1
    | succ i =>
      have z := ih i s (by simpa [entry] using e)
      rw [List.append_assoc] at z
      simpa using z
theorem entry_own : ∀ {vs : List V} {as : List A} {k : Nat}, ArgsOk K F H vs as → ∀ (i : Nat) (l : Addr), OwnAt H (vs.map some) (entry k as) i l → l ∈ adL (fpL H vs as)
  | _, _, k, .nil, i, l, h => by
    obtain ⟨s, q⟩ := h.slot
    simp [entry] at q
  | _, _, k, .v (v := v) (x := x) h r, i, l, ho => by
    cases i with
    | zero =>
      obtain ⟨l', e, ⟨⟨t, xs, q⟩, _⟩ | ⟨t, xs, o, q, _, _⟩⟩ := ho <;> simp [entry] at q
    | succ i =>
      rw [fpL_v]
      refine entry_own (k := k) r i l ?_
      obtain ⟨l', e, ⟨⟨t, xs, q⟩, ea⟩ | ⟨t, xs, o, q, hl, m⟩⟩ := ho
      · exact ⟨l', by simpa using e, .inl ⟨⟨t, xs, by simpa [entry] using q⟩, ea⟩⟩
      · exact ⟨l', by simpa using e, .inr ⟨t, xs, o, by simpa [entry] using q, hl, m⟩⟩
  | _, _, k, .io (l := l') h1 h2 h3 r, i, l, ho => by
    rw [fpL_io, adL_cons]
    cases i with
    | zero =>
      obtain ⟨l2, e, ⟨⟨t, xs, q⟩, ea⟩ | ⟨t, xs, o, q, hl, m⟩⟩ := ho
      · simp at e
        subst e
        simp [ea]
      · simp [entry] at q
    | succ i =>
      have := entry_own (k := k + 1) r i l (by
        obtain ⟨l', e, ⟨⟨t, xs, q⟩, ea⟩ | ⟨t, xs, o, q, hl, m⟩⟩ := ho
        · exact ⟨l', by simpa using e, .inl ⟨⟨t, xs, by simpa [entry] using q⟩, ea⟩⟩
        · exact ⟨l', by simpa using e, .inr ⟨t, xs, o, by simpa [entry] using q, hl, m⟩⟩)
      simp [this]
  | _, _, k, .tr (l := l') (ws := ws) (xs := xs0) h1 h2 h3 r, i, l, ho => by
    rw [fpL_tr h2, adL_cons]
    cases i with
    | zero =>
      obtain ⟨l2, e, ⟨⟨t, xs, q⟩, ea⟩ | ⟨t, xs, o, q, hl, m⟩⟩ := ho
      · simp [entry] at q
      · simp at e
        subst e
        simp [entry] at q
        obtain ⟨_, rfl⟩ := q
        rw [h2] at hl
        cases hl
        rcases List.mem_cons.mp m with rfl | m
        · exact List.mem_cons_self
        · exact List.mem_cons_of_mem _ (List.mem_append_left _ m)
    | succ i =>
      have := entry_own (k := k + 1) r i l (by
        obtain ⟨l', e, ⟨⟨t, xs, q⟩, ea⟩ | ⟨t, xs, o, q, hl, m⟩⟩ := ho
        · exact ⟨l', by simpa using e, .inl ⟨⟨t, xs, by simpa [entry] using q⟩, ea⟩⟩
        · exact ⟨l', by simpa using e, .inr ⟨t, xs, o, by simpa [entry] using q, hl, m⟩⟩)
      simp [this]
/-- behind the first slot -/
theorem own_succ {σ : St} {ρ : Env} {x : Option V} {s : Option S} {i : Nat} {a : Addr} (h : OwnAt H (x :: σ) (s :: ρ) (i + 1) a) : OwnAt H σ ρ i a := by
  obtain ⟨l', e, ⟨⟨t, xs, q⟩, ea⟩ | ⟨t, xs, o, q, hl, m⟩⟩ := h
  · exact ⟨l', by simpa using e, .inl ⟨⟨t, xs, by simpa using q⟩, ea⟩⟩
  · exact ⟨l', by simpa using e, .inr ⟨t, xs, o, by simpa using q, hl, m⟩⟩
theorem own_zero {σ : St} {ρ : Env} {x : Option V} {s : Option S} {a : Addr} (h : OwnAt H (x :: σ) (s :: ρ) 0 a) : ∃ l, x = some (.ref l) ∧ (((∃ t xs, s = some (.own t xs)) ∧ a = l) ∨ ∃ t xs o, s = some (.tre t xs) ∧ H l = some o ∧ a ∈ l :: bx o xs) := by
  obtain ⟨l', e, ⟨⟨t, xs, q⟩, ea⟩ | ⟨t, xs, o, q, hl, m⟩⟩ := h
  · exact ⟨l', by simpa using e, .inl ⟨⟨t, xs, by simpa using q⟩, ea⟩⟩
  · exact ⟨l', by simpa using e, .inr ⟨t, xs, o, by simpa using q, hl, m⟩⟩
theorem entry_dist : ∀ {vs : List V} {as : List A} {k : Nat}, ArgsOk K F H vs as → (adL (fpL H vs as)).Nodup → ∀ (i j : Nat) (l : Addr), OwnAt H (vs.map some) (entry k as) i l → OwnAt H (vs.map some) (entry k as) j l → i = j
  | _, _, k, .nil, nd, i, j, l, h, _ => by
    obtain ⟨s, q⟩ := h.slot
    simp [entry] at q
  | _, _, k, .v (v := v) (x := x) h r, nd, i, j, l, h1, h2 => by
    rw [fpL_v] at nd
    cases i with
    | zero =>
      obtain ⟨_, _, ⟨⟨_, _, q⟩, _⟩ | ⟨_, _, _, q, _, _⟩⟩ := own_zero (x := some v) (s := some (.d x)) h1 <;> cases q
    | succ i =>
      cases j with
      | zero => obtain ⟨_, _, ⟨⟨_, _, q⟩, _⟩ | ⟨_, _, _, q, _, _⟩⟩ := own_zero (x := some v) (s := some (.d x)) h2 <;> cases q
      | succ j => rw [entry_dist r nd i j l (own_succ h1) (own_succ h2)]
  | _, _, k, .io (l := l') (xs := xs0) (vs := vs) (as := as) g1 g2 g3 r, nd, i, j, l, h1, h2 => by
    rw [fpL_io, adL_cons, List.nodup_cons] at nd
    have first : ∀ {a : Addr}, OwnAt H (some (V.ref l') :: vs.map some) (some (.own (some k) xs0) :: entry (k + 1) as) 0 a → a = l' := fun {a} h => by
      obtain ⟨l2, e, ⟨_, q⟩ | ⟨_, _, _, q, _, _⟩⟩ := own_zero (x := some (.ref l')) (s := some (.own (some k) xs0)) h
      · cases e; exact q
      · cases q
    cases i with
    | zero =>
      cases j with
      | zero => rfl
      | succ j =>
        rw [first h1] at h2
        exact absurd (entry_own (k := k + 1) r j _ (own_succ h2)) (by simpa using nd.1)
    | succ i =>
      cases j with
      | zero =>
        rw [first h2] at h1
        exact absurd (entry_own (k := k + 1) r i _ (own_succ h1)) (by simpa using nd.1)
      | succ j => rw [entry_dist (k := k + 1) r nd.2 i j l (own_succ h1) (own_succ h2)]
  | _, _, k, .tr (l := l') (ws := ws) (xs := xs0) (vs := vs) (as := as) g1 g2 g3 r, nd, i, j, l, h1, h2 => by
    rw [fpL_tr g2, adL_cons, ← List.cons_append] at nd
    have nd := List.nodup_append.mp nd
    have first : ∀ {a : Addr}, OwnAt H (some (V.ref l') :: vs.map some) (some (.tre (some k) xs0) :: entry (k + 1) as) 0 a → a ∈ l' :: bx ws xs0 := fun {a} h => by
      obtain ⟨l2, e, ⟨⟨_, _, q⟩, _⟩ | ⟨_, _, o, q, ho, m⟩⟩ := own_zero (x := some (.ref l')) (s := some (.tre (some k) xs0)) h
      · cases q
      · cases e; cases q
        rw [g2] at ho; cases ho
        exact m
    cases i with
    | zero =>
      cases j with
      | zero => rfl
      | succ j => exact absurd rfl (nd.2.2 l (first h1) l (entry_own (k := k + 1) r j _ (own_succ h2)))
    | succ i =>
      cases j with
      | zero => exact absurd rfl (nd.2.2 l (first h2) l (entry_own (k := k + 1) r i _ (own_succ h1)))
      | succ j => rw [entry_dist (k := k + 1) r nd.2.1 i j l (own_succ h1) (own_succ h2)]
/-- the outs of a def, its slots at the end -/
theorem collect_ok {g : Gx} {F' H' : Hp} {σ : St} {ρ : Env} (G : Gd K g F' H' σ ρ) (hH : g.H0 = H) : ∀ {vs : List V} {as : List A} {k i : Nat} {pre : List (Addr × List Addr)} {os : List D}, ArgsOk K F H vs as → pre.length = k → g.pl = pre ++ fpL H vs as → collect k i as ρ = some os →
    IosOk K H F' H' vs as os ∧ (adL (fpO H' vs as os)).Nodup ∧ ∀ a ∈ adL (fpO H' vs as os), ∃ j, i ≤ j ∧ IsPar ρ j ∧ OwnAt H' σ ρ j a
  | _, _, k, i, pre, os, .nil, hp, hg, e => by cases e; exact ⟨.nil, .nil, fun a m => nomatch m⟩
  | _, _, k, i, pre, os, .v (v := v) (x := x) h r, hp, hg, e => by
    rw [fpL_v] at hg
    obtain ⟨h1, h2, h3⟩ := collect_ok G hH r hp hg (i := i + 1) e
    rw [fpO_v]
    exact ⟨.v h1, h2, fun a m => by
      obtain ⟨j, q1, q2, q3⟩ := h3 a m
      exact ⟨j, by omega, q2, q3⟩⟩
  | _, _, k, i, pre, os, .io (l := l) (vs := vs) (as := as) g1 g2 g3 r, hp, hg, e => by
    unfold collect at e
    split at e
    · rename_i k' xs hx
      split at e
      · rename_i hk
        subst hk
        obtain ⟨os', e1, e2⟩ := bnd e
        cases e2
        obtain ⟨l2, ws, hv, ⟨bs, tg⟩, fl, hl, rr⟩ := G.slot _ _ hx
        rw [hg, ← hp, fpL_io] at tg
        simp at tg
        have el := tg.1
        subst el
        obtain ⟨h1, h2, h3⟩ := collect_ok G hH r (k := k' + 1) (pre := pre ++ [(l, [])]) (by simp [hp]) (by rw [hg, fpL_io]; simp) e1
        have oi : OwnAt H' σ ρ i l := .of hv hx
        show IosOk _ _ _ _ _ _ _ ∧ (adL ((l, []) :: fpO H' vs as os')).Nodup ∧ ∀ a ∈ adL ((l, []) :: fpO H' vs as os'), _
        rw [adL_cons]
        refine ⟨.io fl hl rr h1, List.nodup_cons.mpr ⟨fun m => ?_, h2⟩, fun a m => ?_⟩
        · obtain ⟨j, q1, q2, q3⟩ := h3 l m
          have := G.dist i j l oi q3
          omega
        · rcases List.mem_cons.mp m with rfl | m
          · exact ⟨i, Nat.le_refl _, ⟨_, _, .inl hx⟩, oi⟩
          · obtain ⟨j, q1, q2, q3⟩ := h3 a m
            exact ⟨j, by omega, q2, q3⟩
      · cases e
    · cases e
  | _, _, k, i, pre, os, .tr (l := l) (ws := ws0) (xs := xs0) (vs := vs) (as := as) g1 g2 g3 r, hp, hg, e => by
    unfold collect at e
    split at e
    · rename_i k' xs hx
      split at e
      · rename_i hk
        subst hk
        obtain ⟨os', e1, e2⟩ := bnd e
        cases e2
        obtain ⟨l2, ws, hv, ⟨bs, tg⟩, fl, hl, rr, nd, tx⟩ := G.slot _ _ hx
        have tg0 := tg
        rw [hg, ← hp, fpL_tr g2] at tg
        simp at tg
        have el := tg.1
        subst el
        have eb := tg.2
        obtain ⟨h1, h2, h3⟩ := collect_ok G hH r (k := k' + 1) (pre := pre ++ [(l, bx ws0 xs0)]) (by simp [hp]) (by rw [hg, fpL_tr g2]; simp) e1
        have oi : ∀ a ∈ l :: bx ws xs, OwnAt H' σ ρ i a := fun a m => .ofT hv hx hl m
        have ef : fpO H' (.ref l :: vs) (.tr xs0 :: as) (xs :: os') = (l, bx ws xs) :: fpO H' vs as os' := by
          show (l, bxo (H' l) xs) :: _ = _
          rw [hl]; rfl
        rw [ef, adL_cons, ← List.cons_append]
        refine ⟨.tr fl hl rr (fun a m => ?_) h1, List.nodup_append.mpr ⟨nd, h2, fun a ma b mb c => ?_⟩, fun a m => ?_⟩
        · rcases tx a m with q | ⟨l2, bs2, q, m2⟩
          · right; rw [← hH]; exact q
          · left
            rw [tg0] at q
            cases q
            rw [g2]
            show a ∈ bx ws0 xs0
            rw [eb]; exact m2
        · subst c
          obtain ⟨j, q1, q2, q3⟩ := h3 a mb
          have := G.dist i j a (oi a ma) q3
          omega
        · rcases List.mem_append.mp m with m | m
          · exact ⟨i, Nat.le_refl _, ⟨_, _, .inr hx⟩, oi a m⟩
          · obtain ⟨j, q1, q2, q3⟩ := h3 a m
            exact ⟨j, by omega, q2, q3⟩
      · cases e
    · cases e
/-- at a def's entry -/
theorem entry_gd {vs : List V} {as : List A} (N : List Str) (h : ArgsOk K F H vs as) (nd : (adL (fpL H vs as)).Nodup) (s : Same F H) (hN : as.length ≤ N.length) :
    Gd K ⟨H, F, fpL H vs as, fun _ => none⟩ F H (L2.start N vs) (entry 0 as ++ List.replicate (N.length - as.length) none) := by
  have hl := h.length
  have here : ∀ {i : Nat} {s : S}, (entry 0 as ++ List.replicate (N.length - as.length) none)[i]? = some (some s) → (entry 0 as)[i]? = some (some s) ∧ (L2.start N vs)[i]? = (vs.map some)[i]? := fun {i s} e => by
    by_cases hi : i < as.length
    · rw [List.getElem?_append_left (by rw [entry_length]; exact hi)] at e
      refine ⟨e, ?_⟩
      unfold L2.start
      rw [List.getElem?_append_left (by simp [hl, hi])]
    · rw [List.getElem?_append_right (by rw [entry_length]; omega)] at e
      rw [List.getElem?_replicate] at e
      split at e <;> cases e
  have own : ∀ {i : Nat} {l : Addr}, OwnAt H (L2.start N vs) (entry 0 as ++ List.replicate (N.length - as.length) none) i l → OwnAt H (vs.map some) (entry 0 as) i l := fun {i l} h0 => by
    obtain ⟨s, q⟩ := h0.slot
    obtain ⟨h1, h2⟩ := here q
    exact h0.to h2.symm (h1.trans q.symm) fun _ _ _ _ _ => rfl
  refine ⟨by simp [L2.start, entry_length, hl], fun i s e => ?_, fun i j l h1 h2 => entry_dist h nd i j l (own h1) (own h2), s, Same.refl _, fun b o e n => e, fun b e => e, fun b o e => .inl e, fun b o e => by cases e⟩
  obtain ⟨h1, h2⟩ := here e
  rw [h2]
  have := entry_slot (F0 := F) (pin := fun _ => none) (pre := []) h nd rfl i s h1
  simpa using this
end
section
variable {P : Program} {w : World} {K : PySem.W.Frag} {mg : Str → Option Value} {base : Heap}
/-- THE RULE for a def -/
theorem okF {x qual : Str} {st : Stmt} {f : Addr} {fd : FuncData} {N ps : List Str} {k : Nat} {B : SM} (F : Fun K x qual st f fd) (Sc : FnScope N ps (defScope st)) (hps : ps.length ≤ N.length)
    (hbody : ∀ (cdv : Value) (A : Around) (outer : List PySem.Env) (s : Shared) (H : Hp) (E : XK) (g : Gx), Room k (A.deeper (PyProof.Rows.envOfC qual (defScope st) s.heap.objs.size f cdv)) → DSs (cxOf CX0 P w K mg base N qual (defScope st) f cdv A outer s H E).nox g (defBody st) B) :
    FnOk P w K mg base CX0 (k + 1) f fd ps (spF K (mkF ps.length N.length B)) := by
  refine F.ok Sc (fun vs H Q E ⟨F0, as, r, os, h, nd, s, hf, q⟩ => ?_) (fun cdv A outer s H vs Q E hr ⟨F0, as, r, os, h, nd, sm, hf, q⟩ => ⟨_, hbody cdv A outer s H E ⟨H, F0, fpL H vs as, fun _ => none⟩ hr, ?_⟩)
  · unfold mkF at hf
    split at hf
    · rename_i hl
      rw [h.length]; exact hl
    · cases hf
  · unfold mkF at hf
    split at hf
    · rename_i hl
      obtain ⟨p, e1, hf⟩ := bnd hf
      obtain ⟨r', e2, hf⟩ := bnd hf
      obtain ⟨os', e3, hf⟩ := bnd hf
      cases hf
      obtain ⟨o, ρ'⟩ := p
      have G := entry_gd N h nd sm (by rw [hl]; exact hps)
      rw [hl] at G
      refine ⟨F0, _, o, ρ', G, e1, fun σ' F' H' G' s' => ?_⟩
      have post : Post K F0 H F' H' (adL (fpL H vs as)) := ⟨s', G'.sub, G'.keep, G'.new, G'.grow⟩
      obtain ⟨ios, ndo, par⟩ := collect_ok G' rfl (pre := []) h rfl rfl e3
      cases o with
      | nx => cases e2; exact q _ F' H' post ios ndo .non
      | rt d => cases e2; exact fun v r => q v F' H' post ios ndo r
      | rn xs =>
        cases e2
        exact fun l ws h1 h2 h3 h4 h5 => q _ F' H' post ios ndo ⟨l, ws, rfl, h3, h2, fun m => by
          obtain ⟨j, _, q2, q3⟩ := par l m
          exact h4 j q2 q3, h1, h5⟩
      | rr xs =>
        cases e2
        exact fun l ws h1 h2 h3 h4 => q _ F' H' post ios ndo ⟨l, ws, rfl, h1, h2, h3, fun a m => ⟨(h4 a m).2.1, (h4 a m).1, fun m2 => by
          obtain ⟨j, _, q2, q3⟩ := par a m2
          exact (h4 a m).2.2 j q2 q3⟩⟩
      | br => cases e2
      | ct => cases e2
    · cases hf
end

/-! ### calls -/
def ios : List Opd → List Nat
  | [] => []
  | .io i :: r => i :: ios r
  | _ :: r => ios r
def isRef : Opd → Bool
  | .ref _ => true
  | _ => false
def hasRef (os : List Opd) : Bool := os.any isRef
def okOs : List Opd → List Nat → Bool
  | [], _ => true
  | .ref i :: r, is => !is.contains i && okOs r is
  | _ :: r, is => okOs r is
def argsOf (ρ : Env) : List Opd → Option (List A)
  | [] => some []
  | .val d :: r => (argsOf ρ r).bind fun as => some (.v d :: as)
  | .ref i :: r => match ρ[i]? with
    | some (some (.own _ xs)) => (argsOf ρ r).bind fun as => some (.v xs :: as)
    | some (some (.tre _ xs)) => (argsOf ρ r).bind fun as => some (.v (ub xs) :: as)
    | _ => none
  | .io i :: r => match ρ[i]? with
    | some (some (.own _ xs)) => (argsOf ρ r).bind fun as => some (.io xs :: as)
    | some (some (.tre _ xs)) => (argsOf ρ r).bind fun as => some (.tr xs :: as)
    | _ => none
def putOuts : List Opd → List D → Env → Option Env
  | [], [], ρ => some ρ
  | [], _ :: _, _ => none
  | .io i :: r, xs :: outs, ρ => match ρ[i]? with
    | some (some (.own t _)) => putOuts r outs (ρ.set i (some (.own t xs)))
    | some (some (.tre t _)) => putOuts r outs (ρ.set i (some (.tre t xs)))
    | _ => none
  | .io _ :: _, [], _ => none
  | .val _ :: r, outs, ρ => putOuts r outs ρ
  | .ref _ :: r, outs, ρ => putOuts r outs ρ
def resD : Res → D
  | .d x => x
  | .n x => x
  | .r x => x
def resL : Res → Option D
  | .n xs => some xs
  | _ => none
def resT : Res → Option D
  | .r xs => some xs
  | _ => none
/-- a call: the operands, the mirror, what comes back -/
def callM (fm : FM) (dds : List D) (fa : AM) : Env → Option (Res × Bool × Env) := fun ρ => (fa ρ).bind fun p => if (ios p.1).Nodup ∧ okOs p.1 (ios p.1) = true then (argsOf p.2 p.1).bind fun as => (fm (as ++ dds.map A.v)).bind fun r =>
  (putOuts p.1 r.2 p.2).bind fun ρ2 => if hasRef p.1 = false ∨ r.2.all lfo = true then some (r.1, !hasRef p.1, ρ2) else none
  else none
def isDat : Res → Bool
  | .r _ => false
  | _ => true
/-- a result as data -/
def finR (r : Res × Bool × Env) : Option (D × Env) := match r.1 with
  | .d x => fin r.2.1 x r.2.2
  | .n x => if (r.2.1 || lfo x) = true then some (x, r.2.2) else none
  | .r _ => none
theorem finR_d {x : D} {b : Bool} {ρ : Env} : finR (.d x, b, ρ) = fin b x ρ := rfl
def eCall (fm : FM) (dds : List D) (fa : AM) : EM := fun ρ => (callM fm dds fa ρ).bind finR
def nCall (fm : FM) (dds : List D) (fa : AM) : NM := fun ρ => (callM fm dds fa ρ).bind fun r => (resL r.1).bind fun xs => if (r.2.1 || lfo xs) = true then some (xs, r.2.2) else none

open Classical in
noncomputable def lentP (P : Nat → Prop) (σ : St) (ρ : Env) (F H : Hp) : Hp := fun b => if ∃ i, P i ∧ OwnAt H σ ρ i b then H b else F b
open Classical in
noncomputable def backP (P : Nat → Prop) (H : Hp) (σ : St) (ρ : Env) (F : Hp) : Hp := fun b => if ∃ i, P i ∧ OwnAt H σ ρ i b then none else F b
section
variable {K : PySem.W.Frag} {g : Gx} {F H F' H' : Hp} {σ : St} {ρ : Env} {P : Nat → Prop}
theorem lentP_at {i : Nat} {b : Addr} (p : P i) (h : OwnAt H σ ρ i b) : lentP P σ ρ F H b = H b := by unfold lentP; rw [if_pos ⟨i, p, h⟩]
theorem lentP_no {b : Addr} (h : ¬ ∃ i, P i ∧ OwnAt H σ ρ i b) : lentP P σ ρ F H b = F b := by unfold lentP; rw [if_neg h]
theorem backP_no {b : Addr} (h : ¬ ∃ i, P i ∧ OwnAt H σ ρ i b) : backP P H σ ρ F b = F b := by unfold backP; rw [if_neg h]
theorem backP_at {b : Addr} (h : ∃ i, P i ∧ OwnAt H σ ρ i b) : backP P H σ ρ F b = none := by unfold backP; rw [if_pos h]
theorem Gd.lentPF (G : Gd K g F H σ ρ) : Same F (lentP P σ ρ F H) := fun b o e => by
  by_cases h : ∃ i, P i ∧ OwnAt H σ ρ i b
  · obtain ⟨i, _, h⟩ := h
    rw [(G.own h).1] at e; cases e
  · rw [lentP_no h]; exact e
theorem Gd.lentPH (G : Gd K g F H σ ρ) : Same (lentP P σ ρ F H) H := fun b o e => by
  by_cases h : ∃ i, P i ∧ OwnAt H σ ρ i b
  · obtain ⟨i, p, h⟩ := h
    rw [lentP_at p h] at e; exact e
  · rw [lentP_no h] at e; exact G.sub _ _ e

/-- what an in-out operand is: its slot, its thing -/
theorem io_at (G : Gd K g F H σ ρ) {i : Nat} {v : V} {a : A} (h : σ[i]? = some (some v)) {r : List Opd} {as : List A} (e : argsOf ρ (.io i :: r) = some (a :: as)) : argsOf ρ r = some as ∧ ∃ l, v = .ref l ∧ (∀ b, OwnAt H σ ρ i b ↔ b ∈ adL (fpA H v a)) ∧ (adL (fpA H v a)).Nodup ∧
    ((∃ t xs ws, a = .io xs ∧ ρ[i]? = some (some (.own t xs)) ∧ tagOk g t l ∧ F l = none ∧ H l = some ws ∧ ORep K F ws xs) ∨ ∃ t xs ws, a = .tr xs ∧ ρ[i]? = some (some (.tre t xs)) ∧ tagOk g t l ∧ F l = none ∧ H l = some ws ∧ TRep K F H ws xs ∧ (∀ b ∈ bx ws xs, tagX g t b)) := by
  unfold argsOf at e
  split at e
  · rename_i t xs hx
    obtain ⟨as', e1, e2⟩ := bnd e
    cases e2
    obtain ⟨l, ws, ev, tg, fl, hl, rr⟩ := G.slot i _ hx
    rw [h] at ev; cases ev
    refine ⟨e1, l, rfl, fun b => ⟨fun ho => ?_, fun m => ?_⟩, by show (adL [(l, [])]).Nodup; simp [adL], .inl ⟨t, xs, ws, rfl, hx, tg, fl, hl, rr⟩⟩
    · show b ∈ adL [(l, [])]
      obtain ⟨k, e1, ⟨_, ea⟩ | ⟨t', ys, o, r, _, _⟩⟩ := ho
      · rw [h] at e1; cases e1
        simp [adL, ea]
      · rw [hx] at r; cases r
    · have : b = l := by
        have m' : b ∈ adL [(l, [])] := m
        simpa [adL] using m'
      subst this
      exact .of h hx
  · rename_i t xs hx
    obtain ⟨as', e1, e2⟩ := bnd e
    cases e2
    obtain ⟨l, ws, ev, tg, fl, hl, rr, nd, tx⟩ := G.slot i _ hx
    rw [h] at ev; cases ev
    have ef : adL (fpA H (.ref l) (.tr xs)) = l :: bx ws xs := by
      show adL [(l, bxo (H l) xs)] = _
      rw [hl]; simp [adL, bxo]
    refine ⟨e1, l, rfl, fun b => ?_, by rw [ef]; exact nd, .inr ⟨t, xs, ws, rfl, hx, tg, fl, hl, rr, tx⟩⟩
    rw [ef]
    refine ⟨fun ho => ?_, fun m => .ofT h hx hl m⟩
    obtain ⟨k, e1, ⟨⟨t', ys, r⟩, ea⟩ | ⟨t', ys, o, r, ho, m⟩⟩ := ho
    · rw [hx] at r; cases r
    · rw [h] at e1; cases e1
      rw [hx] at r; cases r
      rw [hl] at ho; cases ho
      exact m
  · cases e
theorem argsOf_v {ρ : Env} {o : Opd} {r : List Opd} {as : List A} (ho : ∀ i, o ≠ .io i) (e : argsOf ρ (o :: r) = some as) : ∃ x as', as = .v x :: as' ∧ argsOf ρ r = some as' := by
  cases o with
  | val d =>
    obtain ⟨as', e1, e2⟩ := bnd e
    cases e2
    exact ⟨_, _, rfl, e1⟩
  | ref i =>
    unfold argsOf at e
    split at e
    · obtain ⟨as', e1, e2⟩ := bnd e
      cases e2
      exact ⟨_, _, rfl, e1⟩
    · obtain ⟨as', e1, e2⟩ := bnd e
      cases e2
      exact ⟨_, _, rfl, e1⟩
    · cases e
  | io i => exact absurd rfl (ho i)
theorem argsOf_io {ρ : Env} {i : Nat} {r : List Opd} {as : List A} (e : argsOf ρ (.io i :: r) = some as) : ∃ a as', as = a :: as' := by
  unfold argsOf at e
  split at e
  · obtain ⟨as', e1, e2⟩ := bnd e
    cases e2
    exact ⟨_, _, rfl⟩
  · obtain ⟨as', e1, e2⟩ := bnd e
    cases e2
    exact ⟨_, _, rfl⟩
  · cases e
theorem ios_io (i : Nat) (r : List Opd) : ios (.io i :: r) = i :: ios r := rfl
theorem ios_no {o : Opd} (h : ∀ i, o ≠ .io i) (r : List Opd) : ios (o :: r) = ios r := by
  cases o with
  | io i => exact absurd rfl (h i)
  | _ => rfl
theorem adL_app (p q : List (Addr × List Addr)) : adL (p ++ q) = adL p ++ adL q := by simp [adL]
theorem isIo (o : Opd) : (∃ i, o = .io i) ∨ ∀ i, o ≠ .io i := by
  cases o with
  | io i => exact .inl ⟨i, rfl⟩
  | val d => exact .inr fun i h => nomatch h
  | ref j => exact .inr fun i h => nomatch h
theorem ios_args : ∀ {os : List Opd} {vs : List V} {as : List A}, OpdsOk K F σ vs os → argsOf ρ os = some as → Gd K g F H σ ρ → ∀ l, l ∈ adL (fpL H vs as) ↔ ∃ i ∈ ios os, OwnAt H σ ρ i l
  | _, _, _, .nil, e, G, l => by
    cases e
    simp [fpL, adL, ios]
  | _, _, _, .cons (v := v) (o := o) (os := os) h r, e, G, l => by
    rcases isIo o with ⟨i, rfl⟩ | ho
    · obtain ⟨a, as', rfl⟩ := argsOf_io e
      obtain ⟨e1, l', _, hb, _, _⟩ := io_at G h e
      show l ∈ adL (fpA H v a ++ fpL H _ as') ↔ _
      rw [adL_app, List.mem_append, ← hb, ios_args r e1 G l, ios_io]
      simp
    · obtain ⟨x, as', rfl, e1⟩ := argsOf_v ho e
      rw [fpL_v, ios_no ho]
      exact ios_args r e1 G l
theorem ios_nodup : ∀ {os : List Opd} {vs : List V} {as : List A}, OpdsOk K F σ vs os → argsOf ρ os = some as → Gd K g F H σ ρ → (ios os).Nodup → (adL (fpL H vs as)).Nodup
  | _, _, _, .nil, e, G, nd => by
    cases e
    simp [fpL, adL]
  | _, _, _, .cons (v := v) (o := o) (os := os) h r, e, G, nd => by
    rcases isIo o with ⟨i, rfl⟩ | ho
    · obtain ⟨a, as', rfl⟩ := argsOf_io e
      obtain ⟨e1, l', _, hb, hn, _⟩ := io_at G h e
      rw [ios_io, List.nodup_cons] at nd
      show (adL (fpA H v a ++ fpL H _ as')).Nodup
      rw [adL_app]
      refine List.nodup_append.mpr ⟨hn, ios_nodup r e1 G nd.2, fun b hb1 c hc e2 => ?_⟩
      subst e2
      obtain ⟨j, hj, oj⟩ := (ios_args r e1 G b).mp hc
      rw [G.dist i j b ((hb b).mpr hb1) oj] at nd
      exact nd.1 hj
    · obtain ⟨x, as', rfl, e1⟩ := argsOf_v ho e
      rw [fpL_v]
      exact ios_nodup r e1 G (by rw [ios_no ho] at nd; exact nd)
/-- the arguments, over the lent heap -/
theorem args_ok (G : Gd K g F H σ ρ) {is : List Nat} {c : Bool} : ∀ {os : List Opd} {vs : List V} {as : List A}, OpdsOk K F σ vs os → argsOf ρ os = some as → okOs os is = true → (∀ i ∈ ios os, i ∈ is) → (hasRef os = true → c = true) →
    ArgsOk K (lentP (fun i => c = true ∧ i ∉ is) σ ρ F H) H vs as
  | _, _, _, .nil, e, ok, sub, hc => by cases e; exact .nil
  | _, _, _, .cons (v := v) (o := .val d) h r, e, ok, sub, hc => by
    unfold argsOf at e
    obtain ⟨as, e1, e2⟩ := bnd e
    cases e2
    exact .v (Rep.mono G.lentPF h) (args_ok G r e1 ok (by simpa [ios] using sub) (fun q => hc (by simpa [hasRef, isRef] using q)))
  | _, _, _, .cons (v := v) (o := .ref i) h r, e, ok, sub, hc => by
    have h' : σ[i]? = some (some v) := h
    simp only [okOs, Bool.and_eq_true, Bool.not_eq_true'] at ok
    have ni : i ∉ is := by simpa using ok.1
    have pc : c = true := hc (by simp [hasRef, isRef])
    unfold argsOf at e
    split at e
    · rename_i t xs hx
      obtain ⟨as, e1, e2⟩ := bnd e
      cases e2
      obtain ⟨l', ws, ev, tg, fl, hl, rr⟩ := G.slot i _ hx
      rw [h'] at ev
      cases ev
      exact .v ((rr.mono G.lentPF).rep (by rw [lentP_at (P := fun i => c = true ∧ i ∉ is) ⟨pc, ni⟩ (.of h' hx)]; exact hl)) (args_ok G r e1 ok.2 (by simpa [ios] using sub) (fun _ => pc))
    · rename_i t xs hx
      obtain ⟨as, e1, e2⟩ := bnd e
      cases e2
      obtain ⟨l', ws, ev, tg, fl, hl, rr, nd, tx⟩ := G.slot i _ hx
      rw [h'] at ev
      cases ev
      exact .v ((rr.orep G.lentPF fun a m => lentP_at (P := fun i => c = true ∧ i ∉ is) ⟨pc, ni⟩ (.ofT h' hx hl (List.mem_cons_of_mem _ m))).rep (by rw [lentP_at (P := fun i => c = true ∧ i ∉ is) ⟨pc, ni⟩ (.ofT h' hx hl List.mem_cons_self)]; exact hl)) (args_ok G r e1 ok.2 (by simpa [ios] using sub) (fun _ => pc))
    · cases e
  | _, _, _, .cons (v := v) (o := .io i) h r, e, ok, sub, hc => by
    have h' : σ[i]? = some (some v) := h
    have mi : i ∈ is := sub i (by simp [ios])
    have none_ : ∀ {a : Addr}, OwnAt H σ ρ i a → lentP (fun i => c = true ∧ i ∉ is) σ ρ F H a = none := fun {a} oi => by
      rw [lentP_no]
      · exact (G.own oi).1
      · rintro ⟨j, ⟨_, nj⟩, oj⟩
        rw [G.dist i j a oi oj] at mi
        exact nj mi
    obtain ⟨a, as', rfl⟩ := argsOf_io e
    obtain ⟨e1, l, rfl, hb, hn, k⟩ := io_at G h' e
    have rest := args_ok G r e1 ok (fun j hj => sub j (by simp [ios, hj])) (fun q => hc (by simpa [hasRef, isRef] using q))
    rcases k with ⟨t, xs, ws, rfl, hx, tg, fl, hl, rr⟩ | ⟨t, xs, ws, rfl, hx, tg, fl, hl, rr, tx⟩
    · exact .io (none_ (.of h' hx)) hl (rr.mono G.lentPF) rest
    · exact .tr (none_ (.ofT h' hx hl List.mem_cons_self)) hl (rr.move G.lentPF fun a m => ⟨none_ (.ofT h' hx hl (List.mem_cons_of_mem _ m)), rfl⟩) rest
/-- what a slot holds behind the outs are put -/
def PutAt (K : PySem.W.Frag) (g : Gx) (H F' H' : Hp) (σ : St) (ρ0 ρ2 : Env) (outs : List D) (j : Nat) : Prop :=
  (∃ t xs xs0 l ws, ρ0[j]? = some (some (.own t xs0)) ∧ ρ2[j]? = some (some (.own t xs)) ∧ σ[j]? = some (some (.ref l)) ∧ F' l = none ∧ H' l = some ws ∧ ORep K F' ws xs ∧ xs ∈ outs) ∨
  ∃ t xs xs0 l ws, ρ0[j]? = some (some (.tre t xs0)) ∧ ρ2[j]? = some (some (.tre t xs)) ∧ σ[j]? = some (some (.ref l)) ∧ F' l = none ∧ H' l = some ws ∧ TRep K F' H' ws xs ∧ (l :: bx ws xs).Nodup ∧ (∀ a ∈ bx ws xs, a ∈ bxo (H l) xs0 ∨ H a = none) ∧ xs ∈ outs
theorem put_get : ∀ {os : List Opd} {vs : List V} {as : List A} {outs : List D} {ρ0 ρ1 ρ2 : Env}, OpdsOk K F σ vs os → argsOf ρ0 os = some as → Gd K g F H σ ρ0 → (ios os).Nodup → IosOk K H F' H' vs as outs → (adL (fpO H' vs as outs)).Nodup → ρ1.length = ρ0.length → (∀ i ∈ ios os, ρ1[i]? = ρ0[i]?) → putOuts os outs ρ1 = some ρ2 →
    ρ2.length = ρ1.length ∧ (∀ j, j ∉ ios os → ρ2[j]? = ρ1[j]?) ∧ (∀ j ∈ ios os, PutAt K g H F' H' σ ρ0 ρ2 outs j) ∧ (∀ j ∈ ios os, ∀ a, OwnAt H' σ ρ2 j a → a ∈ adL (fpO H' vs as outs)) ∧ ∀ i ∈ ios os, ∀ j ∈ ios os, ∀ a, OwnAt H' σ ρ2 i a → OwnAt H' σ ρ2 j a → i = j
  | _, _, _, outs, ρ0, ρ1, ρ2, .nil, e, G, nd, io, ndo, hl, same, hp => by
    cases e
    cases io
    cases hp
    exact ⟨rfl, fun _ _ => rfl, fun j hj => by simp [ios] at hj, fun j hj => by simp [ios] at hj, fun j hj => by simp [ios] at hj⟩
  | _, _, _, outs, ρ0, ρ1, ρ2, .cons (v := v) (o := o) (vs := vs) (os := os) h r, e, G, nd, io, ndo, hl, same, hp => by
    rcases isIo o with ⟨i, rfl⟩ | ho
    · have h' : σ[i]? = some (some v) := h
      obtain ⟨a, as', rfl⟩ := argsOf_io e
      obtain ⟨e1, l, rfl, hb, hn, k⟩ := io_at G h' e
      rw [ios_io] at nd same ⊢
      rw [List.nodup_cons] at nd
      -- what both kinds share
      have step : ∀ {x : D} {outs' : List D} {s : S} {bs : List Addr}, outs = x :: outs' → putOuts os outs' (ρ1.set i (some s)) = some ρ2 → IosOk K H F' H' vs as' outs' → adL (fpO H' (.ref l :: vs) (a :: as') (x :: outs')) = (l :: bs) ++ adL (fpO H' vs as' outs') →
          (∀ ρ3 : Env, ρ3[i]? = some (some s) → (∀ a, OwnAt H' σ ρ3 i a → a ∈ l :: bs)) → (ρ2[i]? = some (some s) → PutAt K g H F' H' σ ρ0 ρ2 (x :: outs') i) →
          ρ2.length = ρ1.length ∧ (∀ j, j ∉ i :: ios os → ρ2[j]? = ρ1[j]?) ∧ (∀ j ∈ i :: ios os, PutAt K g H F' H' σ ρ0 ρ2 outs j) ∧ (∀ j ∈ i :: ios os, ∀ b, OwnAt H' σ ρ2 j b → b ∈ adL (fpO H' (.ref l :: vs) (a :: as') outs)) ∧ ∀ p ∈ i :: ios os, ∀ q ∈ i :: ios os, ∀ b, OwnAt H' σ ρ2 p b → OwnAt H' σ ρ2 q b → p = q := by
        intro x outs' s bs eo hp' io' ef own1 put1
        subst eo
        rw [ef] at ndo ⊢
        have ndo' := List.nodup_append.mp ndo
        have il : i < ρ1.length := by
          rw [hl, ← G.len]; exact (List.getElem?_eq_some_iff.mp h').1
        obtain ⟨q1, q2, q3, q4, q5⟩ := put_get r e1 G nd.2 io' ndo'.2.1 (ρ1 := ρ1.set i (some s)) (by simp [hl]) (fun j hj => by
          rw [List.getElem?_set_ne (by intro z; subst z; exact nd.1 hj)]
          exact same j (List.mem_cons_of_mem _ hj)) hp'
        have hi2 : ρ2[i]? = some (some s) := by rw [q2 i nd.1, List.getElem?_set_self il]
        have o1 := own1 ρ2 hi2
        refine ⟨by rw [q1]; simp, fun j hj => ?_, fun j hj => ?_, fun j hj b hob => ?_, fun p hp q hq b hp1 hq1 => ?_⟩
        · simp only [List.mem_cons, not_or] at hj
          rw [q2 j hj.2, List.getElem?_set_ne (Ne.symm hj.1)]
        · rcases List.mem_cons.mp hj with rfl | hj
          · exact put1 hi2
          · rcases q3 j hj with ⟨t, xs, xs0, l2, ws, b1, b2, b3, b4, b5, b6, b7⟩ | ⟨t, xs, xs0, l2, ws, b1, b2, b3, b4, b5, b6, b7, b8, b9⟩
            · exact .inl ⟨t, xs, xs0, l2, ws, b1, b2, b3, b4, b5, b6, List.mem_cons_of_mem _ b7⟩
            · exact .inr ⟨t, xs, xs0, l2, ws, b1, b2, b3, b4, b5, b6, b7, b8, List.mem_cons_of_mem _ b9⟩
        · rcases List.mem_cons.mp hj with rfl | hj
          · exact List.mem_append_left _ (o1 b hob)
          · exact List.mem_append_right _ (q4 j hj b hob)
        · rcases List.mem_cons.mp hp with e | hp
          · rcases List.mem_cons.mp hq with e' | hq
            · rw [e, e']
            · rw [e] at hp1
              exact absurd rfl (ndo'.2.2 b (o1 b hp1) b (q4 q hq b hq1))
          · rcases List.mem_cons.mp hq with e' | hq
            · rw [e'] at hq1
              exact absurd rfl (ndo'.2.2 b (o1 b hq1) b (q4 p hp b hp1))
            · exact q5 p hp q hq b hp1 hq1
      rcases k with ⟨t, xs0, ws0, rfl, hx, tg, fl, hl0, rr⟩ | ⟨t, xs0, ws0, rfl, hx, tg, fl, hl0, rr, tx⟩
      · cases io with
        | io a1 a2 a3 a4 =>
          rename_i ws xs outs'
          have hi1 : ρ1[i]? = some (some (.own t xs0)) := by rw [same i List.mem_cons_self]; exact hx
          unfold putOuts at hp
          rw [hi1] at hp
          dsimp only at hp
          refine step (x := xs) (outs' := outs') (s := .own t xs) (bs := []) rfl hp a4 ?_ (fun ρ3 h3 b hb => ?_) fun h2 => .inl ⟨t, xs, xs0, l, ws, hx, h2, h', a1, a2, a3, List.mem_cons_self⟩
          · show adL ((l, []) :: _) = _
            rw [adL_cons]; rfl
          · obtain ⟨k, e1, ⟨_, ea⟩ | ⟨t', ys, o, r, _, _⟩⟩ := hb
            · rw [h'] at e1; cases e1
              simp [ea]
            · rw [h3] at r; cases r
      · cases io with
        | tr a1 a2 a3 a5 a4 =>
          rename_i ws xs outs'
          have hi1 : ρ1[i]? = some (some (.tre t xs0)) := by rw [same i List.mem_cons_self]; exact hx
          unfold putOuts at hp
          rw [hi1] at hp
          dsimp only at hp
          have ef : adL (fpO H' (.ref l :: vs) (.tr xs0 :: as') (xs :: outs')) = (l :: bx ws xs) ++ adL (fpO H' vs as' outs') := by
            show adL ((l, bxo (H' l) xs) :: _) = _
            rw [adL_cons, a2]; rfl
          refine step (x := xs) (outs' := outs') (s := .tre t xs) (bs := bx ws xs) rfl hp a4 ef (fun ρ3 h3 b hb => ?_) fun h2 => .inr ⟨t, xs, xs0, l, ws, hx, h2, h', a1, a2, a3, ?_, a5, List.mem_cons_self⟩
          · obtain ⟨k, e1, ⟨⟨t', ys, r⟩, ea⟩ | ⟨t', ys, o, r, ho, m⟩⟩ := hb
            · rw [h3] at r; cases r
            · rw [h'] at e1; cases e1
              rw [h3] at r; cases r
              rw [a2] at ho; cases ho
              exact m
          · rw [ef] at ndo
            exact (List.nodup_append.mp ndo).1
    · obtain ⟨x, as', rfl, e1⟩ := argsOf_v ho e
      cases io with
      | v io =>
        rw [fpO_v] at ndo ⊢
        rw [ios_no ho] at nd same ⊢
        refine put_get r e1 G nd io ndo hl same ?_
        cases o with
        | io i => exact absurd rfl (ho i)
        | val d => cases outs <;> exact hp
        | ref j => cases outs <;> exact hp
theorem lff_all : ∀ {gs : List (Str × D)}, lff gs = true → lfs (gs.map (·.2)) = true
  | [], _ => rfl
  | (n, d) :: r, h => by
    have h := Bool.and_eq_true_iff.mp (show (lf d && lff r) = true from h)
    show (lf d && lfs _) = true
    rw [h.1, lff_all h.2]; rfl
theorem BReps.cut {F1 F2 H1 H2 : Hp} (k : ∀ p o, F1 p = some o → isLst o = false → F2 p = some o) : ∀ {vs : List V} {ds : List D}, lfs ds = true → BReps K F1 H1 vs ds → BReps K F2 H2 vs ds
  | _, _, _, .nil => .nil
  | _, _, e, .cons h r => by
    have e := Bool.and_eq_true_iff.mp (show (lf _ && lfs _) = true from e)
    refine .cons ?_ (r.cut k e.2)
    cases h with
    | d h => exact .d (h.cut k e.1)
    | box _ _ _ => cases e.1
theorem TRep.cut {F1 F2 H1 H2 : Hp} (k : ∀ p o, F1 p = some o → L3.isLst o = false → F2 p = some o) {o : HO} {d : D} (e : lfo d = true) (h : TRep K F1 H1 o d) : TRep K F2 H2 o d := by
  cases h with
  | lst r => exact .lst (r.cut k e)
  | ins e' r => exact .ins e' (r.cut k (lff_all e))
/-- behind a call -/
theorem call_end (G : Gd K g F H σ ρ) {os : List Opd} {vs : List V} {as : List A} {outs : List D} {ρ2 : Env} (r : OpdsOk K F σ vs os) (ea : argsOf ρ os = some as) (nd : (ios os).Nodup) {c : Bool}
    (post : Post K (lentP (fun i => c = true ∧ i ∉ ios os) σ ρ F H) H F' H' (adL (fpL H vs as))) (io : IosOk K H F' H' vs as outs) (ndo : (adL (fpO H' vs as outs)).Nodup) (hp : putOuts os outs ρ = some ρ2) (hl : c = true → ∀ xs ∈ outs, lfo xs = true) :
    Gd K g (backP (fun i => c = true ∧ i ∉ ios os) H σ ρ F') H' σ ρ2 ∧ Same F (backP (fun i => c = true ∧ i ∉ ios os) H σ ρ F') ∧ (∀ {w : V} {d : D}, (c = true → lf d = true) → Rep K F' w d → Rep K (backP (fun i => c = true ∧ i ∉ ios os) H σ ρ F') w d) ∧
      (∀ {w : HO} {d : D}, (c = true → lfo d = true) → ORep K F' w d → ORep K (backP (fun i => c = true ∧ i ∉ ios os) H σ ρ F') w d) ∧ (∀ {w : HO} {d : D}, (c = true → lfo d = true) → TRep K F' H' w d → TRep K (backP (fun i => c = true ∧ i ∉ ios os) H σ ρ F') H' w d) ∧
      (∀ b, H b = none → F' b = none → b ∉ adL (fpO H' vs as outs) → backP (fun i => c = true ∧ i ∉ ios os) H σ ρ F' b = none ∧ g.H0 b = none ∧ g.pin b = none ∧ ∀ i, ¬ OwnAt H' σ ρ2 i b) := by
  obtain ⟨p1, p2, p3, p4, p5⟩ := put_get r ea G nd io ndo rfl (fun _ _ => rfl) hp
  have mem := ios_args r ea G
  have sF : Same F (backP (fun i => c = true ∧ i ∉ ios os) H σ ρ F') := fun b o e => by
    by_cases h : ∃ i, (c = true ∧ i ∉ ios os) ∧ OwnAt H σ ρ i b
    · obtain ⟨i, _, h⟩ := h
      rw [(G.own h).1] at e; cases e
    · rw [backP_no (P := fun i => c = true ∧ i ∉ ios os) h]
      exact post.ff _ _ (by rw [lentP_no (P := fun i => c = true ∧ i ∉ ios os) h]; exact e)
  -- what belongs to a slot that is not handed on stays
  have stay : ∀ {i : Nat} {p : Addr} {o : HO}, OwnAt H σ ρ i p → i ∉ ios os → H p = some o → H' p = some o := fun {i p o} h hn hl => post.keep _ _ hl fun hm => by
    obtain ⟨j, hj, oj⟩ := (mem p).mp hm
    rw [G.dist i j p h oj] at hn
    exact hn hj
  have cut : ∀ p o, F' p = some o → (c = true → isLst o = false) → backP (fun i => c = true ∧ i ∉ ios os) H σ ρ F' p = some o := fun p o e q => by
    by_cases h : ∃ i, (c = true ∧ i ∉ ios os) ∧ OwnAt H σ ρ i p
    · obtain ⟨i, ⟨hc, hn⟩, h⟩ := h
      obtain ⟨_, ws, hl, hw, _⟩ := G.own h
      have z := post.sub _ _ e
      rw [stay h hn hl] at z
      cases z
      have := q hc
      rw [hw] at this
      cases this
    · rw [backP_no (P := fun i => c = true ∧ i ∉ ios os) h]; exact e
  have rep : ∀ {w : V} {d : D}, (c = true → lf d = true) → Rep K F' w d → Rep K (backP (fun i => c = true ∧ i ∉ ios os) H σ ρ F') w d := fun {w d} hd r => by
    cases c with
    | false => exact Rep.mono (fun b o e => cut b o e (by simp)) r
    | true => exact Rep.cut (fun p o e q => cut p o e fun _ => q) (hd rfl) r
  have reps : ∀ {w : HO} {d : D}, (c = true → lfo d = true) → ORep K F' w d → ORep K (backP (fun i => c = true ∧ i ∉ ios os) H σ ρ F') w d := fun {w d} hd r => by
    cases c with
    | false => exact ORep.mono (fun b o e => cut b o e (by simp)) r
    | true => exact ORep.cut (fun p o e q => cut p o e fun _ => q) (hd rfl) r
  have noneB : ∀ {b : Addr}, F' b = none → backP (fun i => c = true ∧ i ∉ ios os) H σ ρ F' b = none := fun {b} e => by
    by_cases h : ∃ i, (c = true ∧ i ∉ ios os) ∧ OwnAt H σ ρ i b
    · exact backP_at (P := fun i => c = true ∧ i ∉ ios os) h
    · rw [backP_no (P := fun i => c = true ∧ i ∉ ios os) h]; exact e
  have trep : ∀ {w : HO} {d : D}, (c = true → lfo d = true) → TRep K F' H' w d → TRep K (backP (fun i => c = true ∧ i ∉ ios os) H σ ρ F') H' w d := fun {w d} hd r => by
    cases c with
    | false => exact r.move (fun b o e => cut b o e (by simp)) fun a m => ⟨noneB (r.at_ a m).1, rfl⟩
    | true => exact TRep.cut (fun p o e q => cut p o e fun _ => q) (hd rfl) r
  -- an own thing that is not handed on is frozen nowhere
  have fnone : ∀ {j : Nat} {l : Addr}, OwnAt H σ ρ j l → j ∉ ios os → backP (fun i => c = true ∧ i ∉ ios os) H σ ρ F' l = none := fun {j l} oj hj => by
    by_cases h : ∃ i, (c = true ∧ i ∉ ios os) ∧ OwnAt H σ ρ i l
    · exact backP_at (P := fun i => c = true ∧ i ∉ ios os) h
    · rw [backP_no (P := fun i => c = true ∧ i ∉ ios os) h]
      cases q : F' l with
      | none => rfl
      | some u =>
        obtain ⟨fl, ws, hl, _⟩ := G.own oj
        rcases post.new l u q with z | z
        · rw [lentP_no (P := fun i => c = true ∧ i ∉ ios os) h, fl] at z; cases z
        · rw [hl] at z; cases z
  -- slots that are not handed on
  have ownN : ∀ {j : Nat} {b : Addr}, j ∉ ios os → OwnAt H' σ ρ2 j b → OwnAt H σ ρ j b := fun {j b} hj h => h.to rfl (p2 j hj).symm fun l t xs e q => by
    rw [p2 j hj] at q
    obtain ⟨o, ho⟩ := G.root e q
    rw [ho, stay (.ofT e q ho List.mem_cons_self) hj ho]
  -- what is owned behind the call was owned, or is new
  have ownY : ∀ {j : Nat} {b : Addr}, j ∈ ios os → OwnAt H' σ ρ2 j b → OwnAt H σ ρ j b ∨ H b = none := fun {j b} hj h => by
    obtain ⟨l, e1, ⟨⟨t', ys, q⟩, ea⟩ | ⟨t', ys, o, q, ho, m⟩⟩ := h
    · rcases p3 j hj with ⟨t, xs, xs0, l2, ws, b1, b2, b3, _⟩ | ⟨t, xs, xs0, l2, ws, b1, b2, b3, _⟩
      · rw [ea]; exact .inl (.of e1 b1)
      · rw [q] at b2; cases b2
    · rcases p3 j hj with ⟨t, xs, xs0, l2, ws, b1, b2, b3, _⟩ | ⟨t, xs, xs0, l2, ws, b1, b2, b3, b4, b5, b6, b7, b8, b9⟩
      · rw [q] at b2; cases b2
      · rw [e1] at b3; cases b3
        rw [q] at b2; cases b2
        rw [ho] at b5; cases b5
        obtain ⟨o0, ho0⟩ := G.root e1 b1
        rcases List.mem_cons.mp m with rfl | m
        · exact .inl (.ofT e1 b1 ho0 List.mem_cons_self)
        · rcases b8 b m with z | z
          · rw [ho0] at z
            exact .inl (.ofT e1 b1 ho0 (List.mem_cons_of_mem _ z))
          · exact .inr z
  have dist : ∀ (i j : Nat) (a : Addr), OwnAt H' σ ρ2 i a → OwnAt H' σ ρ2 j a → i = j := fun i j a h1 h2 => by
    by_cases hi : i ∈ ios os
    · by_cases hj : j ∈ ios os
      · exact p5 i hi j hj a h1 h2
      · rcases ownY hi h1 with h | h
        · exact G.dist i j a h (ownN hj h2)
        · obtain ⟨_, u, hu, _⟩ := G.own (ownN hj h2)
          rw [h] at hu; cases hu
    · by_cases hj : j ∈ ios os
      · rcases ownY hj h2 with h | h
        · exact G.dist i j a (ownN hi h1) h
        · obtain ⟨_, u, hu, _⟩ := G.own (ownN hi h1)
          rw [h] at hu; cases hu
      · exact G.dist i j a (ownN hi h1) (ownN hj h2)
  refine ⟨⟨?_, fun j s e => ?_, dist, fun b o e => ?_, G.old.trans sF, fun b o e n => ?_, fun b e => G.grow b (post.grow b e), fun b o e => ?_, fun b o e => ?_⟩, sF, rep, reps, trep, fun b hb fb nb => ⟨noneB fb, G.grow b hb, ?_, fun i h => ?_⟩⟩
  · rw [p1]; exact G.len
  · by_cases hj : j ∈ ios os
    · rcases p3 j hj with ⟨t', ys, ys0, l2, ws2, b1, b2, b3, b4, b5, b6, b7⟩ | ⟨t', ys, ys0, l2, ws2, b1, b2, b3, b4, b5, b6, b7, b8, b9⟩
      · rw [b2] at e
        cases e
        obtain ⟨l3, ws3, e3, tg, _⟩ := G.slot j _ b1
        rw [b3] at e3
        cases e3
        exact ⟨l2, ws2, b3, tg, noneB b4, b5, reps (fun hc => hl hc ys b7) b6⟩
      · rw [b2] at e
        cases e
        obtain ⟨l3, ws3, e3, tg, _, hl3, _, _, tx⟩ := G.slot j _ b1
        rw [b3] at e3
        cases e3
        refine ⟨l2, ws2, b3, tg, noneB b4, b5, trep (fun hc => hl hc ys b9) b6, b7, fun a m => ?_⟩
        rcases b8 a m with z | z
        · rw [hl3] at z; exact tx a z
        · exact .fresh t' (G.grow a z)
    · rw [p2 j hj] at e
      have z := G.slot j s e
      cases s with
      | d x => obtain ⟨v, e1, r1⟩ := z; exact ⟨v, e1, r1.mono sF⟩
      | own t xs =>
        obtain ⟨l, ws, e1, tg, fl, hl', rr⟩ := z
        have oj : OwnAt H σ ρ j l := .of e1 e
        exact ⟨l, ws, e1, tg, fnone oj hj, stay oj hj hl', rr.mono sF⟩
      | tre t xs =>
        obtain ⟨l, ws, e1, tg, fl, hl', rr, nd', tx⟩ := z
        have oj : ∀ a ∈ l :: bx ws xs, OwnAt H σ ρ j a := fun a m => .ofT e1 e hl' m
        refine ⟨l, ws, e1, tg, fnone (oj l List.mem_cons_self) hj, stay (oj l List.mem_cons_self) hj hl', rr.move sF fun a m => ?_, nd', tx⟩
        have oa := oj a (List.mem_cons_of_mem _ m)
        obtain ⟨_, u, hu, _⟩ := rr.at_ a m
        exact ⟨fnone oa hj, by rw [hu, stay oa hj hu]⟩
  · by_cases h : ∃ i, (c = true ∧ i ∉ ios os) ∧ OwnAt H σ ρ i b
    · rw [backP_at (P := fun i => c = true ∧ i ∉ ios os) h] at e; cases e
    · rw [backP_no (P := fun i => c = true ∧ i ∉ ios os) h] at e; exact post.sub _ _ e
  · have z := G.keep b o e n
    refine post.keep _ _ z fun hm => ?_
    obtain ⟨i, hi, oi⟩ := (mem b).mp hm
    obtain ⟨_, _, _, _, tg⟩ := G.own oi
    rcases tg with tg | tg
    · rw [tg] at e; cases e
    · exact n tg
  · by_cases h : ∃ i, (c = true ∧ i ∉ ios os) ∧ OwnAt H σ ρ i b
    · rw [backP_at (P := fun i => c = true ∧ i ∉ ios os) h] at e; cases e
    · rw [backP_no (P := fun i => c = true ∧ i ∉ ios os) h] at e
      rcases post.new b o e with z | z
      · rw [lentP_no (P := fun i => c = true ∧ i ∉ ios os) h] at z; exact G.new b o z
      · exact .inr (G.grow b z)
  · obtain ⟨h1, h2, h3⟩ := G.pinned b o e
    refine ⟨post.keep _ _ h1 fun hm => ?_, ?_, fun j q => ?_⟩
    · obtain ⟨i, hi, oi⟩ := (mem b).mp hm
      exact h3 i oi
    · have hno : ¬ ∃ i, (c = true ∧ i ∉ ios os) ∧ OwnAt H σ ρ i b := fun ⟨i, _, oi⟩ => h3 i oi
      rw [backP_no (P := fun i => c = true ∧ i ∉ ios os) hno]
      cases q : F' b with
      | none => rfl
      | some u =>
        rcases post.new b u q with z | z
        · rw [lentP_no (P := fun i => c = true ∧ i ∉ ios os) hno, h2] at z; cases z
        · rw [h1] at z; cases z
    · by_cases hj : j ∈ ios os
      · rcases ownY hj q with z | z
        · exact h3 j z
        · rw [h1] at z; cases z
      · exact h3 j (ownN hj q)
  · cases q : g.pin b with
    | none => rfl
    | some o => have := (G.pinned b o q).1; rw [hb] at this; cases this
  · by_cases hi : i ∈ ios os
    · exact nb (p4 i hi b h)
    · obtain ⟨_, u, hu, _⟩ := G.own (ownN hi h)
      rw [hb] at hu; cases hu
end
theorem argsOk_v {K : PySem.W.Frag} {F H : Hp} : ∀ {ws : List V} {ds : List D}, Reps K F ws ds → ArgsOk K F H ws (ds.map A.v)
  | _, _, .nil => .nil
  | _, _, .cons a b => .v a (argsOk_v b)
theorem ArgsOk.append {K : PySem.W.Frag} {F H : Hp} {ws : List V} {ds : List D} (h2 : Reps K F ws ds) : ∀ {vs : List V} {as : List A}, ArgsOk K F H vs as → ArgsOk K F H (vs ++ ws) (as ++ ds.map A.v)
  | _, _, .nil => argsOk_v h2
  | _, _, .v h r => .v h (ArgsOk.append h2 r)
  | _, _, .io a b c r => .io a b c (ArgsOk.append h2 r)
  | _, _, .tr a b c r => .tr a b c (ArgsOk.append h2 r)
theorem fpL_vals (H : Hp) : ∀ (ws : List V) (ds : List D), fpL H ws (ds.map A.v) = []
  | [], _ => by cases ‹List D› <;> rfl
  | _ :: _, [] => rfl
  | v :: vs, d :: ds => by
    show fpA H v (.v d) ++ fpL H vs (ds.map A.v) = []
    rw [fpL_vals H vs ds]
    cases v <;> rfl
theorem fpL_append {K : PySem.W.Frag} {F H : Hp} {ws : List V} (ds : List D) : ∀ {vs : List V} {as : List A}, ArgsOk K F H vs as → fpL H (vs ++ ws) (as ++ ds.map A.v) = fpL H vs as
  | _, _, .nil => fpL_vals H ws ds
  | _, _, .v (v := v) (x := x) (vs := vs) (as := as) h r => by
    show fpA H v (.v x) ++ fpL H (vs ++ ws) (as ++ ds.map A.v) = _
    rw [fpL_append ds r]; rfl
  | _, _, .io (l := l) (xs := x) (vs := vs) (as := as) a b c r => by
    show fpA H (.ref l) (.io x) ++ fpL H (vs ++ ws) (as ++ ds.map A.v) = _
    rw [fpL_append ds r]; rfl
  | _, _, .tr (l := l) (xs := x) (vs := vs) (as := as) a b c r => by
    show fpA H (.ref l) (.tr x) ++ fpL H (vs ++ ws) (as ++ ds.map A.v) = _
    rw [fpL_append ds r]; rfl
theorem iosOk_vals {K : PySem.W.Frag} {H F' H' : Hp} : ∀ {ws : List V} {ds : List D} {os : List D}, IosOk K H F' H' ws (ds.map A.v) os → os = []
  | _, [], _, h => by cases h; rfl
  | _, d :: ds, _, h => by
    cases h with
    | v h => exact iosOk_vals h
theorem fpO_vals (H' : Hp) : ∀ (ws : List V) (ds : List D), fpO H' ws (ds.map A.v) [] = []
  | [], _ => by cases ‹List D› <;> rfl
  | _ :: _, [] => rfl
  | v :: vs, d :: ds => by
    rw [List.map_cons, fpO_v]
    exact fpO_vals H' vs ds
theorem iosOk_append {K : PySem.W.Frag} {F H F' H' : Hp} {ws : List V} (ds : List D) : ∀ {vs : List V} {as : List A} {os : List D}, ArgsOk K F H vs as → IosOk K H F' H' (vs ++ ws) (as ++ ds.map A.v) os → IosOk K H F' H' vs as os ∧ fpO H' (vs ++ ws) (as ++ ds.map A.v) os = fpO H' vs as os
  | _, _, _, .nil, h => by
    have e := iosOk_vals h
    subst e
    exact ⟨.nil, fpO_vals H' ws ds⟩
  | _, _, os, .v (v := v) (x := x) (vs := vs) (as := as) h r, hi => by
    cases hi with
    | v hi =>
      obtain ⟨h1, h2⟩ := iosOk_append ds r hi
      refine ⟨.v h1, ?_⟩
      show fpO H' (v :: (vs ++ ws)) (.v x :: (as ++ ds.map A.v)) os = _
      rw [fpO_v, fpO_v, h2]
  | _, _, _, .io (l := l) (vs := vs) (as := as) a b c r, hi => by
    cases hi with
    | io a1 a2 a3 hi =>
      obtain ⟨h1, h2⟩ := iosOk_append ds r hi
      refine ⟨.io a1 a2 a3 h1, ?_⟩
      show (l, []) :: fpO H' (vs ++ ws) (as ++ ds.map A.v) _ = (l, []) :: fpO H' vs as _
      rw [h2]
  | _, _, _, .tr (l := l) (vs := vs) (as := as) a b c r, hi => by
    cases hi with
    | tr a1 a2 a3 a4 hi =>
      obtain ⟨h1, h2⟩ := iosOk_append ds r hi
      refine ⟨.tr a1 a2 a3 a4 h1, ?_⟩
      show (l, bxo (H' l) _) :: fpO H' (vs ++ ws) (as ++ ds.map A.v) _ = (l, bxo (H' l) _) :: fpO H' vs as _
      rw [h2]
section
variable {X : Cx} {g : Gx} {CX : CXT} {k : Nat} {f : Addr} {fd : FuncData} {ps : List Str} {fm : FM} {dds : List D} {fa : AM} {ds : List Value} {dvs : List V} {E : XK}
/-- the heart of a call -/
theorem call_t (hdd : ∀ F, Reps X.K F dvs dds) {α : Type} {kont : Res × Bool × Env → Option α} {a : α} {F H : Hp} {σ : St} {ρ : Env} {R : VK} {p : List Opd × Env} (G : Gd X.K g F H σ p.2) {vs : List V} (r : OpdsOk X.K F σ vs p.1)
    {res : Res × Bool × Env} (nd : (ios p.1).Nodup) (ok : okOs p.1 (ios p.1) = true) {as : List A} (ea : argsOf p.2 p.1 = some as) {rr : Res × List D} (ef : fm (as ++ dds.map A.v) = some rr) {ρ2 : Env} (ep : putOuts p.1 rr.2 p.2 = some ρ2)
    (hl : hasRef p.1 = false ∨ rr.2.all lfo = true)
    (q : ∀ v F1 F2 H2 ad, (∀ {w : V} {d : D}, (hasRef p.1 = true → lf d = true) → Rep X.K F1 w d → Rep X.K F2 w d) → (∀ {w : HO} {d : D}, (hasRef p.1 = true → lfo d = true) → ORep X.K F1 w d → ORep X.K F2 w d) → (∀ {w : HO} {d : D}, (hasRef p.1 = true → lfo d = true) → TRep X.K F1 H2 w d → TRep X.K F2 H2 w d) →
      (∀ b, H b = none → F1 b = none → b ∉ ad → F2 b = none ∧ g.H0 b = none ∧ g.pin b = none ∧ ∀ i, ¬ OwnAt H2 σ ρ2 i b) → Gd X.K g F2 H2 σ ρ2 → Same F F2 → ResOk X.K H F1 H2 ad v rr.1 → R v H2) : spF X.K fm (vs ++ dvs) H R E := by
  have ha := args_ok G (is := ios p.1) (c := hasRef p.1) r ea ok (fun _ h => h) (fun h => h)
  refine ⟨_, _, rr.1, rr.2, ha.append (hdd _), ?_, G.lentPH, ef, fun v F1 H2 post io ndo rs => ?_⟩
  · rw [fpL_append dds ha]; exact ios_nodup r ea G nd
  · rw [fpL_append dds ha] at post
    obtain ⟨io', eo⟩ := iosOk_append dds ha io
    rw [eo] at ndo rs
    obtain ⟨G2, sF, rep, reps, trep, none⟩ := call_end G r ea nd post io' ndo ep fun hc => by
      rcases hl with h | h
      · rw [h] at hc; cases hc
      · exact fun xs hx => List.all_eq_true.mp h xs hx
    exact q v F1 _ H2 _ rep reps trep none G2 sF rs
theorem call_e (hdd : ∀ F, Reps X.K F dvs dds) {σ : St} {H : Hp} {Q : VK} (q : tE X.K g (eCall fm dds fa) σ H Q) : tCall (spF X.K fm) dvs E (tA X.K g fa) σ H Q := by
  obtain ⟨F, ρ, d, ρ', G, hf, q⟩ := q
  obtain ⟨r, hm, hf⟩ := bnd hf
  obtain ⟨p, e0, hm⟩ := bnd hm
  split at hm
  · rename_i hc
    obtain ⟨as, e1, hm⟩ := bnd hm
    obtain ⟨rr, e2, hm⟩ := bnd hm
    obtain ⟨ρ2, e3, hm⟩ := bnd hm
    split at hm
    · rename_i hl
      cases hm
      refine ⟨F, ρ, p.1, p.2, G, e0, fun vs F' H' G' s' r' => call_t (fm := fm) (E := E) (α := Unit) (kont := fun _ => none) (a := ()) (ρ := ρ) (res := (rr.1, true, ρ2)) hdd G' r' hc.1 hc.2 e1 e2 e3 hl fun v F1 F2 H2 ad rep reps trep none G2 sF rs => ?_⟩
      cases e : rr.1 with
      | d x =>
        simp only [finR, e, fin] at hf
        split at hf
        · rename_i hx
          cases hf
          rw [e] at rs
          exact q v F2 H2 G2 (s'.trans sF) (rep (fun h => by rw [h] at hx; simpa using hx) rs)
        · cases hf
      | n xs =>
        simp only [finR, e] at hf
        split at hf
        · rename_i hx
          cases hf
          rw [e] at rs
          obtain ⟨l, ws, rfl, h1, h2, hx2, h3, h4⟩ := rs
          obtain ⟨n1, n2, n3, n4⟩ := none l h1 h2 hx2
          have sm' : Same F2 (upd F2 l ws) := fun b u e => by rw [upd_ne (ne_of_none e n1)]; exact e
          exact q _ _ H2 (G2.freeze h3 n1 n2 n3 n4) ((s'.trans sF).trans sm') (((reps (fun h => by rw [h] at hx; simpa using hx) h4).mono sm').rep upd_same)
        · cases hf
      | r xs => simp only [finR, e] at hf; cases hf
    · cases hm
  · cases hm
theorem call_n (hdd : ∀ F, Reps X.K F dvs dds) {σ : St} {H : Hp} {Q : VK} (q : tN X.K g (nCall fm dds fa) σ H Q) : tCall (spF X.K fm) dvs E (tA X.K g fa) σ H Q := by
  obtain ⟨F, ρ, d, ρ', G, hf, q⟩ := q
  obtain ⟨r, hm, hf⟩ := bnd hf
  obtain ⟨p, e0, hm⟩ := bnd hm
  split at hm
  · rename_i hc
    obtain ⟨as, e1, hm⟩ := bnd hm
    obtain ⟨rr, e2, hm⟩ := bnd hm
    obtain ⟨ρ2, e3, hm⟩ := bnd hm
    split at hm
    · rename_i hl
      cases hm
      refine ⟨F, ρ, p.1, p.2, G, e0, fun vs F' H' G' s' r' => call_t (fm := fm) (E := E) (α := Unit) (kont := fun _ => none) (a := ()) (ρ := ρ) (res := (rr.1, true, ρ2)) hdd G' r' hc.1 hc.2 e1 e2 e3 hl fun v F1 F2 H2 ad rep reps trep none G2 sF rs => ?_⟩
      obtain ⟨xs, e4, hf⟩ := bnd hf
      split at hf
      · rename_i hx
        cases hf
        cases e : rr.1 with
        | d x => rw [e] at e4; cases e4
        | r x => rw [e] at e4; cases e4
        | n ys =>
          rw [e] at rs e4
          cases e4
          obtain ⟨l, ws, rfl, h1, h2, hx2, h3, h4⟩ := rs
          obtain ⟨n1, n2, n3, n4⟩ := none l h1 h2 hx2
          exact q l ws F2 H2 G2 (s'.trans sF) h3 n1 n2 n3 n4 (reps (fun h => by rw [h] at hx; simpa using hx) h4)
      · cases hf
    · cases hm
  · cases hm
variable {x : Str} {p pos : Pos} {e : Expr} {es : List Expr}
theorem de_call (Fk : FnOk X.prog X.w X.K X.mg X.base CX k f fd ps (spF X.K fm)) (hr : Room k X.A) (hg : Gl X x) (hm : X.mg x = some (.ref f)) (hk : PySem.W.keepIn X.K (.ref f) = true) (hb : Binds X.K fd ps ds) (hd : Vals dvs ds) (hdd : ∀ F, Reps X.K F dvs dds) (hx : Passes CX X E) (ha : DA X g (e :: es) fa) (hdb : (x == ("__debug__" : Str)) = false := by decide)
    (he : starEach (e :: es) X.env = (false, eval e X.env) :: starEach es X.env := by rfl) (hpl : (backTo pos (starEach es X.env)).any (·.1) = false := by rfl) : DE X g (.Call (.Name x p) (e :: es) [] pos) (eCall fm dds fa) :=
  weakPE (pe_call Fk hr hg hm hk hb hd hx ha (hdb := hdb) (he := he) (hpl := hpl)) fun σ H Q q => call_e hdd q
theorem dn_call (Fk : FnOk X.prog X.w X.K X.mg X.base CX k f fd ps (spF X.K fm)) (hr : Room k X.A) (hg : Gl X x) (hm : X.mg x = some (.ref f)) (hk : PySem.W.keepIn X.K (.ref f) = true) (hb : Binds X.K fd ps ds) (hd : Vals dvs ds) (hdd : ∀ F, Reps X.K F dvs dds) (hx : Passes CX X E) (ha : DA X g (e :: es) fa) (hdb : (x == ("__debug__" : Str)) = false := by decide)
    (he : starEach (e :: es) X.env = (false, eval e X.env) :: starEach es X.env := by rfl) (hpl : (backTo pos (starEach es X.env)).any (·.1) = false := by rfl) : DN X g (.Call (.Name x p) (e :: es) [] pos) (nCall fm dds fa) :=
  weakPE (pe_call Fk hr hg hm hk hb hd hx ha (hdb := hdb) (he := he) (hpl := hpl)) fun σ H Q q => call_n hdd q
theorem de_call0 (Fk : FnOk X.prog X.w X.K X.mg X.base CX k f fd ps (spF X.K fm)) (hr : Room k X.A) (hg : Gl X x) (hm : X.mg x = some (.ref f)) (hk : PySem.W.keepIn X.K (.ref f) = true) (hb : Binds X.K fd ps ds) (hd : Vals dvs ds) (hdd : ∀ F, Reps X.K F dvs dds) (hx : Passes CX X E) (hdb : (x == ("__debug__" : Str)) = false := by decide) :
    DE X g (.Call (.Name x p) [] [] pos) (eCall fm dds aN) :=
  weakPE (pe_call0 Fk hr hg hm hk hb hd hx (hdb := hdb)) fun σ H Q q => by
    have h := call_e (E := E) (dvs := dvs) hdd q
    obtain ⟨F, ρ, os, ρ', G, hf, k⟩ := h
    cases hf
    exact k [] F H G (Same.refl _) .nil
end
end L3

namespace L3
open PySem L2

theorem opr_or {X : Cx} {f : Value → Value → Sem Value} {r r' : R2} (h : OpR X f r) (h' : OpR X f r') : OpR X f (fun x y H Q => r x y H Q ∨ r' x y H Q) := fun pins s σ H x y v u Q I rx ry q =>
  q.elim (h pins s σ H x y v u Q I rx ry) (h' pins s σ H x y v u Q I rx ry)
theorem callr_or {X : Cx} {f : Value} {r r' : List V → Hp → VK → Prop} (h : CallR X f r) (h' : CallR X f r') : CallR X f (fun xs H Q => r xs H Q ∨ r' xs H Q) := fun pins s σ H xs us Q I r q =>
  q.elim (h pins s σ H xs us Q I r) (h' pins s σ H xs us Q I r)

/-! ### ints -/
def wide (i : Int) : Bool := decide (-(2 ^ 256) < i ∧ i < 2 ^ 256)
theorem wide_abs {i : Int} (h : wide i = true) : i.natAbs < 2 ^ 256 := by
  have q := of_decide_eq_true h
  omega
def kAdd : D → D → Option D
  | .int i, .int j => some (.int (i + j))
  | .str x, .str y => if x.length + y.length ≤ 16777216 then some (.str (x ++ y)) else none
  | .tup l, .tup m => if l.length + m.length ≤ 16777216 then some (.tup (l ++ m)) else none
  | .lst l, .lst m => if l.length + m.length ≤ 16777216 then some (.lst (l ++ m)) else none
  | _, _ => none
def kSub : D → D → Option D
  | .int i, .int j => some (.int (i - j))
  | _, _ => none
def kMul : D → D → Option D
  | .int i, .int j => if wide i && wide j then some (.int (i * j)) else none
  | _, _ => none
def kFdiv : D → D → Option D
  | .int i, .int j => if 0 < j ∧ wide j = true then some (.int (i / j)) else none
  | _, _ => none
def kMod : D → D → Option D
  | .int i, .int j => if 0 < j then some (.int (i % j)) else none
  | _, _ => none
def kPow : D → D → Option D
  | .int i, .int j => if 0 ≤ j ∧ j ≤ 1000 ∧ wide i = true then some (.int (i ^ j.toNat)) else none
  | _, _ => none
def kNeg : D → Option D
  | .int i => some (.int (-i))
  | _ => none
def kLt : D → D → Option D
  | .int i, .int j => some (.bl (decide (i < j)))
  | _, _ => none
def kLe : D → D → Option D
  | .int i, .int j => some (.bl (decide (i ≤ j)))
  | _, _ => none
def kGt : D → D → Option D
  | .int i, .int j => some (.bl (decide (j < i)))
  | _, _ => none
def kGe : D → D → Option D
  | .int i, .int j => some (.bl (decide (j ≤ i)))
  | _, _ => none
section
variable {X : Cx} {K : PySem.W.Frag}
abbrev rAddX (K : PySem.W.Frag) : R2 := fun x y H Q => (∃ i j, x = .int i ∧ y = .int j ∧ Q (.int (i + j)) H) ∨ (∃ i j, x = .str i ∧ y = .str j ∧ i.length + j.length ≤ sizeLine ∧ Q (.str (i ++ j)) H) ∨ rCatA K x y H Q ∨ rCat x y H Q
theorem or_add : OpR X (binaryOp .Add) (rAddX X.K) := opr_or op_add (opr_or op_add_str (opr_or op_catA op_cat))
theorem ok_add : Op2 K (rAddX K) kAdd := by
  intro F H v u a b c Q s ra rb e q
  unfold kAdd at e
  split at e
  · cases ra; cases rb; cases e
    exact .inl ⟨_, _, rfl, rfl, q _ F H (Ext.refl s) .int⟩
  · split at e
    · rename_i hl
      cases ra; cases rb; cases e
      exact .inr (.inl ⟨_, _, rfl, rfl, by rw [sizeLine_eq]; exact hl, q _ F H (Ext.refl s) .str⟩)
    · cases e
  · split at e
    · rename_i l m hl
      cases e
      cases ra with
      | tup h1 h2 =>
        cases rb with
        | tup h3 h4 =>
          refine .inr (.inr (.inl ⟨_, _, _, _, rfl, rfl, SqT.of (s _ _ h1), SqT.of (s _ _ h3), by rw [sizeLine_eq, h2.length, h4.length]; exact hl, fun e => ?_, fun _ e => ?_, fun _ _ p hp => ?_⟩))
          · subst e; cases h2
            exact q _ F H (Ext.refl s) (.tup h3 h4)
          · subst e; cases h4
            rw [List.append_nil] at q
            exact q _ F H (Ext.refl s) (.tup h1 h2)
          · exact q _ _ _ (Ext.alloc s hp (.tup _)) (.tup upd_same ((h2.append h4).mono (Ext.alloc s hp _).ff))
    · cases e
  · split at e
    · rename_i l m hl
      cases e
      cases ra with
      | lst h1 h2 =>
        cases rb with
        | lst h3 h4 =>
          refine .inr (.inr (.inr ⟨_, _, _, _, rfl, rfl, s _ _ h1, s _ _ h3, by rw [sizeLine_eq, h2.length, h4.length]; exact hl, fun p hp => ?_⟩))
          exact q _ _ _ (Ext.alloc s hp (.lst _)) (.lst upd_same ((h2.append h4).mono (Ext.alloc s hp _).ff))
    · cases e
  · cases e
theorem ok_sub : Op2 K (rI0 fun i j => .int (i - j)) kSub := by
  intro F H v u a b c Q s ra rb e q
  unfold kSub at e
  split at e
  · cases ra; cases rb; cases e
    exact ⟨_, _, rfl, rfl, q _ F H (Ext.refl s) .int⟩
  · cases e
theorem ok_mul : Op2 K (rI CMulW fun i j => .int (i * j)) kMul := by
  intro F H v u a b c Q s ra rb e q
  unfold kMul at e
  split at e
  · split at e
    · rename_i hw
      cases ra; cases rb; cases e
      have h := Bool.and_eq_true_iff.mp hw
      exact ⟨_, _, rfl, rfl, wide_mul (wide_abs h.1) (wide_abs h.2) (by decide) (by decide) (by decide), q _ F H (Ext.refl s) .int⟩
    · cases e
  · cases e
theorem ok_fdiv : Op2 K (rI CDivW fun i j => .int (i / j)) kFdiv := by
  intro F H v u a b c Q s ra rb e q
  unfold kFdiv at e
  split at e
  · split at e
    · rename_i hw
      cases ra; cases rb; cases e
      exact ⟨_, _, rfl, rfl, wide_div hw.1 (wide_abs hw.2) (by decide) (by decide), q _ F H (Ext.refl s) .int⟩
    · cases e
  · cases e
theorem ok_mod : Op2 K (rI (fun _ j => 0 < j) fun i j => .int (i % j)) kMod := by
  intro F H v u a b c Q s ra rb e q
  unfold kMod at e
  split at e
  · split at e
    · rename_i hw
      cases ra; cases rb; cases e
      exact ⟨_, _, rfl, rfl, hw, q _ F H (Ext.refl s) .int⟩
    · cases e
  · cases e
def CPowW (i j : Int) : Prop := 0 ≤ j ∧ (Builtin.Int.intBits i : Int) * j ≤ 2 ^ 27
theorem op_powW : OpR X (binaryOp .Pow) (rI CPowW fun i j => .int (i ^ j.toNat)) := opI fun _ _ _ _ _ _ _ hc q => PyProof.Rows.pow_int hc.1 hc.2 q
theorem ok_pow : Op2 K (rI CPowW fun i j => .int (i ^ j.toNat)) kPow := by
  intro F H v u a b c Q s ra rb e q
  unfold kPow at e
  split at e
  · split at e
    · rename_i i j hw
      cases ra; cases rb; cases e
      refine ⟨_, _, rfl, rfl, ⟨hw.1, ?_⟩, q _ F H (Ext.refl s) .int⟩
      have b := PyProof.Rows.intBits_le (wide_abs hw.2.2)
      have h1 := hw.1
      have h2 := hw.2.1
      have : (Builtin.Int.intBits i : Int) * j ≤ 256 * 1000 := Int.mul_le_mul (by omega) h2 h1 (by decide)
      exact Int.le_trans this (by decide)
    · cases e
  · cases e
theorem ok_neg : Op1 K (rU fun i => .int (-i)) kNeg := by
  intro F H v a c Q s ra e q
  unfold kNeg at e
  split at e
  · cases ra; cases e
    exact ⟨_, rfl, q _ F H (Ext.refl s) .int⟩
  · cases e
theorem ok_lt : Op2 K (rI0 fun i j => .bl (decide (i < j))) kLt := by
  intro F H v u a b c Q s ra rb e q
  unfold kLt at e
  split at e
  · cases ra; cases rb; cases e
    exact ⟨_, _, rfl, rfl, q _ F H (Ext.refl s) .bl⟩
  · cases e
theorem ok_le : Op2 K (rI0 fun i j => .bl (decide (i ≤ j))) kLe := by
  intro F H v u a b c Q s ra rb e q
  unfold kLe at e
  split at e
  · cases ra; cases rb; cases e
    exact ⟨_, _, rfl, rfl, q _ F H (Ext.refl s) .bl⟩
  · cases e
theorem ok_gt : Op2 K (rI0 fun i j => .bl (decide (j < i))) kGt := by
  intro F H v u a b c Q s ra rb e q
  unfold kGt at e
  split at e
  · cases ra; cases rb; cases e
    exact ⟨_, _, rfl, rfl, q _ F H (Ext.refl s) .bl⟩
  · cases e
theorem ok_ge : Op2 K (rI0 fun i j => .bl (decide (j ≤ i))) kGe := by
  intro F H v u a b c Q s ra rb e q
  unfold kGe at e
  split at e
  · cases ra; cases rb; cases e
    exact ⟨_, _, rfl, rfl, q _ F H (Ext.refl s) .bl⟩
  · cases e
/-- a < b < c, the middle one a value -/
def eChain (k k' : D → D → Option D) (f h j : OM) : EM := fun ρ => (f ρ).bind fun p => (h p.2).bind fun q => (res q.2 p.1).bind fun a => (res q.2 q.1).bind fun b => (k a b).bind fun c => match c with
  | .bl true => (j q.2).bind fun r => (res r.2 r.1).bind fun d => if isVal p.1 && isVal q.1 && isVal r.1 then (k' b d).bind fun x => some (x, r.2) else none
  | .bl false => if isVal p.1 && isVal q.1 then some (.bl false, q.2) else none
  | _ => none
end

/-! ### == -/
mutual
def toPy : D → Option PyData
  | .non => some .none
  | .bl b => some (.bool b)
  | .int i => some (.int i)
  | .str x => some (.str x)
  | .tup l => (toPys l).bind fun z => some (.tuple z)
  | .ktp l => (toPys l).bind fun z => some (.tuple z)
  | .lst l => (toPys l).bind fun z => some (.list z)
  | _ => none
def toPys : List D → Option (List PyData)
  | [] => some []
  | d :: r => (toPy d).bind fun z => (toPys r).bind fun zs => some (z :: zs)
end
mutual
theorem toPy_ok {K : PySem.W.Frag} {F H : Hp} (s : Same F H) : ∀ {v : V} {d : D} {z : PyData}, Rep K F v d → toPy d = some z → Dp K H v z
  | _, _, _, .non, e => by cases e; exact .non
  | _, _, _, .bl, e => by cases e; exact .bl _
  | _, _, _, .int, e => by cases e; exact .int _
  | _, _, _, .str, e => by cases e; exact .str _
  | _, _, _, .tup h r, e => by
    obtain ⟨z, e1, e2⟩ := bnd e
    cases e2
    exact .tup (SqT.of (s _ _ h)) (toPys_ok s r e1)
  | _, _, _, .ktp h r, e => by
    obtain ⟨z, e1, e2⟩ := bnd e
    cases e2
    exact .tup (Same.sqt s h) (toPys_ok s r e1)
  | _, _, _, .lst h r, e => by
    obtain ⟨z, e1, e2⟩ := bnd e
    cases e2
    exact .lst (SqL.of (s _ _ h)) (toPys_ok s r e1)
  | _, _, _, .ins h r, e => by cases e
  | _, _, _, .dk h r, e => by cases e
  | _, _, _, .cls, e => by cases e
  | _, _, _, .bty, e => by cases e
  | _, _, _, .scr h, e => by cases e
theorem toPys_ok {K : PySem.W.Frag} {F H : Hp} (s : Same F H) : ∀ {vs : List V} {ds : List D} {zs : List PyData}, Reps K F vs ds → toPys ds = some zs → DpAll K H vs zs
  | _, _, _, .nil, e => by cases e; exact .nil
  | _, _, _, .cons h r, e => by
    obtain ⟨z, e1, e⟩ := bnd e
    obtain ⟨zs, e2, e⟩ := bnd e
    cases e
    exact .cons (toPy_ok s h e1) (toPys_ok s r e2)
end
def eqD (a b : D) : Option Bool := (toPy a).bind fun x => (toPy b).bind fun y => if SeqAt.shaped x && SeqAt.shaped y then some (PyData.eqv x y) else none
def kEq (a b : D) : Option D := (eqD a b).bind fun k => some (.bl k)
def kNe (a b : D) : Option D := (eqD a b).bind fun k => some (.bl (!k))
section
variable {X : Cx} {K : PySem.W.Frag}
theorem eqD_ok {F H : Hp} (s : Same F H) {v u : V} {a b : D} {k : Bool} (ra : Rep K F v a) (rb : Rep K F u b) (e : eqD a b = some k) : ∃ x y, Dp K H v x ∧ Dp K H u y ∧ SeqAt.shaped x = true ∧ SeqAt.shaped y = true ∧ k = PyData.eqv x y := by
  obtain ⟨x, e1, e⟩ := bnd e
  obtain ⟨y, e2, e⟩ := bnd e
  split at e
  · rename_i hs
    cases e
    have h := Bool.and_eq_true_iff.mp hs
    exact ⟨x, y, toPy_ok s ra e1, toPy_ok s rb e2, h.1, h.2, rfl⟩
  · cases e
theorem ok_eq : Op2 K (rEqD K) kEq := by
  intro F H v u a b c Q s ra rb e q
  obtain ⟨k, e1, e⟩ := bnd e
  cases e
  obtain ⟨x, y, h1, h2, h3, h4, rfl⟩ := eqD_ok s ra rb e1
  exact ⟨x, y, h1, h2, h3, h4, q _ F H (Ext.refl s) .bl⟩
theorem ok_ne : Op2 K (rNeD K) kNe := by
  intro F H v u a b c Q s ra rb e q
  obtain ⟨k, e1, e⟩ := bnd e
  cases e
  obtain ⟨x, y, h1, h2, h3, h4, rfl⟩ := eqD_ok s ra rb e1
  exact ⟨x, y, h1, h2, h3, h4, q _ F H (Ext.refl s) .bl⟩
end
/-! ### is None -/
def isN : D → Bool
  | .non => true
  | _ => false
def kIsN (a b : D) : Option D := match b with
  | .non => some (.bl (isN a))
  | _ => none
def kNotN (a b : D) : Option D := match b with
  | .non => some (.bl (!isN a))
  | _ => none
section
variable {X : Cx} {K : PySem.W.Frag}
theorem isN_ok {F : Hp} {v : V} {a : D} (r : Rep K F v a) : decide (v = .non) = isN a := by
  cases r <;> rfl
theorem ok_isN : Op2 K (fun x y H Q => y = .non ∧ Q (.bl (decide (x = .non))) H) kIsN := by
  intro F H v u a b c Q s ra rb e q
  unfold kIsN at e
  split at e
  · cases rb; cases e
    exact ⟨rfl, by rw [isN_ok ra]; exact q _ F H (Ext.refl s) .bl⟩
  · cases e
theorem ok_notN : Op2 K (fun x y H Q => y = .non ∧ Q (.bl (!decide (x = .non))) H) kNotN := by
  intro F H v u a b c Q s ra rb e q
  unfold kNotN at e
  split at e
  · cases rb; cases e
    exact ⟨rfl, by rw [isN_ok ra]; exact q _ F H (Ext.refl s) .bl⟩
  · cases e
end

/-! ### items -/
theorem atI_rep {K : PySem.W.Frag} {F : Hp} {vs : List V} {ds : List D} {i : Int} {d : D} (r : Reps K F vs ds) (e : atI ds i = some d) : ∃ v, atI vs i = some v ∧ Rep K F v d := by
  unfold atI at e ⊢
  rw [r.length]
  obtain ⟨j, e1, e2⟩ := bnd e
  obtain ⟨v, h1, h2⟩ := r.get e2
  exact ⟨v, by rw [e1]; exact h1, h2⟩
def kIx (a b : D) : Option D := match b with
  | .int i => match a with
    | .tup l => atI l i
    | .ktp l => atI l i
    | .lst l => atI l i
    | .scr ns => (atI ns i).bind fun n => some (.int n)
    | .str z => if z.length ≤ 16777216 then (atI z.cps.toList i).bind fun c => some (.str ⟨#[c]⟩) else none
    | _ => none
  | _ => none
theorem atI_map {α β : Type} (f : α → β) {l : List α} {i : Int} {x : α} (e : atI l i = some x) : atI (l.map f) i = some (f x) := by
  unfold atI at e ⊢
  rw [List.length_map]
  obtain ⟨j, e1, e2⟩ := bnd e
  rw [e1]
  show (l.map f)[j]? = _
  rw [List.getElem?_map, e2]; rfl
theorem ok_ix {K : PySem.W.Frag} : Op2 K (rIx K) kIx := by
  intro F H v u a b c Q s ra rb e q
  unfold kIx at e
  split at e
  · cases rb
    split at e
    · cases ra with
      | tup h1 h2 =>
        obtain ⟨w, e1, r1⟩ := atI_rep h2 e
        exact .inr (.inl ⟨_, _, _, _, rfl, rfl, SqT.of (s _ _ h1), e1, q _ F H (Ext.refl s) r1⟩)
    · cases ra with
      | ktp h1 h2 =>
        obtain ⟨w, e1, r1⟩ := atI_rep h2 e
        exact .inr (.inl ⟨_, _, _, _, rfl, rfl, Same.sqt s h1, e1, q _ F H (Ext.refl s) r1⟩)
    · cases ra with
      | lst h1 h2 =>
        obtain ⟨w, e1, r1⟩ := atI_rep h2 e
        exact .inl ⟨_, _, _, _, rfl, rfl, SqL.of (s _ _ h1), e1, q _ F H (Ext.refl s) r1⟩
    · cases ra with
      | scr h1 =>
        obtain ⟨n, e1, e⟩ := bnd e
        cases e
        exact .inl ⟨_, _, _, _, rfl, rfl, s.seq h1, atI_map V.int e1, q _ F H (Ext.refl s) .int⟩
    · split at e
      · rename_i hz
        cases ra
        obtain ⟨n, e1, e⟩ := bnd e
        cases e
        exact .inr (.inr ⟨_, _, _, rfl, rfl, by rw [sizeLine_eq]; exact hz, e1, q _ F H (Ext.refl s) .str⟩)
      · cases e
    · cases e
  · cases e

/-! ### in -/
def flatD : D → Bool
  | .non => true
  | .bl _ => true
  | .int _ => true
  | .str _ => true
  | _ => false
def eqF : D → D → Bool
  | .non, .non => true
  | .bl a, .bl b => a == b
  | .bl a, .int b => (if a then 1 else 0) == b
  | .int a, .bl b => a == (if b then 1 else 0)
  | .int a, .int b => a == b
  | .str a, .str b => a == b
  | _, _ => false
/-- the items, where all are flat -/
def flats : D → Option (List D)
  | .tup l => if l.all flatD then some l else none
  | .ktp l => if l.all flatD then some l else none
  | .lst l => if l.all flatD then some l else none
  | _ => none
def kIn (neg : Bool) (a b : D) : Option D := (flats b).bind fun l => if flatD a then some (.bl (if neg then !l.any (fun y => eqF y a) else l.any fun y => eqF y a)) else none
section
variable {X : Cx} {K : PySem.W.Frag}
theorem flat_ok {F : Hp} {v : V} {a : D} (r : Rep K F v a) (h : flatD a = true) : flatV v = true := by
  cases r <;> first | rfl | cases h
theorem eqF_ok {F : Hp} {v u : V} {a b : D} (r : Rep K F v a) (r' : Rep K F u b) (h : flatD a = true) (h' : flatD b = true) : eqV v u = eqF a b := by
  cases r <;> cases r' <;> first | rfl | cases h | cases h'
theorem flats_ok {F : Hp} : ∀ {vs : List V} {l : List D}, Reps K F vs l → l.all flatD = true → vs.all flatV = true ∧ ∀ {u : V} {b : D}, Rep K F u b → flatD b = true → vs.any (fun y => eqV y u) = l.any fun y => eqF y b
  | _, _, .nil, _ => ⟨rfl, fun _ _ => rfl⟩
  | _, _, .cons h r, e => by
    simp only [List.all_cons, Bool.and_eq_true] at e
    obtain ⟨h1, h2⟩ := flats_ok r e.2
    refine ⟨by simp [flat_ok h e.1, h1], fun r' h' => ?_⟩
    rw [List.any_cons, List.any_cons, eqF_ok h r' e.1 h', h2 r' h']
theorem ok_in {neg : Bool} : Op2 K (rIn K neg) (kIn neg) := by
  intro F H v u a b c Q s ra rb e q
  obtain ⟨l, e1, e⟩ := bnd e
  split at e
  · rename_i hf
    cases e
    have main : ∀ {p : Addr} {vs : List V}, u = .ref p → (SqL K H p vs ∨ SqT K H p vs) → Reps K F vs l → l.all flatD = true → rIn K neg v u H Q := fun {p vs} eu hs r hl => by
      obtain ⟨h1, h2⟩ := flats_ok r hl
      refine ⟨p, vs, eu, hs, flat_ok ra hf, h1, ?_⟩
      unfold inV
      rw [h2 ra hf]
      exact q _ F H (Ext.refl s) .bl
    unfold flats at e1
    split at e1
    · split at e1
      · rename_i hl
        cases e1
        cases rb with
        | tup h1 h2 => exact main rfl (.inr (SqT.of (s _ _ h1))) h2 hl
      · cases e1
    · split at e1
      · rename_i hl
        cases e1
        cases rb with
        | ktp h1 h2 => exact main rfl (.inr (Same.sqt s h1)) h2 hl
      · cases e1
    · split at e1
      · rename_i hl
        cases e1
        cases rb with
        | lst h1 h2 => exact main rfl (.inl (SqL.of (s _ _ h1))) h2 hl
      · cases e1
    · cases e1
  · cases e
end

/-! ### built-in functions -/
def kLen : List D → Option D
  | [.tup l] => some (.int l.length)
  | [.ktp l] => some (.int l.length)
  | [.lst l] => some (.int l.length)
  | [.scr l] => some (.int l.length)
  | [.str z] => if z.length ≤ 16777216 then some (.int z.length) else none
  | _ => none
def kAbs : List D → Option D
  | [.int i] => some (.int (if i < 0 then -i else i))
  | _ => none
def kMax2 : List D → Option D
  | [.int i, .int j] => some (.int (if j > i then j else i))
  | _ => none
def kMin2 : List D → Option D
  | [.int i, .int j] => some (.int (if j < i then j else i))
  | _ => none
def kInt : List D → Option D
  | [.int i] => some (.int i)
  | [.bl b] => some (.int (if b then 1 else 0))
  | _ => none
/-- bools, ints of a list -/
def blsOf : List D → Option (List Bool)
  | [] => some []
  | .bl b :: r => (blsOf r).bind fun bs => some (b :: bs)
  | _ :: _ => none
def intsOf : List D → Option (List Int)
  | [] => some []
  | .int b :: r => (intsOf r).bind fun bs => some (b :: bs)
  | _ :: _ => none
def kAny : List D → Option D
  | [.lst l] => (blsOf l).bind fun bs => some (.bl (bs.any id))
  | _ => none
def kAll : List D → Option D
  | [.lst l] => (blsOf l).bind fun bs => some (.bl (bs.all id))
  | _ => none
def kSum : List D → Option D
  | [.lst l] => (intsOf l).bind fun ns => some (.int ns.sum)
  | _ => none
section
variable {X : Cx} {K : PySem.W.Frag}
theorem blsOf_eq : ∀ {l : List D} {bs : List Bool}, blsOf l = some bs → l = bs.map D.bl
  | [], _, e => by cases e; rfl
  | .bl b :: r, _, e => by
    obtain ⟨bs, e1, e2⟩ := bnd e
    cases e2
    rw [blsOf_eq e1]; rfl
theorem intsOf_eq : ∀ {l : List D} {bs : List Int}, intsOf l = some bs → l = bs.map D.int
  | [], _, e => by cases e; rfl
  | .int b :: r, _, e => by
    obtain ⟨bs, e1, e2⟩ := bnd e
    cases e2
    rw [intsOf_eq e1]; rfl
theorem Reps.bls {F : Hp} : ∀ {vs : List V} {bs : List Bool}, Reps K F vs (bs.map D.bl) → vs = bs.map V.bl
  | _, [], r => by cases r; rfl
  | _, b :: bs, r => by
    cases r with
    | cons h r => cases h; rw [Reps.bls r]; rfl
theorem ok_len : OpL K (fun xs H Q => ∃ x n, xs = [x] ∧ LenV K x H n ∧ Q (.int n) H) kLen := by
  intro F H vs as c Q s r e q
  unfold kLen at e
  split at e
  · cases e
    cases r with
    | cons r rr =>
      cases rr
      cases r with
      | tup h1 h2 => exact ⟨_, _, rfl, .inr ⟨_, SqT.of (s _ _ h1), h2.length.symm⟩, q _ F H (Ext.refl s) .int⟩
  · cases e
    cases r with
    | cons r rr =>
      cases rr
      cases r with
      | ktp h1 h2 => exact ⟨_, _, rfl, .inr ⟨_, Same.sqt s h1, h2.length.symm⟩, q _ F H (Ext.refl s) .int⟩
  · cases e
    cases r with
    | cons r rr =>
      cases rr
      cases r with
      | lst h1 h2 => exact ⟨_, _, rfl, .inl ⟨_, SqL.of (s _ _ h1), h2.length.symm⟩, q _ F H (Ext.refl s) .int⟩
  · cases e
    cases r with
    | cons r rr =>
      cases rr
      cases r with
      | scr h1 => exact ⟨_, _, rfl, .inl ⟨_, s.seq h1, (List.length_map ..).symm⟩, q _ F H (Ext.refl s) .int⟩
  · split at e
    · rename_i hz
      cases e
      cases r with
      | cons r rr =>
        cases rr
        cases r
        exact ⟨_, _, rfl, ⟨by rw [sizeLine_eq]; exact hz, rfl⟩, q _ F H (Ext.refl s) .int⟩
    · cases e
  · cases e
theorem ok_abs : OpL K (fun xs H Q => ∃ i, xs = [.int i] ∧ Q (.int (if i < 0 then -i else i)) H) kAbs := by
  intro F H vs as c Q s r e q
  unfold kAbs at e
  split at e
  · cases e
    cases r with
    | cons r rr =>
      cases rr
      cases r
      exact ⟨_, rfl, q _ F H (Ext.refl s) .int⟩
  · cases e
theorem ok_max2 : OpL K (fun xs H Q => ∃ i j, xs = [.int i, .int j] ∧ Q (.int (if j > i then j else i)) H) kMax2 := by
  intro F H vs as c Q s r e q
  unfold kMax2 at e
  split at e
  · cases e
    cases r with
    | cons r rr =>
      cases rr with
      | cons r' rr =>
        cases rr
        cases r
        cases r'
        exact ⟨_, _, rfl, q _ F H (Ext.refl s) .int⟩
  · cases e
theorem ok_min2 : OpL K (fun xs H Q => ∃ i j, xs = [.int i, .int j] ∧ Q (.int (if j < i then j else i)) H) kMin2 := by
  intro F H vs as c Q s r e q
  unfold kMin2 at e
  split at e
  · cases e
    cases r with
    | cons r rr =>
      cases rr with
      | cons r' rr =>
        cases rr
        cases r
        cases r'
        exact ⟨_, _, rfl, q _ F H (Ext.refl s) .int⟩
  · cases e
theorem ok_int : OpL K (fun xs H Q => (∃ i, xs = [.int i] ∧ Q (.int i) H) ∨ ∃ k, xs = [.bl k] ∧ Q (.int (if k then 1 else 0)) H) kInt := by
  intro F H vs as c Q s r e q
  unfold kInt at e
  split at e
  · cases e
    cases r with
    | cons r rr =>
      cases rr
      cases r
      exact .inl ⟨_, rfl, q _ F H (Ext.refl s) .int⟩
  · cases e
    cases r with
    | cons r rr =>
      cases rr
      cases r
      exact .inr ⟨_, rfl, q _ F H (Ext.refl s) .int⟩
  · cases e
theorem ok_any : OpL K (rAny K) kAny := by
  intro F H vs as c Q s r e q
  unfold kAny at e
  split at e
  · obtain ⟨bs, e1, e⟩ := bnd e
    cases e
    cases r with
    | cons r rr =>
      cases rr
      cases r with
      | lst h1 h2 =>
        rw [blsOf_eq e1] at h2
        rw [Reps.bls h2] at h1
        exact ⟨_, bs, rfl, SqL.of (s _ _ h1), q _ F H (Ext.refl s) .bl⟩
  · cases e
theorem ok_all : OpL K (rAll K) kAll := by
  intro F H vs as c Q s r e q
  unfold kAll at e
  split at e
  · obtain ⟨bs, e1, e⟩ := bnd e
    cases e
    cases r with
    | cons r rr =>
      cases rr
      cases r with
      | lst h1 h2 =>
        rw [blsOf_eq e1] at h2
        rw [Reps.bls h2] at h1
        exact ⟨_, bs, rfl, SqL.of (s _ _ h1), q _ F H (Ext.refl s) .bl⟩
  · cases e
theorem ok_sum : OpL K (rSum K) kSum := by
  intro F H vs as c Q s r e q
  unfold kSum at e
  split at e
  · obtain ⟨bs, e1, e⟩ := bnd e
    cases e
    cases r with
    | cons r rr =>
      cases rr
      cases r with
      | lst h1 h2 =>
        rw [intsOf_eq e1] at h2
        rw [Reps.ints h2] at h1
        exact ⟨_, bs, rfl, SqL.of (s _ _ h1), q _ F H (Ext.refl s) .int⟩
  · cases e
end
end L3

namespace L3
open PySem L2

/-! ### sorting, as a function -/
def insBy {α : Type} (lt : α → α → Bool) (x : α) : List α → List α
  | [] => [x]
  | y :: r => if lt y x then y :: insBy lt x r else x :: y :: r
def sortBy {α : Type} (lt : α → α → Bool) : List α → List α
  | [] => []
  | x :: r => insBy lt x (sortBy lt r)
section
open SrtO
variable {α : Type} {lt : α → α → Bool}
theorem insBy_perm (x : α) : ∀ l : List α, (insBy lt x l).Perm (x :: l)
  | [] => List.Perm.refl _
  | y :: r => by
    unfold insBy
    split
    · exact ((insBy_perm x r).cons y).trans (List.Perm.swap x y r)
    · exact List.Perm.refl _
theorem sortBy_perm : ∀ l : List α, (sortBy lt l).Perm l
  | [] => List.Perm.refl _
  | x :: r => (insBy_perm x _).trans ((sortBy_perm r).cons x)
theorem insBy_srtd (O : Swo lt) (x : α) : ∀ {l : List α}, Srtd lt l → Srtd lt (insBy lt x l)
  | [], _ => srtd_one x
  | y :: r, h => by
    unfold insBy
    have h' := List.pairwise_cons.mp h
    split
    · rename_i e
      refine List.pairwise_cons.mpr ⟨fun z hz => ?_, insBy_srtd O x h'.2⟩
      rcases List.mem_cons.mp ((insBy_perm x r).mem_iff.mp hz) with rfl | hz
      · exact O.asym _ _ e
      · exact h'.1 z hz
    · rename_i e
      have e' : lt y x = false := by simpa using e
      refine List.pairwise_cons.mpr ⟨fun z hz => ?_, h⟩
      rcases List.mem_cons.mp hz with rfl | hz
      · exact e'
      · exact O.tr x y z e' (h'.1 z hz)
theorem sortBy_srtd (O : Swo lt) : ∀ l : List α, Srtd lt (sortBy lt l)
  | [] => List.Pairwise.nil
  | x :: r => insBy_srtd O x (sortBy_srtd O r)
theorem insBy_cls (O : Swo lt) (x z : α) : ∀ l : List α, (insBy lt x l).filter (eqv lt z) = (x :: l).filter (eqv lt z)
  | [] => rfl
  | y :: r => by
    unfold insBy
    split
    · rename_i e
      rw [List.filter_cons, insBy_cls O x z r]
      by_cases hx : eqv lt z x = true
      · have hy : eqv lt z y = false := by
          cases q : eqv lt z y with
          | false => rfl
          | true =>
            have := eqv_trans O (u := y) (v := x) q
            rw [hx] at this
            have := (eqv_iff.mp this.symm).1
            rw [e] at this; cases this
        simp [List.filter_cons, hx, hy]
      · simp [List.filter_cons, hx]
    · rfl
theorem sortBy_stb (O : Swo lt) : ∀ l : List α, Stb lt (sortBy lt l) l
  | [] => Stb.refl _
  | x :: r => ⟨sortBy_perm _, fun z => by
    show (insBy lt x (sortBy lt r)).filter _ = _
    rw [insBy_cls O, List.filter_cons, List.filter_cons, (sortBy_stb O r).cls z]⟩
theorem sortBy_only (O : Swo lt) {l m : List α} (h1 : Srtd lt m) (h2 : Stb lt m l) : m = sortBy lt l :=
  stb_uniq O h1 (sortBy_srtd O l) ⟨h2.perm.trans (sortBy_perm l).symm, fun x => (h2.cls x).trans ((sortBy_stb O l).cls x).symm⟩
end
def ltI (a b : Int) : Bool := decide (a < b)
theorem swoI : SrtO.Swo ltI := ⟨fun x y h => by simp [ltI] at *; omega, fun x y z h1 h2 => by simp [ltI] at *; omega⟩
/-- ints, in order -/
def isort (l : List Int) : List Int := sortBy ltI l
theorem perm_sorted_unique : ∀ {l m : List Int}, l.Perm m → l.Pairwise (· ≤ ·) → m.Pairwise (· ≤ ·) → l = m
  | [], m, p, _, _ => (List.Perm.eq_nil p.symm).symm
  | x :: l, [], p, _, _ => absurd p.length_eq (by simp)
  | x :: l, y :: m, p, h1, h2 => by
    have a := List.pairwise_cons.mp h1
    have b := List.pairwise_cons.mp h2
    have e : x = y := by
      have hx : x ∈ y :: m := p.mem_iff.mp List.mem_cons_self
      have hy : y ∈ x :: l := p.mem_iff.mpr List.mem_cons_self
      rcases List.mem_cons.mp hx with e | hx
      · exact e
      · rcases List.mem_cons.mp hy with e | hy
        · exact e.symm
        · have := b.1 x hx
          have := a.1 y hy
          omega
    subst e
    rw [perm_sorted_unique p.cons_inv a.2 b.2]
theorem isort_sorted (l : List Int) : (isort l).Pairwise (· ≤ ·) := (sortBy_srtd swoI l).imp fun {x y} h => by simp [ltI] at h; omega
theorem isort_only {l m : List Int} (p : m.Perm l) (h : m.Pairwise (· ≤ ·)) : m = isort l := perm_sorted_unique (p.trans (sortBy_perm l).symm) h (isort_sorted l)
/-- pairs of ints -/
def pairOf : D → Option (Int × Int)
  | .tup [.int a, .int b] => some (a, b)
  | _ => none
def pairsOf : List D → Option (List (Int × Int))
  | [] => some []
  | d :: r => (pairOf d).bind fun p => (pairsOf r).bind fun ps => some (p :: ps)
def dPair (p : Int × Int) : D := .tup [.int p.1, .int p.2]
def psort (l : List (Int × Int)) : List (Int × Int) := sortBy SrtO.lexB l
theorem pairOf_eq {d : D} {p : Int × Int} (h : pairOf d = some p) : d = dPair p := by
  unfold pairOf at h
  split at h
  · cases h; rfl
  · cases h
theorem pairsOf_eq : ∀ {l : List D} {ps : List (Int × Int)}, pairsOf l = some ps → l = ps.map dPair
  | [], _, e => by cases e; rfl
  | d :: r, _, e => by
    obtain ⟨p, e1, e⟩ := bnd e
    obtain ⟨ps, e2, e⟩ := bnd e
    cases e
    rw [pairOf_eq e1, pairsOf_eq e2]; rfl
theorem swoP : SrtO.Swo SrtO.lexB := ⟨fun x y h => SrtO.lexB_no.mpr (by have := SrtO.lexB_iff.mp h; omega), fun x y z h1 h2 => SrtO.lexB_no.mpr (by have := SrtO.lexB_no.mp h1; have := SrtO.lexB_no.mp h2; omega)⟩

/-! ### operations that make one fresh thing of what there is -/
def OpN (K : PySem.W.Frag) (r : List V → Hp → VK → Prop) (k : List D → Option D) : Prop := ∀ (F H : Hp) (vs : List V) (as : List D) (d : D) (Q : VK), Same F H → Reps K F vs as → k as = some d →
  (∀ l o, H l = none → ORep K F o d → Q (.ref l) (upd H l o)) → r vs H Q
/-- what is made: where a lent list was read nothing that may be changed lies in it -/
def finN (v : Bool) (c : D) (ρ : Env) : Option (D × Env) := if v || lfo c then some (c, ρ) else none
theorem finR_n {x : D} {b : Bool} {ρ : Env} : finR (.n x, b, ρ) = finN b x ρ := rfl
def nL (k : List D → Option D) (f : AM) : NM := fun ρ => (f ρ).bind fun p => (resAll p.2 p.1).bind fun as => (k as).bind fun c => finN (allVal p.1) c p.2
theorem Gd.opN {K : PySem.W.Frag} {g : Gx} {F H : Hp} {σ : St} {ρ ρ' : Env} (G : Gd K g F H σ ρ) {vl : Bool} {c d : D} {Q : VK} {R : VK → Prop} (hf : finN vl c ρ = some (d, ρ'))
    (q : ∀ l o F' H', Gd K g F' H' σ ρ' → Same F F' → H' l = some o → F' l = none → g.H0 l = none → g.pin l = none → (∀ i, ¬ OwnAt H' σ ρ' i l) → ORep K F' o d → Q (.ref l) H')
    (hv : vl = true → (∀ l o, H l = none → ORep K F o c → Q (.ref l) (upd H l o)) → R Q)
    (hl : (∀ l o, H l = none → ORep K (lent σ ρ F H) o c → Q (.ref l) (upd H l o)) → R Q) : R Q := by
  unfold finN at hf
  have done : ∀ {l : Addr} {o : HO}, H l = none → ORep K F o c → ρ' = ρ → d = c → Q (.ref l) (upd H l o) := fun {l o} hfree r e1 e2 => by
    subst e1; subst e2
    obtain ⟨G2, h1, h2, h3, h4⟩ := G.fresh hfree o
    exact q l o F _ G2 (Same.refl _) upd_same h1 h2 h3 h4 r
  cases vl with
  | true =>
    rw [Bool.true_or, if_pos rfl] at hf
    cases hf
    exact hv rfl fun l o h r => done h r rfl rfl
  | false =>
    rw [Bool.false_or] at hf
    split at hf
    · rename_i e
      cases hf
      refine hl fun l o h r => done h ?_ rfl rfl
      have hb : ∀ p o, lent σ ρ F H p = some o → isLst o = false → F p = some o := fun p o e q => by
        by_cases hh : ∃ i, OwnAt H σ ρ i p
        · obtain ⟨i, hh⟩ := hh
          obtain ⟨_, ws, hw, hlst, _⟩ := G.own hh
          rw [lent_at hh, hw] at e
          cases e
          rw [hlst] at q; cases q
        · rw [lent_no hh] at e; exact e
      exact r.cut hb e
    · cases hf
section
variable {X : Cx} {g : Gx} {ex : Expr} {es : List Expr} {fa : AM} {pos : Pos}
theorem opN_t {r : List V → Hp → VK → Prop} {k : List D → Option D} (hk : OpN X.K r k) {σ : St} {H : Hp} {Q : VK} (h : tN X.K g (nL k fa) σ H Q) : tCB r (tA X.K g fa) σ H Q := by
  obtain ⟨F, ρ, d, ρ', G, hf, q⟩ := h
  obtain ⟨p, e1, hf⟩ := bnd hf
  obtain ⟨x, e2, hf⟩ := bnd hf
  obtain ⟨c, e3, hf⟩ := bnd hf
  exact ⟨F, ρ, p.1, p.2, G, e1, fun v F1 H1 G1 s1 r1 => G1.opN (R := fun Q => r v H1 Q) hf (fun l o F' H' G' s' => q l o F' H' G' (s1.trans s')) (fun hv q' => hk F1 H1 v x c Q G1.sub (valOpds r1 e2 hv) e3 q')
    (fun q' => hk _ H1 v x c Q G1.lentH (G1.lentOpds r1 e2) e3 q')⟩
theorem dn_callB {id : String} {x : Str} {p : Pos} {r : List V → Hp → VK → Prop} {k : List D → Option D} (hc : CallR X (.builtin id) r) (hk : OpN X.K r k) (hg : Gl X x) (hm : X.mg x = none) (hv : bootBuiltins x = some (.builtin id)) (ha : DA X g (ex :: es) fa)
    (hn : x ≠ "__name__" := by decide) (hdb : (x == ("__debug__" : Str)) = false := by decide)
    (h1 : starEach (ex :: es) X.env = (false, eval ex X.env) :: starEach es X.env := by rfl) (h2 : (backTo pos (starEach es X.env)).any (·.1) = false := by rfl) : DN X g (.Call (.Name x p) (ex :: es) [] pos) (nL k fa) :=
  weakPE (pe_callB hc hg hm hv ha hn hdb h1 h2) fun _ _ _ h => opN_t hk h
theorem dn_callTy {id : String} {x : Str} {p : Pos} {r : List V → Hp → VK → Prop} {k : List D → Option D} (hc : CallR X (.type id) r) (hk : OpN X.K r k) (hg : Gl X x) (hm : X.mg x = none) (hv : bootBuiltins x = some (.type id)) (ha : DA X g (ex :: es) fa)
    (hn : x ≠ "__name__" := by decide) (hdb : (x == ("__debug__" : Str)) = false := by decide)
    (h1 : starEach (ex :: es) X.env = (false, eval ex X.env) :: starEach es X.env := by rfl) (h2 : (backTo pos (starEach es X.env)).any (·.1) = false := by rfl) : DN X g (.Call (.Name x p) (ex :: es) [] pos) (nL k fa) :=
  weakPE (pe_callTy hc hg hm hv ha hn hdb h1 h2) fun _ _ _ h => opN_t hk h
end

/-! ### sorted -/
def keyInts : List (Key × D) → Option (List Int)
  | [] => some []
  | (.inl i, _) :: r => (keyInts r).bind fun is => some (i :: is)
  | _ :: _ => none
def kSorted : List D → Option D
  | [.lst l] => match intsOf l with
    | some ns => some (.lst ((isort ns).map D.int))
    | none => (pairsOf l).bind fun ps => some (.lst ((psort ps).map dPair))
  | [.dk kvs] => (keyInts kvs).bind fun ns => some (.lst ((isort ns).map D.int))
  | _ => none
/-- sorted(d), the keys ints -/
def rSortedDI : List V → Hp → VK → Prop := fun xs H Q => ∃ (a : Addr) (kvs : List (Key × V)) (ks : List Int), xs = [.ref a] ∧ Rd H a (.dK kvs) ∧ kvs.map (·.1) = ks.map Sum.inl ∧
    ∀ (ys : List Int) (p : Addr), ys.Perm ks → ys.Pairwise (· ≤ ·) → H p = none → Q (.ref p) (upd H p (.lst (ys.map V.int)))
theorem ints_of_keys : ∀ {us : List Value} {ks : List Int}, us.length = ks.length → (∀ (j : Nat) (v : Value), us[j]? = some v → ∃ (x : Int) (t : Tok), ks[j]? = some x ∧ v = Value.int x t) → PyProof.Rows.IntsAre us ks
  | [], [], _, _ => .nil
  | u :: us, k :: ks, hl, h => by
    obtain ⟨x, t, e1, e2⟩ := h 0 u rfl
    cases Option.some.inj e1
    subst e2
    exact .cons _ _ (ints_of_keys (by simpa using hl) fun j v e => by
      obtain ⟨y, u, a, b⟩ := h (j + 1) v (by simpa using e)
      exact ⟨y, u, by simpa using a, b⟩)
  | [], _ :: _, hl, _ => by simp at hl
  | _ :: _, [], hl, _ => by simp at hl
theorem cr_sortedDI {X : Cx} (hcalm : X.calm = true) : CallR X (.builtin "sorted") rSortedDI := by
  intro pins s σ H xs us Q I r ⟨a, kvs, ks, ex, hd, hks, q⟩
  subst ex
  obtain ⟨u, eu, rx⟩ := vals1 r
  subst eu
  cases rx
  obtain ⟨z, lo, vs, rel, dd⟩ := dk_rd I.hok hd
  obtain ⟨ep, hat⟩ := dd.dictAt
  have hkeys : vs.map (·.1) = ks.map Sum.inl := rel.keys.symm.trans hks
  have hl : vs.length = ks.length := by
    have e := congrArg List.length hkeys
    simpa using e
  have hlk : kvs.length = ks.length := by
    have e := congrArg List.length hks
    simpa using e
  have h16 : vs.length ≤ sizeLine := by rw [hl, ← hlk]; exact z
  refine Calls.call_function_entry PyProof.Rows.kind_sorted PyProof.Rows.plain_sorted PyProof.Rows.entry_sorted (PyProof.Rows.args_sorted1 _) ?_
  unfold Builtin.«sorted»
  refine wpAny_bind (m := checkCount "sorted" 1 1 _) (wpAny_pure ?_)
  refine wpAny_bind (PySem.W.kdu_collect (A := X.A.in1) (PySem.W.kdl_dict (knd := mixKind X.prog X.w) (kvs := vs) (ep := ep) lo) (I.ok.hd hcalm) hat h16 fun h' tk acc hk hacc => ?_)
  have hal : acc.toList.length = ks.length := by rw [Array.length_toList, hacc.1, hl]
  have hS : PyProof.Rows.IntsAre acc.toList ks := ints_of_keys hal fun j v e => by
    obtain ⟨k, x, e1, e2⟩ := hacc.2 j v (by rw [← Array.getElem?_toList]; exact e)
    have e3 : (vs.map (·.1))[j]? = some k := by rw [List.getElem?_map, e1]; rfl
    rw [hkeys, List.getElem?_map] at e3
    cases e4 : ks[j]? with
    | none => rw [e4] at e3; cases e3
    | some y =>
      rw [e4] at e3
      cases Option.some.inj e3
      obtain ⟨t, ev⟩ := Value.isInt_shape (k := y) (v := v) e2
      exact ⟨y, t, rfl, ev⟩
  have I1 : Inv X pins σ H { s with heap := h', toks := tk } := I.kept hk
  have hz : acc.toList.length ≤ sizeLine := by rw [hal, ← hlk]; exact z
  refine wpAny_bind (wpAny_newList ?_ hz)
  have hoL : (h'.push (PyProof.Rows.seqObj "list" acc.toList.toArray 0)).get? h'.objs.size = some (PyProof.Rows.seqObj "list" acc.toList.toArray 0) := Heap.get?_push_size _ rfl
  show wpAny _ _ _ _ _ ({ s with heap := h'.push (PyProof.Rows.seqObj "list" acc.toList.toArray 0), toks := tk } : Shared)
  refine wpAny_bind (wpAny_holding (wpAny_call_entry PyProof.Rows.slot_list_sort ⟨_, hoL, rfl⟩ PyProof.Rows.entry_list_sort
    (SrtO.list_sort_ord SrtO.swo_int (s := { s with heap := h'.push (PyProof.Rows.seqObj "list" acc.toList.toArray 0), toks := tk }) hoL hz (fun h2 => SrtO.ints_sortable hS h2) fun out h1 h2 => ⟨_, rfl, ?_⟩)
    (PyProof.Rows.args_list_sort _)))
  obtain ⟨g1, g2, g3⟩ := SrtO.ints_out hS h1 h2
  obtain ⟨e', he'⟩ := PyProof.Rows.sortedHeap_at (vs := acc.toList) (out := out.toArray) hoL
  have hlen : ((out.map SrtO.iv).map V.int).length ≤ sizeLine := by
    rw [List.length_map, g2.length_eq, ← hlk]; exact z
  refine wpAny_pure ⟨_, rfl, .ref h'.objs.size, upd H h'.objs.size (.lst ((out.map SrtO.iv).map V.int)), I1.laid (t' := tk) (fun b u e => ?_) (Nat.le_refl _)
    (show ObjOk X.prog X.w _ _ _ (.lst ((out.map SrtO.iv).map V.int)) from ⟨hlen, out, e', vals_of_ints g1, he'⟩), rfl, q _ _ g2 g3 (I1.hok.fresh (Nat.le_refl _))⟩
  have hb : b < h'.objs.size := Heap.lt_size e
  rw [PyProof.Rows.sortedHeap_old (Nat.ne_of_lt hb) (by rw [Heap.size_push]; exact Nat.lt_succ_of_lt hb)]
  exact Heap.get?_push_of_some _ e
abbrev rSortedX (K : PySem.W.Frag) : List V → Hp → VK → Prop := fun xs H Q => rSortedI K xs H Q ∨ rSortedPO K xs H Q ∨ rSortedDI xs H Q
section
variable {X : Cx} {K : PySem.W.Frag}
theorem cr_sortedX (hc : X.calm = true) : CallR X (.builtin "sorted") (rSortedX X.K) := callr_or cr_sortedI (callr_or cr_sortedPO (cr_sortedDI hc))
/-- the sort of the values goes as the sort of what they stand for -/
theorem Reps.insBy {F : Hp} {lv : V → V → Bool} {ld : D → D → Bool} {v : V} {d : D} (h : Rep K F v d) : ∀ {vs : List V} {ds : List D}, Reps K F vs ds → (∀ (i : Nat) (u : V) (e : D), vs[i]? = some u → ds[i]? = some e → lv u v = ld e d) → Reps K F (L3.insBy lv v vs) (L3.insBy ld d ds)
  | _, _, .nil, _ => .cons h .nil
  | _, _, .cons (v := u) (d := e) a r, q => by
    unfold L3.insBy
    rw [q 0 u e rfl rfl]
    split
    · exact .cons a (Reps.insBy h r fun i u e h1 h2 => q (i + 1) u e (by simpa using h1) (by simpa using h2))
    · exact .cons h (.cons a r)
/-- a pair's value and the pair -/
def PairAt (K : PySem.W.Frag) (F : Hp) (k : V → Int × Int) (v : V) (p : Int × Int) : Prop := Rep K F v (dPair p) ∧ k v = p
theorem pairs_insBy {F : Hp} {k : V → Int × Int} {v : V} {p : Int × Int} (h : PairAt K F k v p) : ∀ {vs : List V} {ps : List (Int × Int)}, Paired (PairAt K F k) vs ps → Paired (PairAt K F k) (L3.insBy (ltP k) v vs) (L3.insBy SrtO.lexB p ps)
  | _, _, .nil => .cons h .nil
  | u :: _, z :: _, .cons a r => by
    unfold L3.insBy
    have e : ltP k u v = SrtO.lexB z p := by show SrtO.lexB (k u) (k v) = _; rw [a.2, h.2]
    rw [e]
    split
    · exact .cons a (pairs_insBy h r)
    · exact .cons h (.cons a r)
theorem pairs_sortBy {F : Hp} {k : V → Int × Int} : ∀ {vs : List V} {ps : List (Int × Int)}, Paired (PairAt K F k) vs ps → Paired (PairAt K F k) (sortBy (ltP k) vs) (sortBy SrtO.lexB ps)
  | _, _, .nil => .nil
  | _, _, .cons a r => pairs_insBy a (pairs_sortBy r)
theorem pairs_reps {F : Hp} {k : V → Int × Int} : ∀ {vs : List V} {ps : List (Int × Int)}, Paired (PairAt K F k) vs ps → Reps K F vs (ps.map dPair)
  | _, _, .nil => .nil
  | _, _, .cons a r => .cons a.1 (pairs_reps r)
open Classical in
noncomputable def pairKey (K : PySem.W.Frag) (F : Hp) (v : V) : Int × Int := if h : ∃ p : Int × Int, ∃ t, v = .ref t ∧ F t = some (.tup [.int p.1, .int p.2]) then Classical.choose h else (0, 0)
theorem pairKey_eq {F : Hp} {v : V} {p : Int × Int} (r : Rep K F v (dPair p)) : pairKey K F v = p ∧ ∃ t, v = .ref t ∧ F t = some (.tup [.int p.1, .int p.2]) := by
  cases r with
  | @tup t vs ds h r =>
    cases r with
    | cons a r =>
      cases r with
      | cons b r =>
        cases r
        cases a; cases b
        have hh : ∃ q : Int × Int, ∃ s, V.ref t = .ref s ∧ F s = some (.tup [.int q.1, .int q.2]) := ⟨p, t, rfl, h⟩
        refine ⟨?_, t, rfl, h⟩
        unfold pairKey
        rw [dif_pos hh]
        obtain ⟨s, e1, e2⟩ := Classical.choose_spec hh
        cases e1
        rw [h] at e2
        have z := HO.tup.inj (Option.some.inj e2)
        exact Prod.ext (V.int.inj (List.cons.inj z).1).symm (V.int.inj (List.cons.inj (List.cons.inj z).2).1).symm
theorem pairs_at {F : Hp} : ∀ {vs : List V} {ps : List (Int × Int)}, Reps K F vs (ps.map dPair) → Paired (PairAt K F (pairKey K F)) vs ps
  | _, [], .nil => .nil
  | _, p :: ps, .cons h r => .cons ⟨h, (pairKey_eq h).1⟩ (pairs_at r)
theorem Paired.mem_left {α β : Type} {R : α → β → Prop} : ∀ {l : List α} {m : List β}, Paired R l m → ∀ x ∈ l, ∃ y ∈ m, R x y
  | _, _, .nil, x, h => by simp at h
  | _, _, .cons a r, x, h => by
    rcases List.mem_cons.mp h with rfl | h
    · exact ⟨_, List.mem_cons_self, a⟩
    · obtain ⟨y, h1, h2⟩ := Paired.mem_left r x h
      exact ⟨y, List.mem_cons_of_mem _ h1, h2⟩
theorem keyInts_eq {F : Hp} : ∀ {vs : List (Key × V)} {kvs : List (Key × D)} {ns : List Int}, RepK K F vs kvs → keyInts kvs = some ns → vs.map (·.1) = ns.map Sum.inl
  | _, _, _, .nil, e => by cases e; rfl
  | _, _, _, .cons (n := .inl i) h r, e => by
    obtain ⟨is, e1, e2⟩ := bnd e
    cases e2
    simp [keyInts_eq r e1]
  | _, _, _, .cons (n := .inr i) h r, e => by cases e
theorem ok_sorted : OpN K (rSortedX K) kSorted := by
  intro F H vs as c Q s r e q
  unfold kSorted at e
  split at e
  · rename_i l
    cases r with
    | cons r rr =>
      cases rr
      cases r with
      | lst h1 h2 =>
        split at e
        · rename_i ns e1
          cases e
          rw [intsOf_eq e1] at h2
          rw [Reps.ints h2] at h1
          exact .inl ⟨_, ns, rfl, SqL.of (s _ _ h1), fun ns' p h3 h4 hp => by
            rw [isort_only h3 h4]
            exact q p _ hp (.lst (reps_ints _))⟩
        · obtain ⟨ps, e1, e⟩ := bnd e
          cases e
          rw [pairsOf_eq e1] at h2
          have pa := pairs_at h2
          refine .inr (.inl ⟨_, _, pairKey K F, rfl, SqL.of (s _ _ h1), fun x hx => ?_, fun ys p h3 h4 hp => ?_⟩)
          · obtain ⟨y, _, hy⟩ := Paired.mem_left pa x hx
            obtain ⟨_, t, e1, e2⟩ := pairKey_eq hy.1
            rw [hy.2]
            exact ⟨t, e1, s _ _ e2⟩
          · rw [sortBy_only (ltP_swo _) h3 h4]
            exact q p _ hp (.lst (pairs_reps (pairs_sortBy pa)))
  · cases r with
    | cons r rr =>
      cases rr
      cases r with
      | dk h1 h2 =>
        obtain ⟨ns, e1, e⟩ := bnd e
        cases e
        exact .inr (.inr ⟨_, _, ns, rfl, .inl (s _ _ h1), keyInts_eq h2 e1, fun ys p h3 h4 hp => by
          rw [isort_only h3 h4]
          exact q p _ hp (.lst (reps_ints _))⟩)
  · cases e
end

/-! ### own lists and dicts changed -/
def sApp (i : Nat) (f : EM) : SM := fun ρ => match ρ[i]? with
  | some (some (.own _ (.lst _))) => (f ρ).bind fun p => match p.2[i]? with
    | some (some (.own t (.lst xs))) => if xs.length < 16777216 then some (.nx, p.2.set i (some (.own t (.lst (xs ++ [p.1]))))) else none
    | _ => none
  | _ => none
def isOwn (ρ : Env) (i : Nat) : Bool := match ρ[i]? with
  | some (some (.own _ _)) => true
  | _ => false
def sPutL (i : Nat) (fv fi : EM) : SM := fun ρ => (fv ρ).bind fun p => if isOwn p.2 i then (fi p.2).bind fun q => match q.2[i]? with
  | some (some (.own t (.lst xs))) => match q.1 with
    | .int k => (ixN xs.length k).bind fun j => some (.nx, q.2.set i (some (.own t (.lst (xs.set j p.1)))))
    | _ => none
  | _ => none
  else none
def putD (kvs : List (Key × D)) (k : Key) (v : D) : List (Key × D) :=
  if (kvs.any fun kv => decide (kv.1 = k)) = true then kvs.map (fun kv => if kv.1 = k then (kv.1, v) else kv) else kvs ++ [(k, v)]
def valD (kvs : List (Key × D)) (k : Key) : Option D := (kvs.find? fun kv => decide (kv.1 = k)).map (·.2)
def keyOf : D → Option Key
  | .int i => some (.inl i)
  | .str x => some (.inr x)
  | _ => none
def sPutD (i : Nat) (fv fi : EM) : SM := fun ρ => (fv ρ).bind fun p => if isOwn p.2 i then (fi p.2).bind fun q => match q.2[i]? with
  | some (some (.own t (.dk kvs))) => (keyOf q.1).bind fun k => if kvs.length < 16777216 then some (.nx, q.2.set i (some (.own t (.dk (putD kvs k p.1))))) else none
  | _ => none
  else none
theorem isOwn_at {K : PySem.W.Frag} {g : Gx} {F H : Hp} {σ : St} {ρ : Env} (G : Gd K g F H σ ρ) {i : Nat} (h : isOwn ρ i = true) : ∃ l, σ[i]? = some (some (.ref l)) := by
  unfold isOwn at h
  split at h
  · rename_i t x hx
    obtain ⟨l, o, hv, _⟩ := G.slot i _ hx
    exact ⟨l, hv⟩
  · cases h
section
variable {K : PySem.W.Frag} {F : Hp}
theorem RepK.length : ∀ {vs : List (Key × V)} {ds : List (Key × D)}, RepK K F vs ds → vs.length = ds.length
  | _, _, .nil => rfl
  | _, _, .cons _ r => by simp [RepK.length r]
theorem RepK.append : ∀ {vs ws : List (Key × V)} {ds es : List (Key × D)}, RepK K F vs ds → RepK K F ws es → RepK K F (vs ++ ws) (ds ++ es)
  | _, _, _, _, .nil, q => q
  | _, _, _, _, .cons h r, q => .cons h (RepK.append r q)
theorem RepK.any (k : Key) : ∀ {vs : List (Key × V)} {ds : List (Key × D)}, RepK K F vs ds → (vs.any fun kv => decide (kv.1 = k)) = ds.any fun kv => decide (kv.1 = k)
  | _, _, .nil => rfl
  | _, _, .cons _ r => by rw [List.any_cons, List.any_cons, RepK.any k r]
theorem RepK.put {v : V} {d : D} (k : Key) (h : Rep K F v d) {vs : List (Key × V)} {ds : List (Key × D)} (r : RepK K F vs ds) : RepK K F (putK vs k v) (putD ds k d) := by
  unfold putK putD
  rw [r.any k]
  have mp : ∀ {vs : List (Key × V)} {ds : List (Key × D)}, RepK K F vs ds → RepK K F (vs.map fun kv => if kv.1 = k then (kv.1, v) else kv) (ds.map fun kv => if kv.1 = k then (kv.1, d) else kv) := by
    intro vs
    induction vs with
    | nil => intro ds r; cases r; exact .nil
    | cons a vs ih =>
      intro ds r
      cases r with
      | cons a r =>
        simp only [List.map_cons]
        split
        · exact .cons h (ih r)
        · exact .cons a (ih r)
  split
  · exact mp r
  · exact r.append (.cons h .nil)
theorem RepK.val (k : Key) : ∀ {vs : List (Key × V)} {ds : List (Key × D)}, RepK K F vs ds → (∀ d, valD ds k = some d → ∃ v, valV vs k = some v ∧ Rep K F v d) ∧ (valD ds k = none → valV vs k = none)
  | _, _, .nil => ⟨fun _ e => by simp [valD] at e, fun _ => rfl⟩
  | _, _, .cons (n := n) (v := v) (d := d) h r => by
    obtain ⟨h1, h2⟩ := RepK.val k r
    unfold valD valV at *
    by_cases e : n = k
    · simp only [List.find?_cons, e, decide_true]
      exact ⟨fun d' e => by cases e; exact ⟨_, rfl, h⟩, fun e => by cases e⟩
    · simp only [List.find?_cons, e, decide_false]
      exact ⟨h1, h2⟩
theorem keyOf_kV {v : V} {d : D} {k : Key} (r : Rep K F v d) (e : keyOf d = some k) : v = kV k := by
  unfold keyOf at e
  split at e
  · cases r; cases e; rfl
  · cases r; cases e; rfl
  · cases e
end
theorem ownLst {K : PySem.W.Frag} {F : Hp} {o : HO} {ds : List D} (h : ORep K F o (.lst ds)) : ∃ vs, o = .lst vs ∧ Reps K F vs ds := by
  cases h with | lst r => exact ⟨_, rfl, r⟩
theorem ownDk {K : PySem.W.Frag} {F : Hp} {o : HO} {ds : List (Key × D)} (h : ORep K F o (.dk ds)) : ∃ vs, o = .dK vs ∧ RepK K F vs ds := by
  cases h with | dk r => exact ⟨_, rfl, r⟩
section
variable {X : Cx} {g : Gx} {st : Stmt} {ex : Expr} {f fv fi : EM} {i : Nat} {pos : Pos}
/-- slot[..].append(e) -/
theorem ds_app (h : PE X ex (tBM X.K "list" rAppend (tVar i) (tCons (tE X.K g f) tNil))) (hs : swapsWith ex none pos.line X.env = pure false := by rfl) : DS X g (.Expr ex pos) (sApp i f) :=
  weakPS (ps_expr h hs) fun D σ H ⟨F, ρ, out, ρ', G, hf, q⟩ => by
  unfold sApp at hf
  split at hf
  · rename_i t0 xs0 hx0
    obtain ⟨p, e1, hf⟩ := bnd hf
    split at hf
    · rename_i t xs hx
      split at hf
      · rename_i hl
        cases hf
        obtain ⟨l0, o0, hv, _, _, hl0, r0⟩ := G.slot i _ hx0
        obtain ⟨vs0, rfl, _⟩ := ownLst r0
        refine ⟨_, hv, .inl ⟨rfl, _, SqL.of hl0⟩, F, ρ, p.1, p.2, G, e1, fun w F' H' G' s' r => ?_⟩
        obtain ⟨l, o, hv', _, _, hl1, r1⟩ := G'.slot i _ hx
        rw [hv] at hv'
        cases hv'
        obtain ⟨vs, rfl, r4⟩ := ownLst r1
        exact ⟨l0, vs, w, rfl, rfl, hl1, by rw [r4.length, sizeLine_eq]; exact hl, q σ F' _ (G'.updOwn hx hv (.lst (r4.append (.cons r .nil)))) s'⟩
      · cases hf
    · cases hf
  · cases hf
/-- slot[k] = e, a list -/
theorem ds_putL (h : PS X st (tAsg (tE X.K g fv) (gSub (tVar i) (tE X.K g fi) rSetL))) : DS X g st (sPutL i fv fi) :=
  weakPS h fun D σ H ⟨F, ρ, out, ρ', G, hf, q⟩ => by
  obtain ⟨p, e1, hf⟩ := bnd hf
  split at hf
  · rename_i ho
    obtain ⟨p2, e2, hf⟩ := bnd hf
    obtain ⟨d2, ρ2⟩ := p2
    split at hf
    · rename_i t xs hx
      cases d2 with
      | int k =>
        obtain ⟨j, e3, hf⟩ := bnd hf
        cases hf
        refine ⟨F, ρ, p.1, p.2, G, e1, fun w F1 H1 G1 s1 r1 => ?_⟩
        obtain ⟨l, hv⟩ := isOwn_at G1 ho
        refine ⟨_, hv, F1, p.2, _, ρ2, G1, e2, fun kv F2 H2 G2 s2 r2 => ?_⟩
        cases r2
        obtain ⟨l', o, hv', _, _, hl1, r3⟩ := G2.slot i _ hx
        rw [hv] at hv'
        cases hv'
        obtain ⟨vs, rfl, r4⟩ := ownLst r3
        exact ⟨l, vs, k, j, rfl, rfl, hl1, by rw [r4.length]; exact e3, q σ F2 _ (G2.updOwn hx hv (.lst (r4.set (r1.mono s2) j))) (s1.trans s2)⟩
      | _ => cases hf
    · cases hf
  · cases hf
/-- slot[k] = e, a dict -/
theorem ds_putD (h : PS X st (sDPut (tVar i) (tE X.K g fi) (tE X.K g fv))) : DS X g st (sPutD i fv fi) :=
  weakPS h fun D σ H ⟨F, ρ, out, ρ', G, hf, q⟩ => by
  obtain ⟨p, e1, hf⟩ := bnd hf
  split at hf
  · rename_i ho
    obtain ⟨p2, e2, hf⟩ := bnd hf
    obtain ⟨d2, ρ2⟩ := p2
    split at hf
    · rename_i t xs hx
      obtain ⟨k, e3, hf⟩ := bnd hf
      split at hf
      · rename_i hz
        cases hf
        refine ⟨F, ρ, p.1, p.2, G, e1, fun w F1 H1 G1 s1 r1 => ?_⟩
        obtain ⟨l, hv⟩ := isOwn_at G1 ho
        refine ⟨_, hv, F1, p.2, _, ρ2, G1, e2, fun kv F2 H2 G2 s2 r2 => ?_⟩
        obtain ⟨l', o, hv', _, _, hl1, r3⟩ := G2.slot i _ hx
        rw [hv] at hv'
        cases hv'
        obtain ⟨vs, rfl, r4⟩ := ownDk r3
        exact ⟨l, _, rfl, .inl ⟨vs, k, hl1, keyOf_kV r2 e3, by rw [r4.length, sizeLine_eq]; exact hz, rfl⟩, q σ F2 _ (G2.updOwn hx hv (.dk (r4.put k (r1.mono s2)))) (s1.trans s2)⟩
      · cases hf
    · cases hf
  · cases hf
end

/-! ### dicts displayed, asked -/
def dspLoop : List (EM × EM) → List (Key × D) → NM
  | [], acc, ρ => some (.dk acc, ρ)
  | (fk, fv) :: r, acc, ρ => (fk ρ).bind fun p => (fv p.2).bind fun q => (keyOf p.1).bind fun k => dspLoop r (putD acc k q.1) q.2
def nDsp (l : List (EM × EM)) : NM := dspLoop l []
def kGet (a b : D) : Option D := match a with
  | .dk kvs => (keyOf b).bind fun k => valD kvs k
  | _ => none
def kInD (neg : Bool) (a b : D) : Option D := match b with
  | .dk kvs => (keyOf a).bind fun k => some (.bl (if neg then !(valD kvs k).isSome else (valD kvs k).isSome))
  | _ => none
def rDGet : R2 := fun x y H Q => ∃ a v, x = .ref a ∧ DGet H a y (some v) ∧ Q v H
def rDIn (neg : Bool) : R2 := fun y x H Q => ∃ a o, x = .ref a ∧ DGet H a y o ∧ Q (.bl (if neg then !o.isSome else o.isSome)) H
section
variable {X : Cx} {K : PySem.W.Frag} {g : Gx} {ex : Expr} {f1 f2 : OM}
theorem ok_dget : Op2 K rDGet kGet := by
  intro F H v u a b c Q s ra rb e q
  unfold kGet at e
  split at e
  · obtain ⟨k, e1, e⟩ := bnd e
    cases ra with
    | dk h1 h2 =>
      obtain ⟨w, e2, r⟩ := (h2.val k).1 _ e
      refine ⟨_, w, rfl, ?_, q w F H (Ext.refl s) r⟩
      rw [keyOf_kV rb e1, ← e2]
      exact DGet.k (s _ _ h1)
  · cases e
theorem ok_din {neg : Bool} : Op2 K (rDIn neg) (kInD neg) := by
  intro F H v u a b c Q s ra rb e q
  unfold kInD at e
  split at e
  · obtain ⟨k, e1, e⟩ := bnd e
    cases e
    rename_i kvs
    cases rb with
    | @dk p vs _ h1 h2 =>
      have e2 : (valV vs k).isSome = (valD kvs k).isSome := by
        cases hd : valD kvs k with
        | none => rw [(h2.val k).2 hd]; rfl
        | some d => obtain ⟨w, e2, _⟩ := (h2.val k).1 d hd; rw [e2]; rfl
      refine ⟨p, valV vs k, rfl, ?_, ?_⟩
      · rw [keyOf_kV ra e1]
        exact DGet.k (s _ _ h1)
      · rw [e2]
        exact q _ F H (Ext.refl s) .bl
  · cases e
theorem de_dget (h : PE X ex (tDGet (tO X.K g f1) (tO X.K g f2))) : DE X g ex (e2 kGet f1 f2) := weakPE h fun σ H Q q => op2_t (r := rDGet) ok_dget q
theorem de_din (h : PE X ex (tDIn (tO X.K g f1) (tO X.K g f2))) : DE X g ex (e2 (kInD false) f1 f2) := weakPE h fun σ H Q q => op2_t (r := rDIn false) ok_din q
theorem de_dnotin (h : PE X ex (tDNotIn (tO X.K g f1) (tO X.K g f2))) : DE X g ex (e2 (kInD true) f1 f2) := weakPE h fun σ H Q q => op2_t (r := rDIn true) ok_din q
theorem dt_din (h : PT X ex (tB (tDIn (tO X.K g f1) (tO X.K g f2)))) : DT X g ex (tV (e2 (kInD false) f1 f2)) := weakPT h fun σ H Q q => tV_t (te := tDIn (tO X.K g f1) (tO X.K g f2)) (fun _ _ _ z => op2_t (r := rDIn false) ok_din z) q
theorem dt_dnotin (h : PT X ex (tB (tDNotIn (tO X.K g f1) (tO X.K g f2)))) : DT X g ex (tV (e2 (kInD true) f1 f2)) := weakPT h fun σ H Q q => tV_t (te := tDNotIn (tO X.K g f1) (tO X.K g f2)) (fun _ _ _ z => op2_t (r := rDIn true) ok_din z) q
end
section
variable {K : PySem.W.Frag} {g : Gx}
theorem putD_merge {F : Hp} {acc : List (Key × D)} {vs : List (Key × V)} (r : RepK K F vs acc) {k : Key} {v : V} {d : D} (h : Rep K F v d) : RepK K F (putK vs k v) (putD acc k d) := r.put k h
/-- the pairs of a display; a is the dict's place, empty meanwhile -/
theorem dsp_t {a : Addr} : ∀ {l : List (EM × EM)} {acc : List (Key × D)} {vs : List (Key × V)} {F H : Hp} {σ : St} {ρ ρ' : Env} {d : D} {R : List (V × V) → Hp → Prop}, Gd K (g.also a (.dK [])) F H σ ρ → RepK K F vs acc → dspLoop l acc ρ = some (d, ρ') →
    (∀ kvs ws F' H', Gd K (g.also a (.dK [])) F' H' σ ρ' → Same F F' → RepK K F' ws (match d with | .dk z => z | _ => []) → (∃ z, d = .dk z) → ws = mergeK vs kvs → kvs.length = l.length → R (kvs.map fun kv => (kV kv.1, kv.2)) H') →
    tPairs (l.map fun p => (tEx K p.1, tEx K p.2)) σ H R
  | [], acc, vs, F, H, σ, ρ, ρ', d, R, G, r, e, q => by
    cases e
    exact q [] vs F H G (Same.refl _) r ⟨_, rfl⟩ rfl rfl
  | (fk, fv) :: l, acc, vs, F, H, σ, ρ, ρ', d, R, G, r, e, q => by
    unfold dspLoop at e
    obtain ⟨p, e1, e⟩ := bnd e
    obtain ⟨p2, e2, e⟩ := bnd e
    obtain ⟨k, e3, e⟩ := bnd e
    refine ⟨_, F, ρ, p.1, p.2, G, e1, fun kv F1 H1 G1 s1 r1 => ⟨_, F1, p.2, p2.1, p2.2, G1, e2, fun w F2 H2 G2 s2 r2 => ?_⟩⟩
    refine dsp_t (vs := putK vs k w) (acc := putD acc k p2.1) G2 ((r.mono (s1.trans s2)).put k r2) e fun kvs ws F' H' G' s' rr dz hw hl => ?_
    rw [keyOf_kV r1 e3]
    exact q ((k, w) :: kvs) ws F' H' G' ((s1.trans s2).trans s') rr dz hw (by simp [hl])
end
section
variable {X : Cx} {g : Gx} {keys : List (Option Expr)} {values : List Expr} {l : List (EM × EM)} {pos : Pos}
theorem dn_dsp (h : PPs X pos keys values (l.map fun p => (tEx X.K p.1, tEx X.K p.2))) (hall : keys.all (·.isSome) = true) (hl : keys.length = values.length) (h0 : keys ≠ []) (h15 : keys.length ≤ 15) (hk : l.length ≤ 15) :
    DN X g (.Dict keys values pos) (nDsp l) := weakPE (pe_disp h hall hl h0 h15) fun σ H Q ⟨F, ρ, d, ρ', G, hf, q⟩ => by
  intro a ha
  obtain ⟨G1, f1, n1, p1, no1⟩ := G.fresh ha (.dK [])
  refine dsp_t (g := g) (vs := []) (G1.pin upd_same f1 no1) .nil hf fun kvs ws F' H' G' s' rr ⟨z, hz⟩ hw hlen => ?_
  subst hz
  obtain ⟨G2, l2, f2, no2⟩ := G'.unpin p1
  refine ⟨l2, kvs, rfl, by rw [hlen]; exact hk, ?_⟩
  rw [← hw]
  exact q a _ F' _ (G2.updFree f2 n1 p1 no2) s' upd_same f2 n1 p1 (fun j z => no2 j (G2.ownUpd no2 z)) (.dk rr)
end
end L3

namespace L3
open PySem L2

/-! ### fields -/
def putFD (f : Str) (v : D) : List (Str × D) → List (Str × D)
  | [] => [(f, v)]
  | (n, x) :: r => if n = f then (n, v) :: r else (n, x) :: putFD f v r
section
variable {K : PySem.W.Frag} {F : Hp}
theorem RepF.put {f : Str} {v : V} {d : D} (h : Rep K F v d) : ∀ {vs : List (Str × V)} {ds : List (Str × D)}, RepF K F vs ds → RepF K F (putF f v vs) (putFD f d ds)
  | _, _, .nil => .cons h .nil
  | _, _, .cons (n := n) a r => by
    unfold putF putFD
    split
    · exact .cons h r
    · exact .cons a (RepF.put h r)
theorem RepF.length : ∀ {vs : List (Str × V)} {ds : List (Str × D)}, RepF K F vs ds → vs.length = ds.length
  | _, _, .nil => rfl
  | _, _, .cons _ r => by simp [RepF.length r]
theorem RepF.get (f : Str) : ∀ {vs : List (Str × V)} {ds : List (Str × D)}, RepF K F vs ds → (∀ d, ds.lookup f = some d → ∃ v, vs.lookup f = some v ∧ Rep K F v d) ∧ (ds.lookup f = none → vs.lookup f = none)
  | _, _, .nil => ⟨fun _ e => by simp at e, fun _ => rfl⟩
  | _, _, .cons (n := n) (v := v) (d := d) a r => by
    obtain ⟨h1, h2⟩ := RepF.get f r
    simp only [List.lookup]
    by_cases e : f == n
    · simp only [e]
      exact ⟨fun d' q => by cases q; exact ⟨v, rfl, a⟩, fun q => by cases q⟩
    · simp only [e]
      exact ⟨h1, h2⟩
end
/-- slot[..].f = e, an instance of the class at C -/
def sFld' (i : Nat) (C : Addr) (f : Str) (fv : EM) : SM := fun ρ => (fv ρ).bind fun p => match p.2[i]? with
  | some (some (.own t (.ins C' gs))) => if C' = C ∧ gs.length < 1000 then some (.nx, p.2.set i (some (.own t (.ins C' (putFD f p.1 gs))))) else none
  | _ => none
def kFld (C : Addr) (f : Str) (a : D) : Option D := match a with
  | .ins C' gs => if C' = C then gs.lookup f else none
  | _ => none
theorem ownIns {K : PySem.W.Frag} {F : Hp} {o : HO} {C : Addr} {ds : List (Str × D)} (h : ORep K F o (.ins C ds)) : ∃ dx vs, o = .ins C dx vs ∧ RepF K F vs ds := by
  cases h with | ins r => exact ⟨_, _, rfl, r⟩
section
variable {X : Cx} {g : Gx} {st : Stmt} {ex : Expr} {fv : EM} {fo : OM} {i : Nat} {C : Addr} {f : Str}
theorem ds_fld (c : Cls X.K C) (n : NoAttr X.K C f) (h : PS X st (sFld X.K (tVar i) (tE X.K g fv) f)) : DS X g st (sFld' i C f fv) :=
  weakPS h fun D σ H ⟨F, ρ, out, ρ', G, hf, q⟩ => by
  obtain ⟨p, e1, hf⟩ := bnd hf
  split at hf
  · rename_i t C' gs hx
    split at hf
    · rename_i hc
      have hcc := hc.1
      have hl := hc.2
      cases hf
      subst hcc
      refine ⟨F, ρ, p.1, p.2, G, e1, fun w F1 H1 G1 s1 r1 => ?_⟩
      obtain ⟨l, o, hv, _, _, hl1, r3⟩ := G1.slot i _ hx
      obtain ⟨dx, vs, rfl, r4⟩ := ownIns r3
      exact ⟨_, hv, l, _, dx, vs, rfl, hl1, c, n, by rw [r4.length]; exact hl, q σ F1 _ (G1.updOwn hx hv (.ins (r4.put r1))) s1⟩
    · cases hf
  · cases hf
def rFld (K : PySem.W.Frag) (f : Str) : V → Hp → VK → Prop := fun x H1 Q => ∃ a C dx fs v, x = .ref a ∧ H1 a = some (.ins C dx fs) ∧ Cls K C ∧ NoAttr K C f ∧ fs.lookup f = some v ∧ Q v H1
theorem ok_fld {K : PySem.W.Frag} (c : Cls K C) (n : NoAttr K C f) : Op1 K (rFld K f) (kFld C f) := by
  intro F H v a d Q s ra e q
  unfold kFld at e
  split at e
  · split at e
    · rename_i hc
      subst hc
      cases ra with
      | ins h1 h2 =>
        obtain ⟨w, e1, r⟩ := (h2.get f).1 _ e
        exact ⟨_, _, _, _, w, rfl, s _ _ h1, c, n, e1, q w F H (Ext.refl s) r⟩
    · cases e
  · cases e
theorem de_fld (c : Cls X.K C) (n : NoAttr X.K C f) (h : PE X ex (tFld X.K (tO X.K g fo) f)) : DE X g ex (e1 (kFld C f) fo) :=
  weakPE h fun σ H Q q => op1_t (r := rFld X.K f) (ok_fld c n) q
end

/-! ### calls, once the operands are there -/
def callO (fm : FM) (dds : List D) (os : List Opd) (ρ : Env) : Option (Res × Bool × Env) := if (ios os).Nodup ∧ okOs os (ios os) = true then (argsOf ρ os).bind fun as => (fm (as ++ dds.map A.v)).bind fun r =>
  (putOuts os r.2 ρ).bind fun ρ2 => if hasRef os = false ∨ r.2.all lfo = true then some (r.1, !hasRef os, ρ2) else none
  else none
theorem callM_eq (fm : FM) (dds : List D) (fa : AM) (ρ : Env) : callM fm dds fa ρ = (fa ρ).bind fun p => callO fm dds p.1 p.2 := rfl
section
variable {K : PySem.W.Frag} {g : Gx} {fm : FM} {dds : List D} {dvs : List V} {E : XK}
/-- what a call hands back -/
theorem callO_t (hdd : ∀ F, Reps K F dvs dds) {F H : Hp} {σ : L2.St} {ρ ρ2 : Env} {os : List Opd} {vs : List V} (G : Gd K g F H σ ρ) (r : OpdsOk K F σ vs os) {rr : Res} {nr : Bool} {R : VK} (hm : callO fm dds os ρ = some (rr, nr, ρ2))
    (q : ∀ v F1 F2 H2 ad, (∀ {w : V} {d : D}, (nr = false → lf d = true) → Rep K F1 w d → Rep K F2 w d) → (∀ {w : HO} {d : D}, (nr = false → lfo d = true) → ORep K F1 w d → ORep K F2 w d) → (∀ {w : HO} {d : D}, (nr = false → lfo d = true) → TRep K F1 H2 w d → TRep K F2 H2 w d) →
      (∀ b, H b = none → F1 b = none → b ∉ ad → F2 b = none ∧ g.H0 b = none ∧ g.pin b = none ∧ ∀ i, ¬ OwnAt H2 σ ρ2 i b) → Gd K g F2 H2 σ ρ2 → Same F F2 → ResOk K H F1 H2 ad v rr → R v H2) : spF K fm (vs ++ dvs) H R E := by
  unfold callO at hm
  split at hm
  · rename_i hc
    obtain ⟨as, e1, hm⟩ := bnd hm
    obtain ⟨r2, e2, hm⟩ := bnd hm
    obtain ⟨ρ3, e3, hm⟩ := bnd hm
    split at hm
    · rename_i hl
      cases hm
      have ha := args_ok G (is := ios os) (c := hasRef os) r e1 hc.2 (fun _ h => h) (fun h => h)
      refine ⟨_, _, r2.1, r2.2, ha.append (hdd _), ?_, G.lentPH, e2, fun v F1 H2 post io ndo rs => ?_⟩
      · rw [fpL_append dds ha]; exact ios_nodup r e1 G hc.1
      · rw [fpL_append dds ha] at post
        obtain ⟨io', eo⟩ := iosOk_append dds ha io
        rw [eo] at ndo rs
        obtain ⟨G2, sF, rep, reps, trep, none⟩ := call_end G r e1 hc.1 post io' ndo e3 fun hh => by
          rcases hl with h | h
          · rw [h] at hh; cases hh
          · exact fun xs hx => List.all_eq_true.mp h xs hx
        exact q v F1 _ H2 _ (fun {w d} h1 h2 => rep (fun h => h1 (by rw [h]; rfl)) h2) (fun {w d} h1 h2 => reps (fun h => h1 (by rw [h]; rfl)) h2) (fun {w d} h1 h2 => trep (fun h => h1 (by rw [h]; rfl)) h2) none G2 sF rs
    · cases hm
  · cases hm
/-- as data -/
theorem callO_e (hdd : ∀ F, Reps K F dvs dds) {F H : Hp} {σ : L2.St} {ρ ρ' : Env} {os : List Opd} {vs : List V} (G : Gd K g F H σ ρ) (r : OpdsOk K F σ vs os) {d : D} {Q : VK} (hm : ((callO fm dds os ρ).bind fun r => finR r) = some (d, ρ'))
    (q : ∀ v F' H', Gd K g F' H' σ ρ' → Same F F' → Rep K F' v d → Q v H') : spF K fm (vs ++ dvs) H Q E := by
  obtain ⟨⟨rr, nr, ρ2⟩, e1, hf⟩ := bnd hm
  refine callO_t hdd G r e1 fun v F1 F2 H2 ad rep reps trep none G2 sF rs => ?_
  cases rr with
  | d x =>
    simp only [finR, fin] at hf
    split at hf
    · rename_i hx
      cases hf
      exact q v F2 H2 G2 sF (rep (fun h => by rw [h] at hx; simpa using hx) rs)
    · cases hf
  | n xs =>
    simp only [finR] at hf
    split at hf
    · rename_i hx
      cases hf
      obtain ⟨l, ws, rfl, h1, h2, hx2, h3, h4⟩ := rs
      obtain ⟨n1, n2, n3, n4⟩ := none l h1 h2 hx2
      have sm' : Same F2 (upd F2 l ws) := fun b u e => by rw [upd_ne (ne_of_none e n1)]; exact e
      exact q _ _ H2 (G2.freeze h3 n1 n2 n3 n4) (sF.trans sm') (((reps (fun h => by rw [h] at hx; simpa using hx) h4).mono sm').rep upd_same)
    · cases hf
  | r xs => simp only [finR] at hf; cases hf
end

/-! ### methods, properties -/
def conts (ρ : Env) : Opd → Option D
  | .val d => some d
  | .ref i => match ρ[i]? with
    | some (some (.own _ x)) => some x
    | some (some (.tre _ x)) => some (ub x)
    | _ => none
  | .io i => match ρ[i]? with
    | some (some (.own _ x)) => some x
    | some (some (.tre _ x)) => some (ub x)
    | _ => none
def insOk (C : Addr) (m : Str) : Option D → Bool
  | some (.ins C' gs) => decide (C' = C) && (gs.lookup m).isNone
  | _ => false
def insOf (C : Addr) : Option D → Bool
  | some (.ins C' gs) => decide (C' = C)
  | _ => false
/-- the same names -/
def SameN (fs : List (Str × V)) (gs : List (Str × D)) : Prop := fs.map (·.1) = gs.map (·.1)
theorem RepF.sameN {K : PySem.W.Frag} {F : Hp} : ∀ {fs : List (Str × V)} {gs : List (Str × D)}, RepF K F fs gs → SameN fs gs
  | _, _, .nil => rfl
  | _, _, .cons _ r => by
    show _ :: _ = _ :: _
    rw [RepF.sameN r]
theorem SameN.none : ∀ {fs : List (Str × V)} {gs : List (Str × D)}, SameN fs gs → ∀ {m : Str}, gs.lookup m = none → fs.lookup m = none
  | [], [], _, _, _ => rfl
  | [], _ :: _, e, _, _ => by cases e
  | _ :: _, [], e, _, _ => by cases e
  | (n, v) :: fs, (m', d) :: gs, e, m, h => by
    obtain ⟨e1, e2⟩ := List.cons.inj (show n :: fs.map (·.1) = m' :: gs.map (·.1) from e)
    subst e1
    simp only [List.lookup] at h ⊢
    split at h
    · cases h
    · exact SameN.none e2 h
theorem conts_ins {K : PySem.W.Frag} {g : Gx} {F H : Hp} {σ : L2.St} {ρ : Env} (G : Gd K g F H σ ρ) {o : Opd} {v : V} (h : OpdOk K F σ v o) {C : Addr} {gs : List (Str × D)} (e : conts ρ o = some (.ins C gs)) : ∃ a dx fs, v = .ref a ∧ H a = some (.ins C dx fs) ∧ SameN fs gs := by
  have slot : ∀ {i : Nat}, σ[i]? = some (some v) → ((∃ t, ρ[i]? = some (some (.own t (.ins C gs)))) ∨ ∃ t x, ρ[i]? = some (some (.tre t x)) ∧ ub x = .ins C gs) → ∃ a dx fs, v = .ref a ∧ H a = some (.ins C dx fs) ∧ SameN fs gs := fun {i} h hx => by
    rcases hx with ⟨t, hx⟩ | ⟨t, x, hx, eu⟩
    · obtain ⟨l, o, hv, _, _, hl, r⟩ := G.slot i _ hx
      rw [h] at hv
      cases hv
      obtain ⟨dx, vs, rfl, r4⟩ := ownIns r
      exact ⟨l, dx, vs, rfl, hl, r4.sameN⟩
    · obtain ⟨l, o, hv, _, _, hl, r, _, _⟩ := G.slot i _ hx
      rw [h] at hv
      cases hv
      cases r with
      | ins e1 e2 =>
        cases eu
        exact ⟨l, _, _, rfl, hl, e1.trans (by rw [List.map_map]; rfl)⟩
      | lst _ => cases eu
  cases o with
  | val d =>
    cases (show some d = some (.ins C gs) from e)
    cases (show Rep K F v (.ins C gs) from h) with
    | ins h1 h2 => exact ⟨_, _, _, rfl, G.sub _ _ h1, h2.sameN⟩
  | ref i =>
    simp only [conts] at e
    split at e
    · rename_i t x hx
      cases e
      exact slot h (.inl ⟨_, hx⟩)
    · rename_i t x hx
      exact slot h (.inr ⟨_, _, hx, Option.some.inj e⟩)
    · cases e
  | io i =>
    simp only [conts] at e
    split at e
    · rename_i t x hx
      cases e
      exact slot h (.inl ⟨_, hx⟩)
    · rename_i t x hx
      exact slot h (.inr ⟨_, _, hx, Option.some.inj e⟩)
    · cases e
def eMeth (C : Addr) (m : Str) (fm : FM) (dds : List D) (fo : OM) (fa : AM) : EM := fun ρ => (fo ρ).bind fun p => if insOk C m (conts p.2 p.1) then (fa p.2).bind fun q => (callO fm dds (p.1 :: q.1) q.2).bind fun r => finR r else none
def eProp (C : Addr) (fm : FM) (dds : List D) (fo : OM) : EM := fun ρ => (fo ρ).bind fun p => if insOf C (conts p.2 p.1) then (callO fm dds [p.1] p.2).bind fun r => finR r else none
section
variable {X : Cx} {g : Gx} {ex : Expr} {fo : OM} {fa : AM} {C : Addr} {m : Str} {fm : FM} {dds : List D} {dvs : List V} {E : XK}
theorem de_meth (hdd : ∀ F, Reps X.K F dvs dds) (h : PE X ex (tMeth C m (spF X.K fm) dvs E (tO X.K g fo) (tA X.K g fa))) : DE X g ex (eMeth C m fm dds fo fa) :=
  weakPE h fun σ H Q ⟨F, ρ, d, ρ', G, hf, q⟩ => by
  obtain ⟨p, e1, hf⟩ := bnd hf
  split at hf
  · rename_i hi
    obtain ⟨p2, e2, hf⟩ := bnd hf
    refine ⟨F, ρ, p.1, p.2, G, e1, fun v F1 H1 G1 s1 r1 => ?_⟩
    unfold insOk at hi
    split at hi
    · rename_i C' gs hc
      have hi := Bool.and_eq_true_iff.mp hi
      cases (of_decide_eq_true hi.1)
      obtain ⟨a, dx, fs, rfl, ha, rf⟩ := conts_ins G1 r1 hc
      refine ⟨a, dx, fs, rfl, ha, rf.none (Option.isNone_iff_eq_none.mp hi.2), F1, p.2, p2.1, p2.2, G1, e2, fun vs F2 H2 G2 s2 r2 => ?_⟩
      exact callO_e (vs := V.ref a :: vs) hdd G2 (.cons (r1.mono s2) r2) hf fun w F3 H3 G3 s3 r3 => q w F3 H3 G3 ((s1.trans s2).trans s3) r3
    · cases hi
  · cases hf
theorem de_prop (hdd : ∀ F, Reps X.K F dvs dds) (h : PE X ex (tProp C (spF X.K fm) dvs E (tO X.K g fo))) : DE X g ex (eProp C fm dds fo) :=
  weakPE h fun σ H Q ⟨F, ρ, d, ρ', G, hf, q⟩ => by
  obtain ⟨p, e1, hf⟩ := bnd hf
  split at hf
  · rename_i hi
    refine ⟨F, ρ, p.1, p.2, G, e1, fun v F1 H1 G1 s1 r1 => ?_⟩
    unfold insOf at hi
    split at hi
    · rename_i C' gs hc
      cases (of_decide_eq_true hi)
      obtain ⟨a, dx, fs, rfl, ha, rf⟩ := conts_ins G1 r1 hc
      exact ⟨a, dx, fs, rfl, ha, callO_e (vs := [V.ref a]) hdd G1 (.cons r1 .nil) hf fun w F3 H3 G3 s3 r3 => q w F3 H3 G3 (s1.trans s3) r3⟩
    · cases hi
  · cases hf
end

/-! ### a new instance -/
def nMake (C : Addr) (fm : FM) (dds : List D) (fa : AM) : NM := fun ρ => (fa ρ).bind fun p => (callO fm dds (.io p.2.length :: p.1) (p.2 ++ [some (.own none (.ins C []))])).bind fun r => match r.1 with
  | .d .non => match r.2.2[p.2.length]? with
    | some (some (.own none x)) => if r.2.1 || lfo x then some (x, r.2.2.take p.2.length) else none
    | _ => none
  | _ => none
section
variable {K : PySem.W.Frag} {g : Gx} {F H : Hp} {σ : L2.St} {ρ : Env}
/-- one more slot, for a new instance: flat, or one that gets boxes -/
theorem Gd.moreS (G : Gd K g F H σ ρ) {C x dx : Addr} (hx : H x = none) (hd : H dx = none) (ne : dx ≠ x) {s0 : S} (hs : s0 = .own none (.ins C []) ∨ s0 = .tre none (.ins C [])) :
    Gd K g F (upd (upd H dx (.own x)) x (.ins C dx [])) (σ ++ [some (.ref x)]) (ρ ++ [some s0]) := by
  obtain ⟨G1, _⟩ := G.fresh hd (.own x)
  have hx1 : upd H dx (.own x) x = none := by rw [upd_ne (Ne.symm ne)]; exact hx
  obtain ⟨G2, f2, n2, p2, no2⟩ := G1.fresh hx1 (.ins C dx [])
  have here : ∀ {i : Nat} {s : S}, (ρ ++ [some s0])[i]? = some (some s) → (i < ρ.length ∧ ρ[i]? = some (some s) ∧ (σ ++ [some (.ref x)])[i]? = σ[i]?) ∨ (i = ρ.length ∧ s = s0 ∧ (σ ++ [some (.ref x)])[i]? = some (some (.ref x))) := fun {i s} e => by
    by_cases hi : i < ρ.length
    · rw [List.getElem?_append_left hi] at e
      exact .inl ⟨hi, e, List.getElem?_append_left (by rw [G.len]; exact hi)⟩
    · rw [List.getElem?_append_right (by omega)] at e
      have e0 : i - ρ.length = 0 := by
        have := (List.getElem?_eq_some_iff.mp e).1
        simp at this; omega
      have ei : i = ρ.length := by omega
      subst ei
      simp at e
      exact .inr ⟨rfl, e.symm, by rw [List.getElem?_append_right (by rw [G.len]; exact Nat.le_refl _), G.len]; simp⟩
  have own : ∀ {i : Nat} {l : Addr}, OwnAt (upd (upd H dx (.own x)) x (.ins C dx [])) (σ ++ [some (.ref x)]) (ρ ++ [some s0]) i l → OwnAt (upd (upd H dx (.own x)) x (.ins C dx [])) σ ρ i l ∨ (i = ρ.length ∧ l = x) := fun {i l} h0 => by
    obtain ⟨s, q⟩ := h0.slot
    rcases here q with ⟨_, h2, h3⟩ | ⟨h1, h2, h3⟩
    · exact .inl (h0.to h3.symm (h2.trans q.symm) fun _ _ _ _ _ => rfl)
    · refine .inr ⟨h1, ?_⟩
      obtain ⟨k, e1, ⟨_, ea⟩ | ⟨t, xs, o, r, ho, m⟩⟩ := h0
      · rw [h3] at e1; cases e1; exact ea
      · rw [h3] at e1; cases e1
        rw [q] at r
        rw [upd_same] at ho; cases ho
        have es := Option.some.inj (Option.some.inj r)
        rw [h2] at es
        rcases hs with hs | hs
        · rw [hs] at es; cases es
        · rw [hs] at es; cases es
          simpa [bx, bxs] using m
  refine ⟨by simp [G.len], fun i s e => ?_, fun i j l h1 h2 => ?_, G2.sub, G2.old, G2.keep, G2.grow, G2.new, fun b o e => ⟨(G2.pinned b o e).1, (G2.pinned b o e).2.1, fun i h => ?_⟩⟩
  · rcases here e with ⟨_, h2, h3⟩ | ⟨h1, h2, h3⟩
    · rw [h3]; exact G2.slot i s h2
    · rw [h3, h2]
      rcases hs with hs | hs
      · rw [hs]; exact ⟨x, _, rfl, n2, f2, upd_same, .ins .nil⟩
      · rw [hs]; exact ⟨x, _, rfl, n2, f2, upd_same, .ins rfl .nil, by simp [bx, bxs], fun a m => by simp [bx, bxs] at m⟩
  · rcases own h1 with a | ⟨a1, a2⟩
    · rcases own h2 with b | ⟨b1, b2⟩
      · exact G2.dist i j l a b
      · subst b2; exact absurd a (no2 i)
    · rcases own h2 with b | ⟨b1, b2⟩
      · subst a2; exact absurd b (no2 j)
      · rw [a1, b1]
  · rcases own h with a | ⟨a1, a2⟩
    · exact (G2.pinned b o e).2.2 i a
    · subst a2; rw [p2] at e; cases e
theorem Gd.more (G : Gd K g F H σ ρ) {C x dx : Addr} (hx : H x = none) (hd : H dx = none) (ne : dx ≠ x) :
    Gd K g F (upd (upd H dx (.own x)) x (.ins C dx [])) (σ ++ [some (.ref x)]) (ρ ++ [some (.own none (.ins C []))]) := G.moreS hx hd ne (.inl rfl)
/-- the last slot is given up -/
theorem Gd.fewer {n : Nat} (G : Gd K g F H σ ρ) {τ : L2.St} (hl : τ.length = n) (h : ∀ i, i < n → σ[i]? = τ[i]?) (hn : n ≤ ρ.length) : Gd K g F H τ (ρ.take n) := G.less (by simp [hl]; omega) fun j s e => by
  have hj : j < n := by
    have := (List.getElem?_eq_some_iff.mp e).1
    simp at this; omega
  rw [List.getElem?_take_of_lt hj] at e
  exact ⟨e, (h j hj).symm⟩
end
theorem OpdsOk.more {K : PySem.W.Frag} {F : Hp} {σ : L2.St} {x : Option V} : ∀ {vs : List V} {os : List Opd}, OpdsOk K F σ vs os → OpdsOk K F (σ ++ [x]) vs os
  | _, _, .nil => .nil
  | _, _, .cons (v := v) (o := .val d) h r => .cons h (OpdsOk.more r)
  | _, _, .cons (v := v) (o := .ref i) h r => by
    have h' : σ[i]? = some (some v) := h
    exact .cons (show (σ ++ [x])[i]? = some (some v) by rw [List.getElem?_append_left (List.getElem?_eq_some_iff.mp h').1]; exact h') (OpdsOk.more r)
  | _, _, .cons (v := v) (o := .io i) h r => by
    have h' : σ[i]? = some (some v) := h
    exact .cons (show (σ ++ [x])[i]? = some (some v) by rw [List.getElem?_append_left (List.getElem?_eq_some_iff.mp h').1]; exact h') (OpdsOk.more r)
theorem putOuts_len : ∀ {os : List Opd} {outs : List D} {ρ ρ2 : Env}, putOuts os outs ρ = some ρ2 → ρ2.length = ρ.length
  | [], [], _, _, e => by cases e; rfl
  | [], _ :: _, _, _, e => by cases e
  | .val _ :: r, outs, ρ, ρ2, e => putOuts_len (os := r) (outs := outs) (by cases outs <;> exact e)
  | .ref _ :: r, outs, ρ, ρ2, e => putOuts_len (os := r) (outs := outs) (by cases outs <;> exact e)
  | .io _ :: _, [], _, _, e => by cases e
  | .io i :: r, x :: outs, ρ, ρ2, e => by
    unfold putOuts at e
    split at e
    · have := putOuts_len (os := r) e
      simpa using this
    · have := putOuts_len (os := r) e
      simpa using this
    · cases e
section
variable {X : Cx} {g : Gx} {ex : Expr} {fa : AM} {C : Addr} {fm : FM} {dds : List D} {dvs : List V} {E : XK}
/-- what a new instance is, once __init__ is done -/
def makK (n : Nat) : Res × Bool × Env → Option (D × Env) := fun r => match r.1 with
  | .d .non => match r.2.2[n]? with
    | some (some (.own none x)) => if r.2.1 || lfo x then some (x, r.2.2.take n) else none
    | _ => none
  | _ => none
theorem nMake_eq (ρ : Env) : nMake C fm dds fa ρ = (fa ρ).bind fun p => (callO fm dds (.io p.2.length :: p.1) (p.2 ++ [some (.own none (.ins C []))])).bind (makK p.2.length) := rfl
theorem callO_len {os : List Opd} {ρ ρ2 : Env} {rr : Res} {nr : Bool} (e2 : callO fm dds os ρ = some (rr, nr, ρ2)) : ρ2.length = ρ.length := by
  unfold callO at e2
  split at e2
  · obtain ⟨as, _, e2⟩ := bnd e2
    obtain ⟨r3, _, e2⟩ := bnd e2
    obtain ⟨ρ3, e3, e2⟩ := bnd e2
    split at e2
    · simp only [Option.some.injEq, Prod.mk.injEq] at e2
      obtain ⟨_, _, e4⟩ := e2
      rw [← e4, putOuts_len e3]
    · cases e2
  · cases e2
theorem make_h {K : PySem.W.Frag} {F1 H1 : Hp} {σ : L2.St} {ρ ρ' : Env} {os : List Opd} {vs : List V} {d : D} {Q : VK} (hdd : ∀ F, Reps K F dvs dds) (G1 : Gd K g F1 H1 σ ρ) (r1 : OpdsOk K F1 σ vs os)
    (hf : ((callO fm dds (.io ρ.length :: os) (ρ ++ [some (.own none (.ins C []))])).bind (makK ρ.length)) = some (d, ρ'))
    (q : ∀ l o F' H', Gd K g F' H' σ ρ' → Same F1 F' → H' l = some o → F' l = none → g.H0 l = none → g.pin l = none → (∀ i, ¬ OwnAt H' σ ρ' i l) → ORep K F' o d → Q (.ref l) H') {x dx : Addr} (hx : H1 x = none) (hd : H1 dx = none) (ne : dx ≠ x) :
    spF K fm (.ref x :: (vs ++ dvs)) (upd (upd H1 dx (.own x)) x (.ins C dx [])) (fun v H2 => v = .non ∧ Q (.ref x) H2) E := by
  obtain ⟨⟨rr, nr, ρ2⟩, e2, hf⟩ := bnd hf
  have Gm := G1.more (C := C) hx hd ne
  have hs : σ.length = ρ.length := G1.len
  have r2 : OpdsOk K F1 (σ ++ [some (.ref x)]) (V.ref x :: vs) (.io ρ.length :: os) := .cons (show (σ ++ [some (.ref x)])[ρ.length]? = some (some (.ref x)) by rw [← hs]; simp) r1.more
  unfold makK at hf
  dsimp only at hf
  cases rr with
  | n y => cases hf
  | r y => cases hf
  | d y =>
    cases y with
    | non =>
      dsimp only at hf
      split at hf
      · rename_i z hz
        split at hf
        · rename_i hg
          cases hf
          have len2 : ρ2.length = ρ.length + 1 := by rw [callO_len e2]; simp
          refine callO_t (vs := V.ref x :: vs) hdd Gm r2 e2 fun v F2 F3 H3 ad rep reps trep none G3 sF rs => ?_
          have rs' : Rep K F2 v .non := rs
          cases rs'
          refine ⟨rfl, ?_⟩
          obtain ⟨l, o, hv, tg, fl, hl, ro⟩ := G3.slot ρ.length _ hz
          have hv' : (σ ++ [some (.ref x)])[ρ.length]? = some (some (.ref x)) := by rw [← hs]; simp
          rw [hv'] at hv
          cases hv
          have ox : OwnAt H3 (σ ++ [some (.ref x)]) ρ2 ρ.length x := .of hv' hz
          have G4 : Gd K g F3 H3 σ (ρ2.take ρ.length) := G3.fewer hs (fun i hi => List.getElem?_append_left (by rw [hs]; exact hi)) (by omega)
          refine q x o F3 H3 G4 sF hl fl tg ?_ (fun i hi => ?_) ro
          · cases e : g.pin x with
            | none => rfl
            | some u => exact absurd ox ((G3.pinned x u e).2.2 _)
          · obtain ⟨s, hs2⟩ := hi.slot
            have hlt : i < ρ.length := by
              have := (List.getElem?_eq_some_iff.mp hs2).1
              simp at this; omega
            have := G3.dist i ρ.length x (hi.to (List.getElem?_append_left (by rw [hs]; exact hlt)) (List.getElem?_take_of_lt hlt).symm fun _ _ _ _ _ => rfl) ox
            omega
        · cases hf
      · cases hf
    | _ => cases hf
theorem make_t (hdd : ∀ F, Reps X.K F dvs dds) {σ : L2.St} {H : Hp} {Q : VK} (q : tN X.K g (nMake C fm dds fa) σ H Q) : tMake C (spF X.K fm) dvs E (tA X.K g fa) σ H Q := by
  obtain ⟨F, ρ, d, ρ', G, hf, q⟩ := q
  obtain ⟨p, e1, hf⟩ := bnd hf
  exact ⟨F, ρ, p.1, p.2, G, e1, fun vs F1 H1 G1 s1 r1 x dx hx hd ne => make_h hdd G1 r1 hf (fun l o F' H' G' s' => q l o F' H' G' (s1.trans s')) hx hd ne⟩
theorem dn_make (hdd : ∀ F, Reps X.K F dvs dds) (h : PE X ex (tMake C (spF X.K fm) dvs E (tA X.K g fa))) : DN X g ex (nMake C fm dds fa) := weakPE h fun σ H Q q => make_t hdd q
end
end L3

namespace L3
open PySem L2

/-! ### a chain of two comparisons -/
section
variable {X : Cx} {g : Gx} {ex : Expr} {f1 f2 f3 : OM} {r r' : R2} {k k' : D → D → Option D}
theorem chain_t (hk : Op2 X.K r k) (hk' : Op2 X.K r' k') {σ : L2.St} {H : Hp} {Q : VK} (q : tE X.K g (eChain k k' f1 f2 f3) σ H Q) : tChain r r' (tO X.K g f1) (tO X.K g f2) (tO X.K g f3) σ H Q := by
  obtain ⟨F, ρ, d, ρ', G, hf, q⟩ := q
  obtain ⟨p1, e1, hf⟩ := bnd hf
  obtain ⟨p2, e2, hf⟩ := bnd hf
  obtain ⟨a, e3, hf⟩ := bnd hf
  obtain ⟨b, e4, hf⟩ := bnd hf
  obtain ⟨c, e5, hf⟩ := bnd hf
  refine ⟨F, ρ, p1.1, p1.2, G, e1, fun v F1 H1 G1 s1 r1 => ⟨F1, p1.2, p2.1, p2.2, G1, e2, fun u F2 H2 G2 s2 r2 => ?_⟩⟩
  have r1' := r1.mono s2
  split at hf
  · obtain ⟨p3, e6, hf⟩ := bnd hf
    obtain ⟨d3, e7, hf⟩ := bnd hf
    split at hf
    · rename_i hv
      obtain ⟨x, e8, hf⟩ := bnd hf
      cases hf
      have hv1 := Bool.and_eq_true_iff.mp hv
      have hv2 := Bool.and_eq_true_iff.mp hv1.1
      refine G2.op2 (ρ' := p2.2) (d := .bl true) hk r1' r2 e3 e4 e5 (by unfold fin; rw [if_pos (by rw [hv2.1, hv2.2]; rfl)]) fun w F3 H3 G3 s3 r3 => ?_
      cases r3
      refine ⟨true, rfl, iteT ⟨F3, p2.2, p3.1, p3.2, G3, e6, fun z F4 H4 G4 s4 r4 => ?_⟩⟩
      have rb : Rep X.K F4 u b := Rep.mono (s3.trans s4) (valOpd r2 e4 hv2.2)
      have rd : Rep X.K F4 z d3 := valOpd r4 e7 hv1.2
      exact hk' F4 H4 u z b d3 _ Q G4.sub rb rd e8 fun w F5 H5 x r5 => q w F5 H5 (G4.ext x) ((((s1.trans s2).trans s3).trans s4).trans x.ff) r5
    · cases hf
  · split at hf
    · rename_i hv
      cases hf
      have hv2 := Bool.and_eq_true_iff.mp hv
      refine G2.op2 (ρ' := p2.2) (d := .bl false) hk r1' r2 e3 e4 e5 (by unfold fin; rw [if_pos (by rw [hv2.1, hv2.2]; rfl)]) fun w F3 H3 G3 s3 r3 => ?_
      have r3' := r3
      cases r3
      exact ⟨false, rfl, iteF (q _ F3 H3 G3 ((s1.trans s2).trans s3) r3')⟩
    · cases hf
  · cases hf
theorem de_chain (hk : Op2 X.K r k) (hk' : Op2 X.K r' k') (h : PE X ex (tChain r r' (tO X.K g f1) (tO X.K g f2) (tO X.K g f3))) : DE X g ex (eChain k k' f1 f2 f3) := weakPE h fun σ H Q q => chain_t hk hk' q
theorem dt_chain (hk : Op2 X.K r k) (hk' : Op2 X.K r' k') (h : PT X ex (tTest (tChain r r' (tO X.K g f1) (tO X.K g f2) (tO X.K g f3)))) : DT X g ex (tV (eChain k k' f1 f2 f3)) :=
  weakPT h fun σ H Q q => tV_t (te := tChain r r' (tO X.K g f1) (tO X.K g f2) (tO X.K g f3)) (fun _ _ _ z => chain_t hk hk' z) q
end

/-! ### x in o by an own __contains__ -/
def rInO (C : Addr) (sp : Sp) (E : XK) (neg : Bool) : R2 := fun x y H Q => ∃ a dx fs, y = .ref a ∧ H a = some (.ins C dx fs) ∧ sp [y, x] H (fun v H1 => ∃ b, v = .bl b ∧ Q (.bl (if neg then !b else b)) H1) E
section
variable {X : Cx} {CX : CXT} {k : Nat} {f C : Addr} {fd : FuncData} {ps : List Str} {sp : Sp} {E : XK}
theorem op_inO (hs : PySem.W.findIn X.K (.ref C) "__contains__" = some (some (.ref f))) (hf : PySem.W.isFn X.K (.ref f) = true) (Fk : FnOk X.prog X.w X.K X.mg X.base CX k f fd ps sp) (hr : Room k X.A) (hb : Binds X.K fd ps []) (hx : Passes CX X E) :
    OpR X (compareOp .In) (rInO C sp E false) := by
  intro pins s σ H x y v u Q I rx ry ⟨a, dx, fs, ey, ha, q⟩
  subst ey
  cases ry
  obtain ⟨m, Fm⟩ := I.fr
  obtain ⟨mA, O, _⟩ := ins_get I.hok ha
  obtain ⟨od, J, _⟩ := O.look
  refine PySem.W.in_K Fm I.ok.mod.kin J hs hf (thn (run_fn (us := [.ref a, v]) (vs := [.ref a, x]) Fk hr hb .nil hx I (.cons rfl (.cons rx .nil)) q) fun r s1 ⟨w, H1, I1, r1, b, e1, q1⟩ => ?_)
  subst e1
  cases r1
  exact wpAny_truthy_bool ⟨.bl b, H1, I1, rfl, q1⟩
theorem op_notInO (hs : PySem.W.findIn X.K (.ref C) "__contains__" = some (some (.ref f))) (hf : PySem.W.isFn X.K (.ref f) = true) (Fk : FnOk X.prog X.w X.K X.mg X.base CX k f fd ps sp) (hr : Room k X.A) (hb : Binds X.K fd ps []) (hx : Passes CX X E) :
    OpR X (compareOp .NotIn) (rInO C sp E true) := by
  intro pins s σ H x y v u Q I rx ry ⟨a, dx, fs, ey, ha, q⟩
  subst ey
  cases ry
  obtain ⟨m, Fm⟩ := I.fr
  obtain ⟨mA, O, _⟩ := ins_get I.hok ha
  obtain ⟨od, J, _⟩ := O.look
  refine PySem.W.notIn_K Fm I.ok.mod.kin J hs hf (thn (run_fn (us := [.ref a, v]) (vs := [.ref a, x]) Fk hr hb .nil hx I (.cons rfl (.cons rx .nil)) q) fun r s1 ⟨w, H1, I1, r1, b, e1, q1⟩ => ?_)
  subst e1
  cases r1
  exact wpAny_truthy_bool ⟨.bl (!b), H1, I1, rfl, q1⟩
end
/-- x in o: the object's def is asked -/
def eInO (C : Addr) (fm : FM) (neg : Bool) (fx fy : OM) : EM := fun ρ => (fx ρ).bind fun p => (fy p.2).bind fun q => if insOf C (conts q.2 q.1) then (callO fm [] [q.1, p.1] q.2).bind fun r => match r.1 with
  | .d (.bl b) => some (.bl (if neg then !b else b), r.2.2)
  | _ => none
  else none
section
variable {X : Cx} {g : Gx} {ex : Expr} {fx fy : OM} {C : Addr} {fm : FM} {E : XK} {neg : Bool}
theorem inO_t {σ : L2.St} {H : Hp} {Q : VK} (q : tE X.K g (eInO C fm neg fx fy) σ H Q) : tOp (rInO C (spF X.K fm) E neg) (tO X.K g fx) (tO X.K g fy) σ H Q := by
  obtain ⟨F, ρ, d, ρ', G, hf, q⟩ := q
  obtain ⟨p1, e1, hf⟩ := bnd hf
  obtain ⟨p2, e2, hf⟩ := bnd hf
  split at hf
  · rename_i hi
    obtain ⟨⟨rr, nr, ρ2⟩, e3, hf⟩ := bnd hf
    refine ⟨F, ρ, p1.1, p1.2, G, e1, fun v F1 H1 G1 s1 r1 => ⟨F1, p1.2, p2.1, p2.2, G1, e2, fun u F2 H2 G2 s2 r2 => ?_⟩⟩
    unfold insOf at hi
    split at hi
    · rename_i C' gs hc
      cases (of_decide_eq_true hi)
      obtain ⟨a, dx, fs, rfl, ha, rf⟩ := conts_ins G2 r2 hc
      refine ⟨a, dx, fs, rfl, ha, ?_⟩
      have z := callO_t (fm := fm) (dds := []) (dvs := []) (E := E) (fun _ => .nil) G2 (vs := [.ref a, v]) (.cons r2 (.cons (r1.mono s2) .nil)) (R := fun v H1 => ∃ b, v = .bl b ∧ Q (.bl (if neg then !b else b)) H1) e3 fun w F3 F4 H4 ad rep reps trep none G4 sF rs => by
        dsimp only at hf
        cases rr with
        | n y => cases hf
        | r y => cases hf
        | d y =>
          cases y with
          | bl b =>
            cases hf
            have rs' : Rep X.K F3 w (.bl b) := rs
            cases rs'
            exact ⟨b, rfl, q _ F4 H4 G4 ((s1.trans s2).trans sF) .bl⟩
          | _ => cases hf
      simpa using z
    · cases hi
  · cases hf
theorem de_inO {a b : Expr} {pos : Pos} {op : CmpOp} (ho : OpR X (compareOp op) (rInO C (spF X.K fm) E neg)) (ha : DO X g a fx) (hb : DO X g b fy) (h1 : behindInMarks op b = false := by rfl) : DE X g (.Compare a [op] [b] pos) (eInO C fm neg fx fy) :=
  weakPE (pe_cmpR ho ha hb h1) fun σ H Q q => inO_t q
theorem dt_inO {a b : Expr} {pos : Pos} {op : CmpOp} (ho : OpR X (compareOp op) (rInO C (spF X.K fm) E neg)) (ha : DO X g a fx) (hb : DO X g b fy) (h1 : behindInMarks op b = false := by rfl) : DT X g (.Compare a [op] [b] pos) (tV (eInO C fm neg fx fy)) :=
  weakPT (pt_cmpR ho ha hb h1) fun σ H Q q => tV_t (te := tOp (rInO C (spF X.K fm) E neg) (tO X.K g fx) (tO X.K g fy)) (fun _ _ _ z => inO_t z) q
end

/-! ### a local that is a class, called -/
def tMakeL (i : Nat) (C : Addr) (sp : Sp) (dvs : List V) (E : XK) (t : TA) : TE := fun σ H Q => σ[i]? = some (some (.ref C)) ∧ tMake C sp dvs E t σ H Q
section
variable {X : Cx} {CX : CXT} {k i : Nat} {f C : Addr} {fd : FuncData} {ps : List Str} {sp : Sp} {dvs : List V} {ds : List Value} {E : XK} {x : Str} {p pos : Pos} {e : Expr} {es : List Expr} {t : TA}
theorem pe_makeL (M : Mk X.K C f) (Fk : FnOk X.prog X.w X.K X.mg X.base CX k f fd ps sp) (hr : Room (k + 1) X.A) (hN : X.N[i]? = some x) (hv : Vis X.env.scope x) (hb : Binds X.K fd ps ds) (hd : Vals dvs ds) (hx : Passes CX X E) (ha : PA X (e :: es) t)
    (hdb : (x == ("__debug__" : Str)) = false := by decide) (hcd : (x == ("__classdict__" : Str)) = false := by decide) (he : starEach (e :: es) X.env = (false, eval e X.env) :: starEach es X.env := by rfl)
    (hpl : (backTo pos (starEach es X.env)).any (·.1) = false := by rfl) : PE X (.Call (.Name x p) (e :: es) [] pos) (tMakeL i C sp dvs E t) := by
  refine ⟨fun pins s σ H Q I ⟨hs, ht⟩ => ?_⟩
  refine wpAny_Call_Name_kw (thn ((pe_var (pos := p) hN hv hdb hcd).run pins s σ H (fun v H1 => v = .ref C ∧ H1 = H) I ⟨.ref C, hs, rfl, rfl⟩) fun u s1 ⟨v, H1, I1, r1, q1⟩ => ?_)
  obtain ⟨ev, eH⟩ := q1
  subst ev; subst eH
  cases r1
  exact PySem.W.callWith_K (h₀ := X.base) I.ok.mod.kin M.kp (thn (ha.run pos pins s1 σ _ _ I1 ht) fun us s2 ⟨vs, H2, I2, r, q⟩ => ⟨I2.kIn, run_make M Fk hr hb hd hx I2 r q⟩) he hpl
end
def nMakeL (i : Nat) (C : Addr) (fm : FM) (dds : List D) (fa : AM) : NM := fun ρ => match ρ[i]? with
  | some (some (.d (.cls C'))) => if C' = C then nMake C fm dds fa ρ else none
  | _ => none
section
variable {X : Cx} {g : Gx} {ex : Expr} {fa : AM} {i : Nat} {C : Addr} {fm : FM} {dds : List D} {dvs : List V} {E : XK}
theorem dn_makeL (hdd : ∀ F, Reps X.K F dvs dds) (h : PE X ex (tMakeL i C (spF X.K fm) dvs E (tA X.K g fa))) : DN X g ex (nMakeL i C fm dds fa) := by
  refine weakPE h fun σ H Q ⟨F, ρ, d, ρ', G, hf, q⟩ => ?_
  unfold nMakeL at hf
  split at hf
  · rename_i C' hx
    split at hf
    · rename_i hc
      subst hc
      obtain ⟨v, e, r⟩ := G.slot i _ hx
      cases r
      refine ⟨e, ?_⟩
      exact make_t hdd ⟨F, ρ, d, ρ', G, hf, q⟩
    · cases hf
  · cases hf
end

/-! ### a classmethod without arguments -/
section
variable {X : Cx} {CX : CXT} {k : Nat} {C p gf : Addr} {mc : Value} {sp : Sp} {E : XK} {o : Expr} {m : Str} {pos apos : Pos} {ta : TE} {pl : Sem Bool}
theorem pe_cmeth0 (he : PE X o ta) (r : ClX.CRead X.K C mc) (c : ClX.CMet X.K C mc m p gf) (Fk : FnR X.prog X.w X.K X.mg X.base CX k gf sp) (hr : Room k X.A) (hx : Passes CX X E)
    (ht : eval (.Call (.Attribute o m apos) [] [] pos) X.env = (do
      let recv ← eval o X.env
      standAt apos.atName
      let (fn, fst) ← holding [recv] (getMethod recv m pl)
      callWith pos fn fst (backTo pos (starEach [] X.env)) (backToKw pos (keywordEach [] X.env))) := by rfl) :
    PE X (.Call (.Attribute o m apos) [] [] pos) (ClX.tCMeth C sp E ta tNil) := by
  refine ⟨fun pins s σ H Q I h => ?_⟩
  refine PySem.W.methodCall_KW (pl := pl) (thn (he.run pins s σ H _ I h) fun u s1 ⟨x, H1, I1, rx, ex, q⟩ => ?_) ht
  subst ex
  obtain rfl : u = Value.ref C := rx
  refine ClX.getmethcm_ok I1 r c fun s2 I2 => ?_
  exact PySem.W.callWith_M0 (first := []) ⟨ClX.pin_at I2, I2.kIn⟩ c.fi (ClX.run_cm Fk hr hx I2 .nil q)
end
/-- C.m(..): the class itself is the first operand -/
def eCMeth (C : Addr) (fm : FM) (dds : List D) (fo : EM) (fa : AM) : EM := fun ρ => (fo ρ).bind fun p => match p.1 with
  | .cls C' => if C' = C then (fa p.2).bind fun q => (callO fm dds (.val (.cls C) :: q.1) q.2).bind fun r => finR r else none
  | _ => none
section
variable {X : Cx} {g : Gx} {ex : Expr} {fo : EM} {fa : AM} {C : Addr} {fm : FM} {dds : List D} {dvs : List V} {E : XK}
theorem de_cmeth (hdd : ∀ F, Reps X.K F dvs dds) (h : PE X ex (ClX.tCMeth C (fun vs H Q E => spF X.K fm (vs ++ dvs) H Q E) E (tE X.K g fo) (tA X.K g fa))) : DE X g ex (eCMeth C fm dds fo fa) :=
  weakPE h fun σ H Q ⟨F, ρ, d, ρ', G, hf, q⟩ => by
  obtain ⟨⟨c, ρ1⟩, e1, hf⟩ := bnd hf
  refine ⟨F, ρ, c, ρ1, G, e1, fun v F1 H1 G1 s1 r1 => ?_⟩
  cases c with
  | cls C' =>
    dsimp only at hf
    split at hf
    · rename_i hc
      subst hc
      obtain ⟨p2, e2, hf⟩ := bnd hf
      cases r1
      refine ⟨rfl, F1, ρ1, p2.1, p2.2, G1, e2, fun vs F2 H2 G2 s2 r2 => ?_⟩
      exact callO_e (vs := V.ref C' :: vs) hdd G2 (.cons (o := .val (.cls C')) (show Rep X.K F2 (V.ref C') (.cls C') from .cls) r2) hf fun w F3 H3 G3 s3 r3 => q w F3 H3 G3 ((s1.trans s2).trans s3) r3
    · cases hf
  | _ => cases hf
/-- the class as a value -/
theorem de_cls {C : Addr} (h : PE X ex (tC (.ref C))) : DE X g ex (eC (.cls C)) := de_c h fun _ => .cls
theorem de_bty {n : String} (h : PE X ex (tC (.ty n))) : DE X g ex (eC (.bty n)) := de_c h fun _ => .bty
end

/-! ### sorted of a tuple -/
def rSortedT (K : PySem.W.Frag) : List V → Hp → VK → Prop := fun vs H Q => ∃ (a : Addr) (xs : List V), vs = [V.ref a] ∧ SqT K H a xs ∧
  ((∃ ns : List Int, xs = ns.map V.int ∧ ∀ (ys : List Int) (p : Addr), ys.Perm ns → ys.Pairwise (· ≤ ·) → H p = none → Q (.ref p) (upd H p (.lst (ys.map V.int)))) ∨
   ∃ k : V → Int × Int, (∀ x ∈ xs, ∃ t, x = V.ref t ∧ H t = some (.tup [.int (k x).1, .int (k x).2])) ∧ ∀ (ys : List V) (p : Addr), SrtO.Srtd (ltP k) ys → SrtO.Stb (ltP k) ys xs → H p = none → Q (.ref p) (upd H p (.lst ys)))
theorem sorted_tup {prog : Program} {w : World} {A : Around} {E : Value → Shared → Prop} {s : Shared} {l : Addr} {vs : List Value} {ltv : Value → Value → Bool} {Q : Value → Shared → Prop} (O : SrtO.Swo ltv) (hl : PyProof.Rows.IsTup s.heap l vs.toArray) (hz : vs.length ≤ sizeLine)
    (hS : 2 ≤ vs.length → ∀ (h₁ : Heap) (a : Addr), h₁.get? a = some (PyProof.Rows.seqObj "list" vs.toArray 0) → (∀ b o, s.heap.get? b = some o → b ≠ a ∧ h₁.get? b = some o) → SrtO.SortableO prog w A.in1.in1 { s with heap := h₁ } a vs ltv)
    (h : ∀ (out : List Value) (h1 h' : Heap) (d : Addr), SrtO.Srtd ltv out → SrtO.Stb ltv out vs → (∀ b o, s.heap.get? b = some o → h1.get? b = some o) → (∀ b o, h1.get? b = some o → h'.get? b = some o) → h1.objs.size ≤ d → (∃ n, h'.get? d = some (PyProof.Rows.seqObj "list" out.toArray n)) → Q (.ref d) { s with heap := h' }) :
    wpAny (model prog w) A (call (.builtin "sorted") [.ref l]) Q E s := by
  obtain ⟨o, ho, hc, n, hd⟩ := hl
  refine Calls.call_function_entry PyProof.Rows.kind_sorted PyProof.Rows.plain_sorted PyProof.Rows.entry_sorted (PyProof.Rows.args_sorted1 _) ?_
  unfold Builtin.«sorted»
  refine wpAny_bind (m := checkCount "sorted" 1 1 _) (wpAny_pure ?_)
  refine wpAny_bind (wpAny_collect_seq l (.inr rfl) ho hc hd (fun h1 hk => ?_) (by simpa using hz))
  have hz' : vs.toArray.toList.length ≤ sizeLine := by simpa using hz
  refine wpAny_bind (wpAny_newList ?_ hz')
  have hoL : (h1.push (PyProof.Rows.seqObj "list" vs.toArray 0)).get? h1.objs.size = some (PyProof.Rows.seqObj "list" vs.toArray 0) := Heap.get?_push_size _ rfl
  have kk : ∀ b o, s.heap.get? b = some o → b ≠ h1.objs.size ∧ (h1.push (PyProof.Rows.seqObj "list" vs.toArray 0)).get? b = some o := fun b o e => by
    have e1 := hk b o e
    exact ⟨Nat.ne_of_lt (Heap.lt_size e1), Heap.get?_push_of_some _ e1⟩
  show wpAny _ _ _ _ _ ({ s with heap := h1.push (PyProof.Rows.seqObj "list" vs.toArray 0) } : Shared)
  refine wpAny_bind (wpAny_holding (wpAny_call_entry PyProof.Rows.slot_list_sort ⟨_, hoL, rfl⟩ PyProof.Rows.entry_list_sort
    (SrtO.list_sort_ord O (s := { s with heap := h1.push (PyProof.Rows.seqObj "list" vs.toArray 0) }) hoL hz (fun h2 => hS h2 _ _ hoL kk) fun out a1 a2 => ⟨_, rfl, ?_⟩)
    (PyProof.Rows.args_list_sort _)))
  refine wpAny_pure ⟨_, rfl, h out h1 _ _ a1 a2 hk (fun b o e => ?_) (Nat.le_refl _) (PyProof.Rows.sortedHeap_at (vs := vs) (out := out.toArray) hoL)⟩
  have hb : b < h1.objs.size := Heap.lt_size e
  rw [PyProof.Rows.sortedHeap_old (Nat.ne_of_lt hb) (by rw [Heap.size_push]; exact Nat.lt_succ_of_lt hb)]
  exact Heap.get?_push_of_some _ e
theorem cr_sortedT {X : Cx} : CallR X (.builtin "sorted") (rSortedT X.K) := by
  intro pins s σ H vs us Q I r ⟨a, xs, ev, hs, q⟩
  subst ev
  obtain ⟨u, eu, ru⟩ := vals1 r
  subst eu
  cases ru
  obtain ⟨its, rv, hl, hz⟩ := I.tuple hs
  have hz' : its.length ≤ sizeLine := by rw [← rv.length]; exact hz
  rcases q with ⟨ns, ex, q⟩ | ⟨k, hx, q⟩
  · subst ex
    have hi := rv.ints
    refine sorted_tup SrtO.swo_int hl hz' (fun h2 h₁ a' _ _ => SrtO.ints_sortable hi h2) fun out h1 h' d b1 b2 k1 k2 hd ⟨n, hn⟩ => ?_
    obtain ⟨c1, c2, c3⟩ := SrtO.ints_out hi b1 b2
    have I1 : Inv X pins σ H { s with heap := h1 } := I.kept (t' := s.toks) k1
    refine ⟨.ref d, upd H d (.lst ((out.map SrtO.iv).map V.int)), I1.laid (t' := s.toks) k2 hd ⟨?_, out, n, vals_of_ints c1, hn⟩, rfl, q _ d c2 c3 (I1.hok.fresh hd)⟩
    rw [List.length_map, c2.length_eq, ← hi.length]; exact hz'
  · obtain ⟨e1, e2⟩ := refs_back rv fun x m => by
      obtain ⟨t, e, _⟩ := hx x m
      exact ⟨t, e⟩
    have hp : ∀ v ∈ its, Srt.IsPair s.heap v (k (backV v)).1 (k (backV v)).2 := fun v hv => by
      obtain ⟨t, rfl⟩ := e2 v hv
      have hm : V.ref t ∈ xs := by rw [e1]; exact List.mem_map.mpr ⟨_, hv, rfl⟩
      obtain ⟨t', e, ht⟩ := hx _ hm
      cases e
      obtain ⟨-, its2, rt, ot, hot, hct, nt, hdt⟩ := I.hok _ _ ht
      obtain ⟨u1, u2, rfl, ⟨t1, rfl⟩, ⟨t2, rfl⟩⟩ := vals2 rt
      exact ⟨t, ot, t1, t2, nt, rfl, hot, hct, hdt⟩
    refine sorted_tup (SrtO.swo_lex fun v => k (backV v)) hl hz' (fun h2 h₁ a' ha kk => SrtO.pairs_sortableO (s := { s with heap := h₁ }) (by omega) (fun v hm => (hp v hm).keeps fun b o e _ => (kk b o e).2) fun o e => ?_) fun out h1 h' d b1 b2 k1 k2 hd ⟨n, hn⟩ => ?_
    · have e' : some o = some (PyProof.Rows.seqObj "list" its.toArray 0) := e.symm.trans ha
      cases e'
      intro c
      exact absurd (Value.type.inj c) (by decide)
    · have h3 : ∀ u ∈ out, ∃ a, u = Value.ref a := fun u hu => e2 u (b2.perm.mem_iff.mp hu)
      have hb : SrtO.Stb (ltP k) (out.map backV) xs := by
        rw [e1]
        exact SrtO.Stb.map (ltP_swo k) backV b2
      have I1 : Inv X pins σ H { s with heap := h1 } := I.kept (t' := s.toks) k1
      refine ⟨.ref d, upd H d (.lst (out.map backV)), I1.laid (t' := s.toks) k2 hd ⟨?_, out, n, vals_back h3, hn⟩, rfl, q _ d (SrtO.srtd_map b1) hb (I1.hok.fresh hd)⟩
      rw [hb.len]
      exact hz
/-- of lists, dicts, tuples -/
def tupOf : D → Option (List D)
  | .tup l => some l
  | .ktp l => some l
  | _ => none
def kSortedA : List D → Option D
  | [.tup l] => match intsOf l with
    | some ns => some (.lst ((isort ns).map D.int))
    | none => (pairsOf l).bind fun ps => some (.lst ((psort ps).map dPair))
  | [.ktp l] => match intsOf l with
    | some ns => some (.lst ((isort ns).map D.int))
    | none => none
  | as => kSorted as
abbrev rSortedA (K : PySem.W.Frag) : List V → Hp → VK → Prop := fun xs H Q => rSortedT K xs H Q ∨ rSortedX K xs H Q
theorem cr_sortedA {X : Cx} (hc : X.calm = true) : CallR X (.builtin "sorted") (rSortedA X.K) := callr_or cr_sortedT (cr_sortedX hc)
theorem ok_sortedA {K : PySem.W.Frag} : OpN K (rSortedA K) kSortedA := by
  intro F H vs as c Q s r e q
  have goI : ∀ {p : Addr} {ws : List V} {l : List D} {ns : List Int}, vs = [.ref p] → SqT K H p ws → Reps K F ws l → intsOf l = some ns → c = .lst ((isort ns).map D.int) → rSortedA K vs H Q := fun {p ws l ns} ev hs r e1 ec => by
    subst ec
    rw [intsOf_eq e1] at r
    rw [Reps.ints r] at hs
    exact .inl ⟨p, _, ev, hs, .inl ⟨ns, rfl, fun ys d h3 h4 hp => by
      rw [isort_only h3 h4]
      exact q d _ hp (.lst (reps_ints _))⟩⟩
  unfold kSortedA at e
  split at e
  · cases r with
    | cons r rr =>
      cases rr
      cases r with
      | tup h1 h2 =>
        split at e
        · rename_i ns e1
          exact goI rfl (SqT.of (s _ _ h1)) h2 e1 (Option.some.inj e).symm
        · obtain ⟨ps, e1, e⟩ := bnd e
          cases e
          rw [pairsOf_eq e1] at h2
          have pa := pairs_at h2
          refine .inl ⟨_, _, rfl, SqT.of (s _ _ h1), .inr ⟨pairKey K F, fun x hx => ?_, fun ys p h3 h4 hp => ?_⟩⟩
          · obtain ⟨y, _, hy⟩ := Paired.mem_left pa x hx
            obtain ⟨_, t, e1, e2⟩ := pairKey_eq hy.1
            rw [hy.2]
            exact ⟨t, e1, s _ _ e2⟩
          · rw [sortBy_only (ltP_swo _) h3 h4]
            exact q p _ hp (.lst (pairs_reps (pairs_sortBy pa)))
  · cases r with
    | cons r rr =>
      cases rr
      cases r with
      | ktp h1 h2 =>
        split at e
        · rename_i ns e1
          exact goI rfl (Same.sqt s h1) h2 e1 (Option.some.inj e).symm
        · cases e
  · exact .inr (ok_sorted F H vs _ c Q s r e q)

/-- a, b = x, y, the names plain locals -/
def sPar (i j : Nat) (fa : AM) : SM := fun ρ => (fa ρ).bind fun p => (valsOf p.1).bind fun ds => match ds with
  | [x, y] => some (.nx, (p.2.set i (some (.d x))).set j (some (.d y)))
  | _ => none
section
variable {X : Cx} {g : Gx} {st : Stmt} {i j : Nat} {fa : AM}
theorem ds_par (h : PS X st (tPar i j (tA X.K g fa))) : DS X g st (sPar i j fa) := weakPS h fun D σ H ⟨F, ρ, out, ρ', G, hf, q⟩ => by
  obtain ⟨p, e1, hf⟩ := bnd hf
  obtain ⟨ds, e2, hf⟩ := bnd hf
  split at hf
  · rename_i x y
    cases hf
    refine ⟨F, ρ, p.1, p.2, G, e1, fun vs F1 H1 G1 s1 r1 => ?_⟩
    have rr := valsOk r1 e2
    cases rr with
    | cons a rr =>
      cases rr with
      | cons b rr =>
        cases rr
        exact ⟨_, _, rfl, q _ F1 H1 ((G1.setD i a).setD j b) s1⟩
  · cases hf
end
/-! ### the law's own end -/
theorem law_end {K : PySem.W.Frag} {fm : FM} {H : Hp} {a : Addr} {ns : List Int} (hS : SqL K H a (ns.map V.int)) (h : fm [.v (.scr ns)] = some (.d (.bl true), [])) : spF K fm [.ref a] H (fun v _ => v = .bl true) fun _ _ _ => False :=
  ⟨H, [.v (.scr ns)], _, _, .v (.scr hS) .nil, by rw [fpL_v]; exact .nil, Same.refl _, h, fun v F' H' _ _ _ r => by
    cases (show Rep K F' v (.bl true) from r)
    rfl⟩
end L3

namespace L3
open PySem PySem.Spec PyProof.Rows L2

/-! ### calls without arguments, read as calls -/
theorem nilA {K : PySem.W.Frag} {g : Gx} {σ : L2.St} {H : Hp} {Q : List V → Hp → Prop} (h : tA K g aN σ H Q) : tNil σ H Q := by
  obtain ⟨F, ρ, os, ρ', G, hf, q⟩ := h
  cases hf
  exact q [] F H G (Same.refl _) .nil
theorem monoE {K : PySem.W.Frag} {g : Gx} {f : EM} {σ : L2.St} {H : Hp} {Q Q' : VK} (i : ∀ v H', Q v H' → Q' v H') (h : tE K g f σ H Q) : tE K g f σ H Q' := by
  obtain ⟨F, ρ, d, ρ', G, hf, q⟩ := h
  exact ⟨F, ρ, d, ρ', G, hf, fun v F' H' G' s r => i v H' (q v F' H' G' s r)⟩
theorem monoO {K : PySem.W.Frag} {g : Gx} {f : OM} {σ : L2.St} {H : Hp} {Q Q' : VK} (i : ∀ v H', Q v H' → Q' v H') (h : tO K g f σ H Q) : tO K g f σ H Q' := by
  obtain ⟨F, ρ, d, ρ', G, hf, q⟩ := h
  exact ⟨F, ρ, d, ρ', G, hf, fun v F' H' G' s r => i v H' (q v F' H' G' s r)⟩
section
variable {X : Cx} {g : Gx} {ex : Expr} {C : Addr} {sp : Sp} {E : XK} {dvs : List V} {m : Str}
theorem pe_cm0 {fo : EM} (h : PE X ex (ClX.tCMeth C sp E (tE X.K g fo) tNil)) : PE X ex (ClX.tCMeth C sp E (tE X.K g fo) (tA X.K g aN)) :=
  weakPE h fun σ H Q q => monoE (fun _ _ ⟨e, t⟩ => ⟨e, nilA t⟩) q
theorem pe_mk0 (h : PE X ex (tMake C sp dvs E tNil)) : PE X ex (tMake C sp dvs E (tA X.K g aN)) := weakPE h fun σ H Q q => nilA q
theorem pe_me0 {fo : OM} (h : PE X ex (tMeth C m sp dvs E (tO X.K g fo) tNil)) : PE X ex (tMeth C m sp dvs E (tO X.K g fo) (tA X.K g aN)) :=
  weakPE h fun σ H Q q => monoO (fun _ _ ⟨a, dx, fs, h1, h2, h3, t⟩ => ⟨a, dx, fs, h1, h2, h3, nilA t⟩) q
end

/-! ### a def of the text, its defaults too -/
section
variable {P : Program} {w : World} {K : PySem.W.Frag} {mg : Str → Option Value} {base : Heap}
/-- a def as it stands -/
abbrev Fd (K : PySem.W.Frag) (x qual : Str) (st : Stmt) (dvs : List V) (f : Addr) (fd : FuncData) : Prop := FunD K x qual (defArgs st) (defBody st) (defScope st) dvs [] f fd
theorem okD {x qual : Str} {st : Stmt} {dvs : List V} {kws : List (Str × V)} {f : Addr} {fd : FuncData} {N ps : List Str} {k : Nat} {B : SM} (W : FunD K x qual (defArgs st) (defBody st) (defScope st) dvs kws f fd) (Sc : FnScope N ps (defScope st)) (hps : ps.length ≤ N.length)
    (hb : ∀ (cdv : Value) (A : Around) (outer : List PySem.Env) (s : Shared) (H : Hp) (E : XK) (g : Gx), Room k (A.deeper (PyProof.Rows.envOfC qual (defScope st) s.heap.objs.size f cdv)) → DSs (cxOf CX0 P w K mg base N qual (defScope st) f cdv A outer s H E).nox g (defBody st) B) :
    FnOk P w K mg base CX0 (k + 1) f fd ps (spF K (mkF ps.length N.length B)) := by
  refine FunD.ok W Sc (fun vs H Q E ⟨F0, as, r, os, h, nd, s, hf, q⟩ => ?_) (fun cdv A outer s H vs Q E hr ⟨F0, as, r, os, h, nd, sm, hf, q⟩ => ⟨_, PSs.nox (hb cdv A outer s H E ⟨H, F0, fpL H vs as, fun _ => none⟩ hr), ?_⟩)
  · unfold mkF at hf
    split at hf
    · rename_i hl
      rw [h.length]; exact hl
    · cases hf
  · unfold mkF at hf
    split at hf
    · rename_i hl
      obtain ⟨p, e1, hf⟩ := bnd hf
      obtain ⟨r', e2, hf⟩ := bnd hf
      obtain ⟨os', e3, hf⟩ := bnd hf
      cases hf
      obtain ⟨o, ρ'⟩ := p
      have G := entry_gd N h nd sm (by rw [hl]; exact hps)
      rw [hl] at G
      refine ⟨F0, _, o, ρ', G, e1, fun σ' F' H' G' s' => ?_⟩
      have post : Post K F0 H F' H' (adL (fpL H vs as)) := ⟨s', G'.sub, G'.keep, G'.new, G'.grow⟩
      obtain ⟨ios, ndo, par⟩ := collect_ok G' rfl (pre := []) h rfl rfl e3
      cases o with
      | nx => cases e2; exact q _ F' H' post ios ndo .non
      | rt d => cases e2; exact fun v r => q v F' H' post ios ndo r
      | rn xs =>
        cases e2
        exact fun l ws h1 h2 h3 h4 h5 => q _ F' H' post ios ndo ⟨l, ws, rfl, h3, h2, fun m => by
          obtain ⟨j, _, q2, q3⟩ := par l m
          exact h4 j q2 q3, h1, h5⟩
      | rr xs =>
        cases e2
        exact fun l ws h1 h2 h3 h4 => q _ F' H' post ios ndo ⟨l, ws, rfl, h1, h2, h3, fun a m => ⟨(h4 a m).2.1, (h4 a m).1, fun m2 => by
          obtain ⟨j, _, q2, q3⟩ := par a m2
          exact (h4 a m).2.2 j q2 q3⟩⟩
      | br => cases e2
      | ct => cases e2
    · cases hf
end
theorem bindsFull {K : PySem.W.Frag} {x qual : Str} {st : Stmt} {dvs : List V} {f : Addr} {fd : FuncData} {ps : List Str} (W : Fd K x qual st dvs f fd) (hd : dvs ≠ [])
    (h : ∀ (T : Addr) (kV doc pm : Value) (an : Option Addr) (cdv ct : Value) (us its : List Value), us.length = ps.length → its.length = dvs.length →
      ∃ k, bindArgs (PySem.W.fnOf x qual (defArgs st) (defBody st) (defScope st) (.ref T) kV doc pm an cdv ct) ⟨us, []⟩ = seqItems? (.ref T) >>= k ∧ k (some its.toArray) = pure (ps.zip (us ++ its.drop dvs.length))) : Binds K fd ps [] := by
  obtain ⟨ds, v, b⟩ := FunD.binds1 W ps.length dvs.length hd (by omega) h
  rw [List.drop_length] at v
  cases v
  exact b
/-- what a proved def hands to its callers: it may be called by all its parameters; by fewer, the defaults dvs filling up -/
structure Done (P : Program) (w : World) (K : PySem.W.Frag) (mg : Str → Option Value) (base : Heap) (k : Nat) (f : Addr) (ps : List Str) (fm : FM) (dvs : List V) (fd : FuncData) : Prop where
  ok : FnOk P w K mg base CX0 k f fd ps (spF K fm)
  kp : PySem.W.keepIn K (.ref f) = true
  bd : Binds K fd ps []
  dd : ∃ ds, Vals dvs ds ∧ Binds K fd ps ds

/-! ### the head: more facts -/
/-- a classmethod's record, its def -/
def cmP (K : PySem.W.Frag) (C m : Str) : Addr := He.ma K (He.ga K C) m
def recAd (K : PySem.W.Frag) (p : Addr) (T : String) : Addr := match PySem.W.recIn K p T with
  | some (.ref a :: _) => a
  | _ => 0
theorem recAd_ok {K : PySem.W.Frag} {p : Addr} {T : String} (h : (match PySem.W.recIn K p T with | some (.ref _ :: _) => true | _ => false) = true) : ∃ rest, PySem.W.recIn K p T = some (.ref (recAd K p T) :: rest) := by
  unfold recAd
  cases e : PySem.W.recIn K p T with
  | none => rw [e] at h; cases h
  | some l =>
    rw [e] at h
    cases l with
    | nil => cases h
    | cons v r => cases v <;> first | exact ⟨r, rfl⟩ | cases h
inductive Fx where
  | cmt (C m : Str)
  | nilTup (f : Str × Option Str) (i : Nat)
  | prp (C m : Str)
  | kpc (C : Str)
  | bool (p : PySem.W.Frag → Bool)
def cfB (K : PySem.W.Frag) (C m : Str) : Bool := match PySem.W.findCls K (.ref (He.ga K C)) (.type "type") m with
  | some (.get (.builtin z) (.ref p) .none (.ref c)) => z == "classmethod.__get__" && (decide (p = cmP K C m) && decide (c = He.ga K C))
  | _ => false
def tup0B (K : PySem.W.Frag) (a : Addr) : Bool := match K.lookup a with
  | some ⟨.type c, _, .seq its _, _⟩ => decide (c = "tuple") && decide (its = #[])
  | _ => false
def Fx.ok (K : PySem.W.Frag) : Fx → Bool
  | .cmt C m => (PySem.W.readsIn K (He.ga K C) (.type "type") && decide (PySem.W.specialIn K (.ref (He.ga K C)) "__getattribute__" = some (some (.builtin "type.__getattribute__")))) && (cfB K C m &&
      ((match PySem.W.recIn K (cmP K C m) "classmethod" with | some (.ref _ :: _) => true | _ => false) && PySem.W.fnIn K (recAd K (cmP K C m) "classmethod")))
  | .nilTup f i => tup0B K (He.dflAt f i K)
  | .prp C m => decide (PySem.W.findIn K (.ref (He.ga K C)) m = some (some (.ref (cmP K C m)))) && (decide (PySem.W.specialIn K (.ref (cmP K C m)) "__get__" = some (some (.builtin "property.__get__"))) && (decide (PySem.W.takesIn K (.ref (cmP K C m)) = some true) &&
      (match PySem.W.recIn K (cmP K C m) "property" with | some (.ref _ :: _) => true | _ => false)))
  | .kpc C => PySem.W.keepIn K (.ref (He.ga K C))
  | .bool p => p K
section
variable {K : PySem.W.Frag}
theorem cmt_ok {C m : Str} (h : (Fx.cmt C m).ok K = true) : ClX.CRead K (He.ga K C) (.type "type") ∧ ClX.CMet K (He.ga K C) (.type "type") m (cmP K C m) (recAd K (cmP K C m) "classmethod") := by
  obtain ⟨h1, h2⟩ := He.ba h
  obtain ⟨h3, h4⟩ := He.ba h1
  obtain ⟨h5, h6⟩ := He.ba h2
  obtain ⟨h7, h8⟩ := He.ba h6
  refine ⟨⟨h3, of_decide_eq_true h4⟩, ⟨?_, recAd_ok h7, h8⟩⟩
  unfold cfB at h5
  split at h5
  · rename_i z p c e
    obtain ⟨a1, a2⟩ := He.ba h5
    obtain ⟨a3, a4⟩ := He.ba a2
    rw [e, beq_iff_eq.mp a1, of_decide_eq_true a3, of_decide_eq_true a4]
  · cases h5
theorem nilTup_ok {f : Str × Option Str} {i : Nat} (h : (Fx.nilTup f i).ok K = true) (F : Hp) : Rep K F (.ref (He.dflAt f i K)) (.ktp []) := by
  have h' : tup0B K (He.dflAt f i K) = true := h
  unfold tup0B at h'
  split at h'
  · rename_i c od its n osl e
    obtain ⟨h1, h2⟩ := He.ba h'
    have e1 := of_decide_eq_true h1
    have e2 := of_decide_eq_true h2
    subst e1 e2
    exact .ktp (.inr ⟨_, #[], n, e, rfl, rfl, Nat.zero_le _, .nil⟩) .nil
  · cases h'
theorem prp_ok {C m : Str} (h : (Fx.prp C m).ok K = true) : PropOf K (He.ga K C) m (cmP K C m) (recAd K (cmP K C m) "property") := by
  obtain ⟨h1, h2⟩ := He.ba h
  obtain ⟨h3, h4⟩ := He.ba h2
  obtain ⟨h5, h6⟩ := He.ba h4
  exact ⟨of_decide_eq_true h1, of_decide_eq_true h3, of_decide_eq_true h5, recAd_ok h6⟩
end
/-- where a def stands: a global; a method; a classmethod's or property's def -/
inductive Wh where
  | glo (x : Str) | mth (C m : Str) | rcd (C m : Str) (T : String)
def Wh.ad (K : PySem.W.Frag) : Wh → Addr
  | .glo x => He.ga K x
  | .mth C m => He.ma K (He.ga K C) m
  | .rcd C m T => recAd K (cmP K C m) T
structure Df where
  wh : Wh
  name : Str
  qual : Str
  st : Stmt
  dfl : List He.Dv := []
  kw : List (Str × He.Dv) := []
/-- the dict of a def's keyword-only defaults, and what it says -/
def kwdAt (K : PySem.W.Frag) (f : Addr) : Addr := match K.lookup f with
  | some ⟨_, _, .func fd, _⟩ => (match fd.kwdefaults with
    | .ref D => D
    | _ => 0)
  | _ => 0
def kwdV (K : PySem.W.Frag) (f : Addr) (x : Str) : Addr := match PySem.W.nsIn K (kwdAt K f) x with
  | some (some (.ref a)) => a
  | _ => 0
def kwdB (K : PySem.W.Frag) (kV : Value) (kws : List (Str × V)) : Bool := kws.isEmpty || (match kV with
  | .ref D => kws.all fun q => (match PySem.W.nsIn K D q.1 with
    | some (some u) => He.relB q.2 u
    | _ => false)
  | _ => false)
theorem kwdB_ok {K : PySem.W.Frag} {kV : Value} {kws : List (Str × V)} (h : kwdB K kV kws = true) : KwdV K kV kws := by
  unfold kwdB at h
  rcases (Bool.or_eq_true _ _).mp h with h2 | h2
  · exact .inl (List.isEmpty_iff.mp h2)
  · cases kV with
    | ref D =>
      refine .inr ⟨D, rfl, fun q hq => ?_⟩
      have h1 := List.all_eq_true.mp h2 q hq
      split at h1
      · rename_i u e
        exact ⟨u, e, He.relB_ok h1⟩
      · cases h1
    | _ => cases h2
def fnAt (K : PySem.W.Frag) (a : Addr) : He.FnW := match K.lookup a with
  | some ⟨_, _, .func fd, _⟩ => some (fd.name, fd.qualname, fd.params, fd.body, fd.scope, fd.globals, fd.closure, fd.builtins)
  | _ => none
def Df.val (d : Df) : He.FnW := some (d.name, d.qual, defArgs d.st, .stmts (defBody d.st), defScope d.st, mainGlobals, [], builtinsNs)
def Df.dvs (K : PySem.W.Frag) (d : Df) : List V := d.dfl.map (He.Dv.v K)
def Df.kws (K : PySem.W.Frag) (d : Df) : List (Str × V) := d.kw.map fun q => (q.1, He.Dv.v K q.2)
def Df.ok (K : PySem.W.Frag) (d : Df) : Bool := PySem.W.keepIn K (.ref (d.wh.ad K)) && (match K.lookup (d.wh.ad K) with
  | some ⟨_, _, .func fd, _⟩ => PySem.W.codeIn K fd.code d.qual && (He.dflB K fd.defaults (d.dvs K) && kwdB K fd.kwdefaults (d.kws K))
  | _ => false)
theorem Df.fd {K : PySem.W.Frag} {d : Df} (e : fnAt K (d.wh.ad K) = d.val) (c : d.ok K = true) : ∃ fd, FunD K d.name d.qual (defArgs d.st) (defBody d.st) (defScope d.st) (d.dvs K) (d.kws K) (d.wh.ad K) fd := by
  obtain ⟨kp, c2⟩ := He.ba c
  unfold fnAt at e
  cases q : K.lookup (d.wh.ad K) with
  | none =>
    rw [q] at c2; cases c2
  | some o =>
    obtain ⟨oc, od, dt, osl⟩ := o
    rw [q] at c2 e
    cases dt with
    | func fd =>
      obtain ⟨n1, n2, n3, n4, n5, n6, n7, n8, n9, n10, n11, n12, n13, n14, n15⟩ := fd
      have e2 : (some (n1, n2, n3, n4, n5, n6, n7, n15) : He.FnW) = some (d.name, d.qual, defArgs d.st, .stmts (defBody d.st), defScope d.st, mainGlobals, [], builtinsNs) := e
      simp only [Option.some.injEq, Prod.mk.injEq] at e2
      obtain ⟨rfl, rfl, rfl, rfl, rfl, rfl, rfl, rfl⟩ := e2
      obtain ⟨k1, k2⟩ := He.ba (show (PySem.W.codeIn K n13 d.qual && (He.dflB K n8 (d.dvs K) && kwdB K n9 (d.kws K))) = true from c2)
      obtain ⟨k2, k3⟩ := He.ba k2
      exact ⟨_, ⟨oc, od, n8, n9, n10, n11, n12, n13, n14, osl, rfl, q, k1, He.dflB_ok k2, kwdB_ok k3⟩, kp⟩
    | _ => cases c2
/-! ### the hook -/
abbrev AlE : Type := (Bool × List He.FnW) × List (Option (List (Option (Str × Int))))
/-- dicts of the module: the name, the keys in order -/
abbrev Tb : Type := Str × List Str
def obsE (fa : List He.Fa) (fx : List Fx) (fn : List Df) (tb : List Tb) (K : PySem.W.Frag) : AlE := ((((fa.all fun f => f.ok K) && fx.all fun f => f.ok K) && fn.all fun d => d.ok K, fn.map fun d => fnAt K (d.wh.ad K)), tb.map fun t => He.dicW K (He.ga K t.1))
def valE (fn : List Df) (tb : List Tb) (w : World) : AlE := ((true, fn.map Df.val), tb.map fun t => some (He.keysIn w.params t.2))
def SaysE (fa : List He.Fa) (fx : List Fx) (fn : List Df) (tb : List Tb) (w : World) (K : PySem.W.Frag) : Prop := obsE fa fx fn tb K = valE fn tb w
def obsEG (n : Nat) (fa : List He.Fa) (fx : List Fx) (fn : List Df) (tb : List Tb) (g : Addr → Option Obj) : AlE := obsE fa fx fn tb (He.frG g (cStatics :: He.asD g n))
def hookE (n : Nat) (fa : List He.Fa) (fx : List Fx) (fn : List Df) (tb : List Tb) : PySem.W.Hook where
  α := AlE
  obs := fun s => obsEG n fa fx fn tb s.heap.get?
  val := fun w => valE fn tb w
  says := fun w h => ∃ K : PySem.W.Frag, K.In h ∧ SaysE fa fx fn tb w K
  of := fun _ _ e => ⟨_, He.frG_in, e⟩
  keeps := fun _ _ _ ⟨K, hK, c⟩ k => ⟨K, PySem.W.Frag.In.keeps hK k, c⟩
theorem obsEG_eq {n : Nat} {fa : List He.Fa} {fx : List Fx} {fn : List Df} {tb : List Tb} {g : Addr → Option Obj} {s : Shared} (h : ∀ a, g a = s.heap.get? a) : obsEG n fa fx fn tb g = (hookE n fa fx fn tb).obs s := by
  rw [show g = s.heap.get? from funext h]; rfl
section
variable {fa : List He.Fa} {fx : List Fx} {fn : List Df} {tb : List Tb} {w : World} {K : PySem.W.Frag}
theorem SaysE.one (c : SaysE fa fx fn tb w K) : ((fa.all fun f => f.ok K) && fx.all fun f => f.ok K) = true ∧ (fn.all fun d => d.ok K) = true := He.ba (congrArg (fun z : AlE => z.1.1) c)
theorem SaysE.atA (c : SaysE fa fx fn tb w K) (i : Nat) {f : He.Fa} (h : fa[i]? = some f := by rfl) : f.ok K = true := List.all_eq_true.mp (He.ba c.one.1).1 f (List.mem_of_getElem? h)
theorem SaysE.atX (c : SaysE fa fx fn tb w K) (i : Nat) {f : Fx} (h : fx[i]? = some f := by rfl) : f.ok K = true := List.all_eq_true.mp (He.ba c.one.1).2 f (List.mem_of_getElem? h)
theorem SaysE.atF (c : SaysE fa fx fn tb w K) (i : Nat) {d : Df} (h : fn[i]? = some d := by rfl) : ∃ fd, FunD K d.name d.qual (defArgs d.st) (defBody d.st) (defScope d.st) (d.dvs K) (d.kws K) (d.wh.ad K) fd := by
  have e : fn.map (fun d => fnAt K (d.wh.ad K)) = fn.map Df.val := congrArg (fun z : AlE => z.1.2) c
  have e2 : (fn.map fun d => fnAt K (d.wh.ad K))[i]? = (fn.map Df.val)[i]? := by rw [e]
  rw [List.getElem?_map, List.getElem?_map, h] at e2
  exact Df.fd (Option.some.inj e2) (List.all_eq_true.mp c.one.2 d (List.mem_of_getElem? h))
theorem SaysE.tab (c : SaysE fa fx fn tb w K) (i : Nat) {t : Tb} (h : tb[i]? = some t := by rfl) : ∃ es n, KDict K w (He.ga K t.1) es n := by
  have e : tb.map (fun t => He.dicW K (He.ga K t.1)) = tb.map fun t => some (He.keysIn w.params t.2) := congrArg (fun z : AlE => z.2) c
  have e2 : (tb.map fun t => He.dicW K (He.ga K t.1))[i]? = (tb.map fun t => some (He.keysIn w.params t.2))[i]? := by rw [e]
  rw [List.getElem?_map, List.getElem?_map, h] at e2
  exact He.dicW_ok (Option.some.inj e2)
end
end L3

namespace L3
open PySem L2

/-! ### the mirrors, run: Ex x Q: x gives a value, and it is so -/
def Ex0 {α : Type} (x : Option α) (Q : α → Prop) : Prop := ∃ a, x = some a ∧ Q a
inductive Dm {α : Type} (Q : α → Prop) : Type
  | mk
/-- the last argument keeps the simplifier out of Q until x is known -/
def Ex {α : Type} (x : Option α) (Q : α → Prop) (_w : Dm Q := .mk) : Prop := ∃ a, x = some a ∧ Q a
section
variable {α β : Type} {x : Option α} {Q : α → Prop}
theorem ex_eq {w : Dm Q} : Ex x Q w = Ex0 x Q := rfl
theorem ex0_some {a : α} : Ex0 (some a) Q = Q a := propext ⟨fun ⟨_, e, q⟩ => by cases e; exact q, fun q => ⟨a, rfl, q⟩⟩
theorem ex0_none : Ex0 (none : Option α) Q = False := propext ⟨fun ⟨_, e, _⟩ => (nomatch e), False.elim⟩
theorem ex0_bind {y : Option β} {f : β → Option α} : Ex0 (y.bind f) Q = Ex0 y fun b => Ex0 (f b) Q := by
  cases y with
  | none => rw [Option.bind_none, ex0_none, ex0_none]
  | some b => rw [Option.bind_some, ex0_some]
theorem ex0_guard {c : Prop} [Decidable c] : Ex0 (if c then x else none) Q = (c ∧ Ex0 x Q) := by
  by_cases h : c
  · rw [if_pos h]; exact propext ⟨fun q => ⟨h, q⟩, fun q => q.2⟩
  · rw [if_neg h, ex0_none]; exact propext ⟨False.elim, fun q => h q.1⟩
theorem ex_some {a : α} {w : Dm Q} : Ex (some a) Q w = Q a := ex0_some
theorem ex_none {w : Dm Q} : Ex (none : Option α) Q w = False := ex0_none
theorem ex_bind {y : Option β} {f : β → Option α} {w : Dm Q} : Ex (y.bind f) Q w = Ex y fun b => Ex (f b) Q := ex0_bind
theorem ex_guard {c : Prop} [Decidable c] {w : Dm Q} : Ex (if c then x else none) Q w = (c ∧ Ex x Q) := ex0_guard
theorem ex_ite {c : Prop} [Decidable c] {y : Option α} {w : Dm Q} : Ex (if c then x else y) Q w = ((c → Ex x Q) ∧ (¬c → Ex y Q)) := by
  by_cases h : c
  · rw [if_pos h]; exact propext ⟨fun q => ⟨fun _ => q, fun n => absurd h n⟩, fun q => q.1 h⟩
  · rw [if_neg h]; exact propext ⟨fun q => ⟨fun p => absurd p h, fun _ => q⟩, fun q => q.2 h⟩
theorem Ex.mono {P : α → Prop} (h : Ex x P) (i : ∀ a, P a → Q a) : Ex x Q := let ⟨a, e, p⟩ := h; ⟨a, e, i a p⟩
theorem Ex.to {a : α} (h : Ex x fun b => b = a) : x = some a := let ⟨b, e, p⟩ := h; by rw [e, p]
end
section
variable {α : Type} {ρ : Env} {Q : D × Env → Prop} {QO : Opd × Env → Prop} {QA : List Opd × Env → Prop} {QT : Bool × Env → Prop} {QS : Out × Env → Prop} {QL : List D × Env → Prop} {QR : Env → Prop}
variable {f h : EM} {o o1 o2 o3 : OM} {a : AM} {t t1 t2 : TM} {s s1 s2 : SM} {i j : Nat} {n m : Nat}
theorem x_eC {d : D} : Ex (eC d ρ) Q = Q (d, ρ) := ex_some
def dAt (ρ : Env) (i : Nat) : Option D := match ρ[i]? with
  | some (some (.d x)) => some x
  | _ => none
theorem x_eV : Ex (eV i ρ) Q = Ex (dAt ρ i) fun x => Q (x, ρ) := by
  simp only [ex_eq]
  unfold eV dAt; generalize ρ[i]? = z; rcases z with _ | _ | x | ⟨t, x⟩ | ⟨t, x⟩ <;>
  simp only [ex0_some, ex0_none]
theorem x_oV : Ex (oV f ρ) QO = Ex (f ρ) fun p => QO (.val p.1, p.2) := by
  simp only [ex_eq]
  unfold oV; rw [ex0_bind]; simp only [ex0_some]
def ownAny (ρ : Env) (i : Nat) : Option D := match ρ[i]? with
  | some (some (.own _ x)) => some x
  | some (some (.tre _ x)) => some (ub x)
  | _ => none
theorem x_oR : Ex (oR i ρ) QO = Ex (ownAny ρ i) fun _ => QO (.ref i, ρ) := by
  simp only [ex_eq]
  unfold oR ownAny; generalize ρ[i]? = z; rcases z with _ | _ | x | ⟨t, x⟩ | ⟨t, x⟩ <;>
  simp only [ex0_some, ex0_none]
theorem x_oI : Ex (oI i ρ) QO = Ex (ownAny ρ i) fun _ => QO (.io i, ρ) := by
  simp only [ex_eq]
  unfold oI ownAny; generalize ρ[i]? = z; rcases z with _ | _ | x | ⟨t, x⟩ | ⟨t, x⟩ <;>
  simp only [ex0_some, ex0_none]
theorem res_v {d : D} : res ρ (.val d) = some d := rfl
theorem res_r : res ρ (.ref i) = ownAny ρ i := rfl
theorem res_i : res ρ (.io i) = none := rfl
theorem isVal_v {d : D} : isVal (.val d) = true := rfl
theorem isVal_r : isVal (.ref i) = false := rfl
theorem isVal_i : isVal (.io i) = false := rfl
theorem x_fin {v : Bool} {c : D} : Ex (fin v c ρ) Q = ((v = true ∨ lf c = true) ∧ Q (c, ρ)) := by
  simp only [ex_eq]
  unfold fin; rw [ex0_guard, ex0_some]
  simp only [Bool.or_eq_true]
theorem x_finN {v : Bool} {c : D} : Ex (finN v c ρ) Q = ((v = true ∨ lfo c = true) ∧ Q (c, ρ)) := by
  simp only [ex_eq]
  unfold finN; rw [ex0_guard, ex0_some]
  simp only [Bool.or_eq_true]
theorem x_e1 {k : D → Option D} : Ex (e1 k o ρ) Q = Ex (o ρ) fun p => Ex (res p.2 p.1) fun a => Ex (k a) fun c => Ex (fin (isVal p.1) c p.2) Q := by
  simp only [ex_eq]
  unfold e1; simp only [ex0_bind]
theorem x_e2 {k : D → D → Option D} : Ex (e2 k o1 o2 ρ) Q = Ex (o1 ρ) fun p => Ex (o2 p.2) fun q => Ex (res q.2 p.1) fun a => Ex (res q.2 q.1) fun b => Ex (k a b) fun c => Ex (fin (isVal p.1 && isVal q.1) c q.2) Q := by
  simp only [ex_eq]
  unfold e2; simp only [ex0_bind]
theorem x_eL {k : List D → Option D} : Ex (eL k a ρ) Q = Ex (a ρ) fun p => Ex (resAll p.2 p.1) fun as => Ex (k as) fun c => Ex (fin (allVal p.1) c p.2) Q := by
  simp only [ex_eq]
  unfold eL; simp only [ex0_bind]
theorem x_nL {k : List D → Option D} : Ex (nL k a ρ) Q = Ex (a ρ) fun p => Ex (resAll p.2 p.1) fun as => Ex (k as) fun c => Ex (finN (allVal p.1) c p.2) Q := by
  simp only [ex_eq]
  unfold nL; simp only [ex0_bind]
theorem x_aN : Ex (aN ρ) QA = QA ([], ρ) := ex_some
theorem x_aC : Ex (aC o a ρ) QA = Ex (o ρ) fun p => Ex (a p.2) fun q => QA (p.1 :: q.1, q.2) := by
  simp only [ex_eq]
  unfold aC; simp only [ex0_bind, ex0_some]
theorem resAll_n : resAll ρ [] = some [] := rfl
theorem x_resAll {o : Opd} {r : List Opd} {QD : List D → Prop} : Ex (resAll ρ (o :: r)) QD = Ex (res ρ o) fun d => Ex (resAll ρ r) fun ds => QD (d :: ds) := by
  show Ex0 ((res ρ o).bind fun d => (resAll ρ r).bind fun ds => some (d :: ds)) QD = _
  simp only [ex0_bind, ex0_some, ex_eq]
theorem x_valsOf {d : D} {r : List Opd} {QD : List D → Prop} : Ex (valsOf (.val d :: r)) QD = Ex (valsOf r) fun ds => QD (d :: ds) := by
  show Ex0 ((valsOf r).bind fun ds => some (d :: ds)) QD = _
  simp only [ex0_bind, ex0_some, ex_eq]
theorem valsOf_n : valsOf [] = some [] := rfl
/-! tests -/
theorem x_tV : Ex (tV f ρ) QT = Ex (f ρ) fun p => ∃ b, p.1 = .bl b ∧ QT (b, p.2) := by
  simp only [ex_eq]
  unfold tV; rw [ex0_bind]
  congr 1; funext p
  obtain ⟨d, ρ'⟩ := p
  cases d <;> simp [ex0_some, ex0_none]
theorem x_tNt : Ex (tNt t ρ) QT = Ex (t ρ) fun p => QT (!p.1, p.2) := by
  simp only [ex_eq]
  unfold tNt; simp only [ex0_bind, ex0_some]
theorem bt0 {b : Bool} {x y : Option α} {P : α → Prop} : Ex0 (if b then x else y) P = ((b = true → Ex0 x P) ∧ (b = false → Ex0 y P)) := by
  cases b <;> simp
theorem bt {b : Bool} {x y : Option α} {P : α → Prop} : Ex (if b then x else y) P = ((b = true → Ex x P) ∧ (b = false → Ex y P)) := by
  simp only [ex_eq]
  cases b <;> simp
theorem x_tAn : Ex (tAn t1 t2 ρ) QT = Ex (t1 ρ) fun p => (p.1 = true → Ex (t2 p.2) QT) ∧ (p.1 = false → QT (false, p.2)) := by
  simp only [ex_eq]
  unfold tAn; simp only [ex0_bind, bt0, ex0_some]
theorem x_tOr : Ex (tOr' t1 t2 ρ) QT = Ex (t1 ρ) fun p => (p.1 = true → QT (true, p.2)) ∧ (p.1 = false → Ex (t2 p.2) QT) := by
  simp only [ex_eq]
  unfold tOr'; simp only [ex0_bind, bt0, ex0_some]
theorem x_tYs : Ex (tYs ρ) QT = QT (true, ρ) := ex_some
theorem x_eB : Ex (eB t ρ) Q = Ex (t ρ) fun p => Q (.bl p.1, p.2) := by
  simp only [ex_eq]
  unfold eB; simp only [ex0_bind, ex0_some]
theorem x_eIf : Ex (eIf t f h ρ) Q = Ex (t ρ) fun p => (p.1 = true → Ex (f p.2) Q) ∧ (p.1 = false → Ex (h p.2) Q) := by
  simp only [ex_eq]
  unfold eIf; simp only [ex0_bind, bt0]
theorem x_eAnd : Ex (eAnd f h ρ) Q = Ex (f ρ) fun p => ∃ b, p.1 = .bl b ∧ (b = true → Ex (h p.2) Q) ∧ (b = false → Q (.bl false, p.2)) := by
  simp only [ex_eq]
  unfold eAnd; rw [ex0_bind]
  congr 1; funext p
  obtain ⟨d, ρ'⟩ := p
  cases d with
  | bl b => cases b <;> simp [ex0_some]
  | _ => simp [ex0_none]
theorem x_eOr : Ex (eOr f h ρ) Q = Ex (f ρ) fun p => ∃ b, p.1 = .bl b ∧ (b = true → Q (.bl true, p.2)) ∧ (b = false → Ex (h p.2) Q) := by
  simp only [ex_eq]
  unfold eOr; rw [ex0_bind]
  congr 1; funext p
  obtain ⟨d, ρ'⟩ := p
  cases d with
  | bl b => cases b <;> simp [ex0_some]
  | _ => simp [ex0_none]
theorem x_eNot : Ex (eNot f ρ) Q = Ex (f ρ) fun p => ∃ b, p.1 = .bl b ∧ Q (.bl (!b), p.2) := by
  simp only [ex_eq]
  unfold eNot; rw [ex0_bind]
  congr 1; funext p
  obtain ⟨d, ρ'⟩ := p
  cases d <;> simp [ex0_some, ex0_none]
theorem x_eTup : Ex (eTup a ρ) Q = Ex (a ρ) fun p => Ex (valsOf p.1) fun ds => Q (.tup ds, p.2) := by
  simp only [ex_eq]
  unfold eTup; simp only [ex0_bind, ex0_some]
theorem x_nLst : Ex (nLst a ρ) Q = Ex (a ρ) fun p => Ex (valsOf p.1) fun ds => Q (.lst ds, p.2) := by
  simp only [ex_eq]
  unfold nLst; simp only [ex0_bind, ex0_some]
theorem x_eChain {k k' : D → D → Option D} : Ex (eChain k k' o1 o2 o3 ρ) Q = Ex (o1 ρ) fun p => Ex (o2 p.2) fun q => Ex (res q.2 p.1) fun a => Ex (res q.2 q.1) fun b => Ex (k a b) fun c => ∃ z, c = .bl z ∧ (isVal p.1 = true ∧ isVal q.1 = true) ∧
    (z = true → Ex (o3 q.2) fun r => Ex (res r.2 r.1) fun d => isVal r.1 = true ∧ Ex (k' b d) fun x => Q (x, r.2)) ∧ (z = false → Q (.bl false, q.2)) := by
  simp only [ex_eq]
  unfold eChain; simp only [ex0_bind]
  congr 1; funext p; congr 1; funext q; congr 1; funext a; congr 1; funext b; congr 1; funext c
  cases c with
  | bl z =>
    cases z
    · simp only [ex0_guard, ex0_some, Bool.and_eq_true]
      simp
    · simp only [ex0_bind, ex0_guard, ex0_some, Bool.and_eq_true]
      apply propext
      constructor
      · rintro ⟨r, e1, d, e2, ⟨⟨h1, h2⟩, h3⟩, x, e3, q3⟩
        exact ⟨true, rfl, ⟨h1, h2⟩, fun _ => ⟨r, e1, d, e2, h3, x, e3, q3⟩, fun z => by cases z⟩
      · rintro ⟨_, e, ⟨h1, h2⟩, h, _⟩
        cases e
        obtain ⟨r, e1, d, e2, h3, x, e3, q3⟩ := h rfl
        exact ⟨r, e1, d, e2, ⟨⟨h1, h2⟩, h3⟩, x, e3, q3⟩
  | _ => simp [ex0_none]
/-! statements -/
theorem x_sNx : Ex (sNx ρ) QS = QS (.nx, ρ) := ex_some
def seqK (h : SM) (QS : Out × Env → Prop) : Out → Env → Prop
  | .nx, ρ => Ex (h ρ) QS
  | o, ρ => QS (o, ρ)
theorem x_sSeq : Ex (sSeq s1 s2 ρ) QS = Ex (s1 ρ) fun p => seqK s2 QS p.1 p.2 := by
  simp only [ex_eq]
  unfold sSeq; rw [ex0_bind]
  congr 1; funext p
  obtain ⟨o, ρ'⟩ := p
  cases o <;> simp only [ex0_some] <;> rfl
theorem seqK_nx : seqK s2 QS .nx ρ = Ex (s2 ρ) QS := rfl
theorem seqK_br : seqK s2 QS .br ρ = QS (.br, ρ) := rfl
theorem seqK_ct : seqK s2 QS .ct ρ = QS (.ct, ρ) := rfl
theorem seqK_rt {d : D} : seqK s2 QS (.rt d) ρ = QS (.rt d, ρ) := rfl
theorem seqK_rn {d : D} : seqK s2 QS (.rn d) ρ = QS (.rn d, ρ) := rfl
theorem seqK_rr {d : D} : seqK s2 QS (.rr d) ρ = QS (.rr d, ρ) := rfl
theorem x_sRet : Ex (sRet f ρ) QS = Ex (f ρ) fun p => QS (.rt p.1, p.2) := by
  simp only [ex_eq]
  unfold sRet; simp only [ex0_bind, ex0_some]
theorem x_sRetN : Ex (sRetN f ρ) QS = Ex (f ρ) fun p => QS (.rn p.1, p.2) := by
  simp only [ex_eq]
  unfold sRetN; simp only [ex0_bind, ex0_some]
def ownNew (ρ : Env) (i : Nat) : Option D := match ρ[i]? with
  | some (some (.own none x)) => some x
  | _ => none
def retO (ρ : Env) (i : Nat) : Option Out := match ρ[i]? with
  | some (some (.own none x)) => some (.rn x)
  | some (some (.tre none x)) => some (.rr x)
  | _ => none
theorem x_sRetO : Ex (sRetO i ρ) QS = Ex (retO ρ i) fun o => QS (o, ρ) := by
  simp only [ex_eq]
  unfold sRetO retO; generalize ρ[i]? = z; rcases z with _ | _ | x | ⟨_ | t, x⟩ | ⟨_ | t, x⟩ <;>
  simp only [ex0_some, ex0_none]
theorem x_sIf : Ex (sIf t s1 s2 ρ) QS = Ex (t ρ) fun p => (p.1 = true → Ex (s1 p.2) QS) ∧ (p.1 = false → Ex (s2 p.2) QS) := by
  simp only [ex_eq]
  unfold sIf; simp only [ex0_bind, bt0]
theorem x_sSet : Ex (sSet i f ρ) QS = Ex (f ρ) fun p => QS (.nx, p.2.set i (some (.d p.1))) := by
  simp only [ex_eq]
  unfold sSet; simp only [ex0_bind, ex0_some]
theorem x_sSetN : Ex (sSetN i f ρ) QS = Ex (f ρ) fun p => QS (.nx, p.2.set i (some (.d p.1))) := by
  simp only [ex_eq]
  unfold sSetN; simp only [ex0_bind, ex0_some]
theorem x_sOwn : Ex (sOwn i f ρ) QS = Ex (f ρ) fun p => QS (.nx, p.2.set i (some (.own none p.1))) := by
  simp only [ex_eq]
  unfold sOwn; simp only [ex0_bind, ex0_some]
theorem x_sEx : Ex (sEx f ρ) QS = Ex (f ρ) fun p => QS (.nx, p.2) := by
  simp only [ex_eq]
  unfold sEx; simp only [ex0_bind, ex0_some]
theorem x_sFrz : Ex (sFrz i s ρ) QS = Ex (ownNew ρ i) fun x => Ex (s (ρ.set i (some (.d x)))) QS := by
  simp only [ex_eq]
  unfold sFrz ownNew; generalize ρ[i]? = z; rcases z with _ | _ | x | ⟨_ | t, x⟩ <;>
  simp only [ex0_some, ex0_none]
theorem x_sBr : Ex (sBr ρ) QS = QS (.br, ρ) := ex_some
theorem x_sCt : Ex (sCt ρ) QS = QS (.ct, ρ) := ex_some
theorem x_sAsg {g : GM} : Ex (sAsg f g ρ) QS = Ex (f ρ) fun p => Ex (g p.1 p.2) fun ρ' => QS (.nx, ρ') := by
  simp only [ex_eq]
  unfold sAsg; simp only [ex0_bind, ex0_some]
theorem x_gN {d : D} : Ex (gN i d ρ) QR = QR (ρ.set i (some (.d d))) := ex_some
def tupItems : D → Option (List D)
  | .tup l => some l
  | .ktp l => some l
  | _ => none
theorem x_gTp {h : List D → Env → Option Env} {d : D} : Ex (gTp n h d ρ) QR = Ex (tupItems d) fun l => l.length = n ∧ Ex (h l ρ) QR := by
  simp only [ex_eq]
  unfold gTp tupItems
  cases d <;> simp only [ex0_guard, ex0_some, ex0_none]
theorem x_gsN : Ex (gsNil [] ρ) QR = QR ρ := ex_some
theorem x_gsC {g : GM} {h : List D → Env → Option Env} {d : D} {r : List D} : Ex (gsCons g h (d :: r) ρ) QR = Ex (g d ρ) fun ρ1 => Ex (h r ρ1) QR := by
  simp only [ex_eq]
  unfold gsCons; simp only [ex0_bind]
theorem x_sPar : Ex (sPar i j a ρ) QS = Ex (a ρ) fun p => Ex (valsOf p.1) fun ds => ∃ x y, ds = [x, y] ∧ QS (.nx, (p.2.set i (some (.d x))).set j (some (.d y))) := by
  simp only [ex_eq]
  unfold sPar; simp only [ex0_bind]
  congr 1; funext p; congr 1; funext ds
  cases ds with
  | nil => simp [ex0_none]
  | cons x r =>
    cases r with
    | nil => simp [ex0_none]
    | cons y r =>
      cases r with
      | nil => exact propext ⟨fun q => ⟨x, y, rfl, by rw [ex0_some] at q; exact q⟩, fun ⟨_, _, e, q⟩ => by cases e; rw [ex0_some]; exact q⟩
      | cons z r => simp [ex0_none]
def ownL (ρ : Env) (i : Nat) : Option (Option Nat × List D) := match ρ[i]? with
  | some (some (.own t (.lst xs))) => some (t, xs)
  | _ => none
def ownK (ρ : Env) (i : Nat) : Option (Option Nat × List (Key × D)) := match ρ[i]? with
  | some (some (.own t (.dk xs))) => some (t, xs)
  | _ => none
theorem x_sApp : Ex (sApp i f ρ) QS = Ex (ownL ρ i) fun _ => Ex (f ρ) fun p => Ex (ownL p.2 i) fun q => q.2.length < 16777216 ∧ QS (.nx, p.2.set i (some (.own q.1 (.lst (q.2 ++ [p.1]))))) := by
  simp only [ex_eq]
  unfold sApp ownL
  generalize ρ[i]? = z; rcases z with _ | _ | x | ⟨t, x⟩ <;> try simp only [ex0_some, ex0_none]
  cases x <;> simp only [ex0_some, ex0_none, ex0_bind]
  congr 1; funext p
  generalize p.2[i]? = z; rcases z with _ | _ | x | ⟨t, x⟩ <;> try simp only [ex0_some, ex0_none]
  cases x <;> simp only [ex0_some, ex0_none, ex0_guard]
theorem isOwn_l {v : Option Nat × List D} (e : ownL ρ i = some v) : isOwn ρ i = true := by
  unfold ownL at e
  unfold isOwn
  split at e
  · rename_i h; rw [h]
  · cases e
theorem x_sPutL {fv fi : EM} : Ex (sPutL i fv fi ρ) QS = Ex (fv ρ) fun p => isOwn p.2 i = true ∧ Ex (fi p.2) fun q => Ex (ownL q.2 i) fun w => ∃ k, q.1 = .int k ∧ Ex (ixN w.2.length k) fun j => QS (.nx, q.2.set i (some (.own w.1 (.lst (w.2.set j p.1))))) := by
  simp only [ex_eq]
  unfold sPutL ownL
  simp only [ex0_bind, ex0_guard]
  congr 1; funext p; congr 2; funext q
  obtain ⟨d, ρ'⟩ := q
  dsimp only
  generalize ρ'[i]? = z; rcases z with _ | _ | x | ⟨t, x⟩ <;> try simp only [ex0_some, ex0_none]
  cases x <;> cases d <;> simp [ex0_bind, ex0_some, ex0_none]
theorem x_sPutD {fv fi : EM} : Ex (sPutD i fv fi ρ) QS = Ex (fv ρ) fun p => isOwn p.2 i = true ∧ Ex (fi p.2) fun q => Ex (ownK q.2 i) fun w => Ex (keyOf q.1) fun k => w.2.length < 16777216 ∧ QS (.nx, q.2.set i (some (.own w.1 (.dk (putD w.2 k p.1))))) := by
  simp only [ex_eq]
  unfold sPutD ownK
  simp only [ex0_bind, ex0_guard]
  congr 1; funext p; congr 2; funext q
  obtain ⟨d, ρ'⟩ := q
  dsimp only
  generalize ρ'[i]? = z; rcases z with _ | _ | x | ⟨t, x⟩ <;> try simp only [ex0_some, ex0_none]
  cases x <;> simp only [ex0_bind, ex0_some, ex0_none, ex0_guard]
def ownIn (C : Addr) (ρ : Env) (i : Nat) : Option (Option Nat × List (Str × D)) := match ρ[i]? with
  | some (some (.own t (.ins C' gs))) => if C' = C then some (t, gs) else none
  | _ => none
/-! loops -/
def lstItems : D → Option (List D)
  | .lst l => some l
  | .scr ns => some (ns.map D.int)
  | _ => none
theorem x_itV : Ex (itV f ρ) QL = Ex (f ρ) fun p => Ex (lstItems p.1) fun l => QL (l, p.2) := by
  simp only [ex_eq]
  unfold itV; rw [ex0_bind]
  congr 1; funext p
  obtain ⟨d, ρ'⟩ := p
  cases d <;> simp only [lstItems, ex0_some, ex0_none]
theorem x_itT : Ex (itT f ρ) QL = Ex (f ρ) fun p => Ex (tupItems p.1) fun l => QL (l, p.2) := by
  simp only [ex_eq]
  unfold itT; rw [ex0_bind]
  congr 1; funext p
  obtain ⟨d, ρ'⟩ := p
  cases d <;> simp only [tupItems, ex0_some, ex0_none]
def int1 : List Opd → Option Int
  | [.val (.int j)] => some j
  | _ => none
def int2 : List Opd → Option (Int × Int)
  | [.val (.int i), .val (.int j)] => some (i, j)
  | _ => none
theorem x_itR1 : Ex (itR1 a ρ) QL = Ex (a ρ) fun p => Ex (int1 p.1) fun j => big j = true ∧ QL (rng 0 j.toNat, p.2) := by
  simp only [ex_eq]
  unfold itR1; rw [ex0_bind]
  congr 1; funext p
  obtain ⟨l, ρ'⟩ := p
  unfold int1
  rcases l with _ | ⟨x, _ | ⟨y, r⟩⟩ <;> try simp only [ex0_some, ex0_none]
  · rcases x with d | _ | _ <;> try simp only [ex0_some, ex0_none]
    cases d <;> simp only [ex0_some, ex0_none, ex0_guard]
theorem x_itR2 : Ex (itR2 a ρ) QL = Ex (a ρ) fun p => Ex (int2 p.1) fun j => (big j.1 = true ∧ big j.2 = true) ∧ QL (rng j.1 (j.2 - j.1).toNat, p.2) := by
  simp only [ex_eq]
  unfold itR2; rw [ex0_bind]
  congr 1; funext p
  obtain ⟨l, ρ'⟩ := p
  unfold int2
  rcases l with _ | ⟨x, _ | ⟨y, _ | ⟨z, r⟩⟩⟩
  · simp only [ex0_none]
  · rcases x with d | _ | _ <;> simp only [ex0_none]
  · rcases x with d | _ | _ <;> try simp only [ex0_none]
    cases d <;> try simp only [ex0_none]
    rcases y with e | _ | _ <;> try simp only [ex0_none]
    cases e <;> simp only [ex0_some, ex0_none, ex0_guard, Bool.and_eq_true]
  · rcases x with d | _ | _ <;> simp only [ex0_none]
theorem x_sFor {it : LM} {h : GM} : Ex (sFor it h s ρ) QS = Ex (it ρ) fun p => Ex (loop h s p.1 p.2) QS := by
  simp only [ex_eq]
  unfold sFor; rw [ex0_bind]
theorem x_nLc {it : LM} {h : GM} {e : EM} {vs : List Nat} : Ex (nLc it h t e vs ρ) Q = Ex (it ρ) fun p => Ex (lcLoop h t e vs p.1 [] p.2) fun q => Q (.lst q.1, putBack p.2 q.2 vs) := by
  simp only [ex_eq]
  unfold nLc; simp only [ex0_bind, ex0_some]
/-! calls -/
theorem x_mkF {B : SM} {as : List A} {QF : Res × List D → Prop} : Ex (mkF n m B as) QF = (as.length = n ∧ Ex (B (entry 0 as ++ List.replicate (m - n) none)) fun p => Ex (resOf p.1) fun r => Ex (collect 0 0 as p.2) fun os => QF (r, os)) := by
  simp only [ex_eq]
  unfold mkF; simp only [ex0_guard, ex0_bind, ex0_some]
theorem x_callO {fm : FM} {dds : List D} {os : List Opd} {QC : Res × Bool × Env → Prop} : Ex (callO fm dds os ρ) QC = (((ios os).Nodup ∧ okOs os (ios os) = true) ∧ Ex (argsOf ρ os) fun as => Ex (fm (as ++ dds.map A.v)) fun r => Ex (putOuts os r.2 ρ) fun ρ2 =>
    (hasRef os = false ∨ r.2.all lfo = true) ∧ QC (r.1, !hasRef os, ρ2)) := by
  simp only [ex_eq]
  unfold callO; simp only [ex0_guard, ex0_bind, ex0_some]
theorem x_eCall {fm : FM} {dds : List D} : Ex (eCall fm dds a ρ) Q = Ex (a ρ) fun p => Ex (callO fm dds p.1 p.2) fun r => Ex (finR r) Q := by
  simp only [ex_eq]
  unfold eCall; rw [ex0_bind, callM_eq, ex0_bind]
theorem x_nCall {fm : FM} {dds : List D} : Ex (nCall fm dds a ρ) Q = Ex (a ρ) fun p => Ex (callO fm dds p.1 p.2) fun r => Ex (resL r.1) fun xs => (r.2.1 = true ∨ lfo xs = true) ∧ Q (xs, r.2.2) := by
  simp only [ex_eq]
  unfold nCall; rw [ex0_bind, callM_eq, ex0_bind]
  simp only [ex0_bind, ex0_guard, ex0_some, Bool.or_eq_true]
theorem x_eMeth {C : Addr} {mm : Str} {fm : FM} {dds : List D} : Ex (eMeth C mm fm dds o a ρ) Q = Ex (o ρ) fun p => insOk C mm (conts p.2 p.1) = true ∧ Ex (a p.2) fun q => Ex (callO fm dds (p.1 :: q.1) q.2) fun r => Ex (finR r) Q := by
  simp only [ex_eq]
  unfold eMeth; simp only [ex0_guard, ex0_bind]
theorem x_eProp {C : Addr} {fm : FM} {dds : List D} : Ex (eProp C fm dds o ρ) Q = Ex (o ρ) fun p => insOf C (conts p.2 p.1) = true ∧ Ex (callO fm dds [p.1] p.2) fun r => Ex (finR r) Q := by
  simp only [ex_eq]
  unfold eProp; simp only [ex0_guard, ex0_bind]
def isCls (C : Addr) : D → Bool
  | .cls C' => decide (C' = C)
  | _ => false
theorem x_eCMeth {C : Addr} {fm : FM} {dds : List D} : Ex (eCMeth C fm dds f a ρ) Q = Ex (f ρ) fun p => isCls C p.1 = true ∧ Ex (a p.2) fun q => Ex (callO fm dds (.val (.cls C) :: q.1) q.2) fun r => Ex (finR r) Q := by
  simp only [ex_eq]
  unfold eCMeth; rw [ex0_bind]
  congr 1; funext p
  obtain ⟨d, ρ'⟩ := p
  cases d <;> simp [isCls, ex0_none, ex0_guard, ex0_bind]
def isNon : Res → Bool
  | .d .non => true
  | _ => false
theorem x_nMake {C : Addr} {fm : FM} {dds : List D} : Ex (nMake C fm dds a ρ) Q = Ex (a ρ) fun p => Ex (callO fm dds (.io p.2.length :: p.1) (p.2 ++ [some (.own none (.ins C []))])) fun r => isNon r.1 = true ∧ Ex (ownNew r.2.2 p.2.length) fun x => (r.2.1 = true ∨ lfo x = true) ∧ Q (x, r.2.2.take p.2.length) := by
  simp only [ex_eq]
  unfold nMake; simp only [ex0_bind]
  congr 1; funext p; congr 1; funext r
  obtain ⟨r1, r2, ρ2⟩ := r
  unfold ownNew
  dsimp only
  cases r1 with
  | n x => simp [isNon, ex0_none]
  | r x => simp [isNon, ex0_none]
  | d x =>
    cases x <;> simp only [isNon, Bool.false_eq_true, false_and, ex0_none, true_and]
    generalize ρ2[p.2.length]? = z; rcases z with _ | _ | x | ⟨_ | t, x⟩ | ⟨_ | t, x⟩ <;> simp only [ex0_some, ex0_none, ex0_guard, Bool.or_eq_true]
  
theorem x_nMakeL {C : Addr} {fm : FM} {dds : List D} : Ex (nMakeL i C fm dds a ρ) Q = Ex (dAt ρ i) fun c => isCls C c = true ∧ Ex (nMake C fm dds a ρ) Q := by
  simp only [ex_eq]
  unfold nMakeL dAt
  generalize ρ[i]? = z; rcases z with _ | _ | x | ⟨t, x⟩ <;> try simp only [ex0_some, ex0_none]
  cases x <;> simp [isCls, ex0_guard, ex0_none]
  
theorem x_eInO {C : Addr} {fm : FM} {neg : Bool} : Ex (eInO C fm neg o1 o2 ρ) Q = Ex (o1 ρ) fun p => Ex (o2 p.2) fun q => insOf C (conts q.2 q.1) = true ∧ Ex (callO fm [] [q.1, p.1] q.2) fun r => ∃ b, r.1 = .d (.bl b) ∧ Q (.bl (if neg then !b else b), r.2.2) := by
  simp only [ex_eq]
  unfold eInO; simp only [ex0_bind, ex0_guard]
  congr 1; funext p; congr 1; funext q; congr 1; congr 1; funext r
  obtain ⟨r1, r2, ρ2⟩ := r
  cases r1 with
  | n x => simp [ex0_none]
  | r x => simp [ex0_none]
  | d x => cases x <;> simp [ex0_some, ex0_none]
theorem x_sFld {C : Addr} {fl : Str} : Ex (sFld' i C fl f ρ) QS = Ex (f ρ) fun p => Ex (ownIn C p.2 i) fun w => w.2.length < 1000 ∧ QS (.nx, p.2.set i (some (.own w.1 (.ins C (putFD fl p.1 w.2))))) := by
  simp only [ex_eq]
  unfold sFld' ownIn; rw [ex0_bind]
  congr 1; funext p
  generalize p.2[i]? = z; rcases z with _ | _ | x | ⟨t, x⟩ <;> try simp only [ex0_some, ex0_none]
  cases x <;> simp only [ex0_some, ex0_none, ex0_guard]
  rename_i C' gs
  by_cases h : C' = C
  · subst h; simp
  · simp [h]
  
end

/-! ### data -/
theorem atI_at {α : Type} {l : List α} {i : Int} (h : 0 ≤ i) (hl : i < l.length) : atI l i = l[i.toNat]? := by
  unfold atI ixN
  rw [if_pos h, if_pos hl]; rfl
theorem ex_mem {l : List D} {i : Int} {Q : D → Prop} (h0 : 0 ≤ i) (h1 : i < l.length) (k : ∀ x ∈ l, Q x) : Ex (atI l i) Q := by
  rw [atI_at h0 h1, List.getElem?_eq_getElem (by omega)]
  exact ⟨_, rfl, k _ (List.getElem_mem _)⟩
theorem atI_last {α : Type} {l : List α} (h : l ≠ []) : atI l (-1) = l.getLast? := by
  have hp := List.length_pos_iff.mpr h
  unfold atI ixN
  rw [if_neg (by omega), if_pos (by omega), Option.bind_some, List.getLast?_eq_getElem?]
  congr 1
  omega
theorem kAdd_i {i j : Int} : kAdd (.int i) (.int j) = some (.int (i + j)) := rfl
theorem kSub_i {i j : Int} : kSub (.int i) (.int j) = some (.int (i - j)) := rfl
theorem kLt_i {i j : Int} : kLt (.int i) (.int j) = some (.bl (decide (i < j))) := rfl
theorem kLe_i {i j : Int} : kLe (.int i) (.int j) = some (.bl (decide (i ≤ j))) := rfl
theorem kGt_i {i j : Int} : kGt (.int i) (.int j) = some (.bl (decide (j < i))) := rfl
theorem kGe_i {i j : Int} : kGe (.int i) (.int j) = some (.bl (decide (j ≤ i))) := rfl
theorem kNeg_i {i : Int} : kNeg (.int i) = some (.int (-i)) := rfl
theorem kInt_i {i : Int} : kInt [.int i] = some (.int i) := rfl
theorem kInt_b {b : Bool} : kInt [.bl b] = some (.int (if b then 1 else 0)) := rfl
theorem kAbs_i {i : Int} : kAbs [.int i] = some (.int (if i < 0 then -i else i)) := rfl
theorem kMax_i {i j : Int} : kMax2 [.int i, .int j] = some (.int (if j > i then j else i)) := rfl
theorem kMin_i {i j : Int} : kMin2 [.int i, .int j] = some (.int (if j < i then j else i)) := rfl
theorem kLen_l {l : List D} : kLen [.lst l] = some (.int l.length) := rfl
theorem kLen_t {l : List D} : kLen [.tup l] = some (.int l.length) := rfl
theorem kLen_k {l : List D} : kLen [.ktp l] = some (.int l.length) := rfl
theorem kLen_s {l : List Int} : kLen [.scr l] = some (.int l.length) := rfl
section
variable {Q : D → Prop} {i j : Int}
theorem atI_0 {α : Type} {a : α} {l : List α} : atI (a :: l) 0 = some a := by
  rw [atI_at (by omega) (by rw [List.length_cons]; omega)]; rfl
theorem atI_1 {α : Type} {a b : α} {l : List α} : atI (a :: b :: l) 1 = some b := by
  rw [atI_at (by omega) (by simp only [List.length_cons]; omega)]; rfl
theorem atI_2 {α : Type} {a b c : α} {l : List α} : atI (a :: b :: c :: l) 2 = some c := by
  rw [atI_at (by omega) (by simp only [List.length_cons]; omega)]; rfl
theorem atI_3 {α : Type} {a b c d : α} {l : List α} : atI (a :: b :: c :: d :: l) 3 = some d := by
  rw [atI_at (by omega) (by simp only [List.length_cons]; omega)]; rfl
theorem ixN_0 {n : Nat} : ixN (n + 1) 0 = some 0 := by
  unfold ixN; rw [if_pos (by omega), if_pos (by omega)]; rfl
theorem ixN_1 {n : Nat} : ixN (n + 2) 1 = some 1 := by
  unfold ixN; rw [if_pos (by omega), if_pos (by omega)]; rfl
theorem ixN_2 {n : Nat} : ixN (n + 3) 2 = some 2 := by
  unfold ixN; rw [if_pos (by omega), if_pos (by omega)]; rfl
theorem ixN_3 {n : Nat} : ixN (n + 4) 3 = some 3 := by
  unfold ixN; rw [if_pos (by omega), if_pos (by omega)]; rfl
theorem x_kMul : Ex (kMul (.int i) (.int j)) Q = ((wide i = true ∧ wide j = true) ∧ Q (.int (i * j))) := by
  simp only [ex_eq]
  unfold kMul; simp only [ex0_guard, ex0_some, Bool.and_eq_true]
theorem x_kAddL {l m : List D} : Ex (kAdd (.lst l) (.lst m)) Q = (l.length + m.length ≤ 16777216 ∧ Q (.lst (l ++ m))) := by unfold kAdd; simp only [ex_guard, ex_some]
theorem x_kAddT {l m : List D} : Ex (kAdd (.tup l) (.tup m)) Q = (l.length + m.length ≤ 16777216 ∧ Q (.tup (l ++ m))) := by unfold kAdd; simp only [ex_guard, ex_some]
theorem x_kFdiv : Ex (kFdiv (.int i) (.int j)) Q = ((0 < j ∧ wide j = true) ∧ Q (.int (i / j))) := by
  simp only [ex_eq]
  unfold kFdiv; simp only [ex0_guard, ex0_some]
theorem x_kMod : Ex (kMod (.int i) (.int j)) Q = (0 < j ∧ Q (.int (i % j))) := by
  simp only [ex_eq]
  unfold kMod; simp only [ex0_guard, ex0_some]
theorem x_kPow : Ex (kPow (.int i) (.int j)) Q = ((0 ≤ j ∧ j ≤ 1000 ∧ wide i = true) ∧ Q (.int (i ^ j.toNat))) := by
  simp only [ex_eq]
  unfold kPow; simp only [ex0_guard, ex0_some]
theorem kIx_t {l : List D} : kIx (.tup l) (.int i) = atI l i := rfl
theorem kIx_k {l : List D} : kIx (.ktp l) (.int i) = atI l i := rfl
theorem kIx_l {l : List D} : kIx (.lst l) (.int i) = atI l i := rfl
theorem kIx_s {l : List Int} : kIx (.scr l) (.int i) = (atI l i).bind fun n => some (.int n) := rfl
end
theorem wide_of {i : Int} (h1 : -(2 ^ 256) < i) (h2 : i < 2 ^ 256) : wide i = true := decide_eq_true ⟨h1, h2⟩
theorem resD_d {x : D} : resD (.d x) = x := rfl
theorem resD_n {x : D} : resD (.n x) = x := rfl
theorem wide_10 : wide 10 = true := by decide +kernel
theorem wide_2 : wide 2 = true := by decide +kernel
theorem mul_bd {a b c d : Int} (ha : 0 ≤ a) (hb : 0 ≤ b) (h1 : a ≤ c) (h2 : b ≤ d) : a * b ≤ c * d := Int.mul_le_mul h1 h2 hb (by omega)

/-! ### loops -/
def brkK {β : Type} (I : Env → β) (Q : Out × Env → β) : Out → Env → β
  | .nx, ρ => I ρ
  | .ct, ρ => I ρ
  | .br, ρ => Q (.nx, ρ)
  | o, ρ => Q (o, ρ)
theorem brk_nx {β : Type} {I : Env → β} {Q : Out × Env → β} {ρ : Env} : brkK I Q .nx ρ = I ρ := rfl
theorem brk_ct {β : Type} {I : Env → β} {Q : Out × Env → β} {ρ : Env} : brkK I Q .ct ρ = I ρ := rfl
theorem brk_br {β : Type} {I : Env → β} {Q : Out × Env → β} {ρ : Env} : brkK I Q .br ρ = Q (.nx, ρ) := rfl
theorem brk_rt {β : Type} {I : Env → β} {Q : Out × Env → β} {ρ : Env} {d : D} : brkK I Q (.rt d) ρ = Q (.rt d, ρ) := rfl
theorem brk_rn {β : Type} {I : Env → β} {Q : Out × Env → β} {ρ : Env} {d : D} : brkK I Q (.rn d) ρ = Q (.rn d, ρ) := rfl
theorem brk_rr {β : Type} {I : Env → β} {Q : Out × Env → β} {ρ : Env} {d : D} : brkK I Q (.rr d) ρ = Q (.rr d, ρ) := rfl
theorem x_loop_n {h : GM} {b : SM} {ρ : Env} {Q : Out × Env → Prop} : Ex (loop h b [] ρ) Q = Q (.nx, ρ) := ex_some
theorem x_loop_c {h : GM} {b : SM} {d : D} {r : List D} {ρ : Env} {Q : Out × Env → Prop} : Ex (loop h b (d :: r) ρ) Q = Ex (h d ρ) fun ρ1 => Ex (b ρ1) fun p => brkK (fun ρ2 => Ex (loop h b r ρ2) Q) Q p.1 p.2 := by
  show Ex ((h d ρ).bind fun ρ1 => (b ρ1).bind fun p => match p.1 with
    | .nx => loop h b r p.2
    | .ct => loop h b r p.2
    | .br => some (.nx, p.2)
    | o => some (o, p.2)) Q = _
  simp only [ex_eq, ex0_bind]
  congr 1; funext ρ1; congr 1; funext p
  obtain ⟨o, ρ2⟩ := p
  cases o <;> simp only [ex0_some] <;> rfl
theorem ex_loop {h : GM} {b : SM} {Q : Out × Env → Prop} (xs : List D) (I : Nat → Env → Prop) {ρ : Env} (h0 : I 0 ρ)
    (step : ∀ i x ρ, xs[i]? = some x → I i ρ → Ex (h x ρ) fun ρ1 => Ex (b ρ1) fun p => brkK (I (i + 1)) Q p.1 p.2) (fi : ∀ ρ, I xs.length ρ → Q (.nx, ρ)) : Ex (loop h b xs ρ) Q := by
  suffices H : ∀ (ys : List D) (i : Nat) (ρ : Env), ys = xs.drop i → i ≤ xs.length → I i ρ → Ex (loop h b ys ρ) Q from H xs 0 ρ rfl (Nat.zero_le _) h0
  intro ys
  induction ys with
  | nil =>
    intro i ρ e hi hI
    have : i = xs.length := by
      have := congrArg List.length e
      rw [List.length_nil, List.length_drop] at this
      omega
    subst this
    exact ⟨_, rfl, fi ρ hI⟩
  | cons y ys ih =>
    intro i ρ e hi hI
    have hl : i < xs.length := by
      have := congrArg List.length e
      rw [List.length_cons, List.length_drop] at this
      omega
    have e2 : xs.drop i = xs[i] :: xs.drop (i + 1) := List.drop_eq_getElem_cons hl
    rw [e2] at e
    injection e with ey ez
    obtain ⟨ρ1, e1, p, e3, k⟩ := step i y ρ (by rw [List.getElem?_eq_getElem hl, ey]) hI
    obtain ⟨o, ρ2⟩ := p
    show Ex ((h y ρ).bind fun ρ1 => (b ρ1).bind fun p => match p.1 with
      | .nx => loop h b ys p.2
      | .ct => loop h b ys p.2
      | .br => some (.nx, p.2)
      | o => some (o, p.2)) Q
    rw [e1, Option.bind_some, e3, Option.bind_some]
    cases o with
    | nx => exact ih (i + 1) ρ2 ez (by omega) k
    | ct => exact ih (i + 1) ρ2 ez (by omega) k
    | br => exact ⟨_, rfl, k⟩
    | rt d => exact ⟨_, rfl, k⟩
    | rn d => exact ⟨_, rfl, k⟩
    | rr d => exact ⟨_, rfl, k⟩
theorem ex_lc {h : GM} {t : TM} {e : EM} {vs : List Nat} {Q : List D × Env → Prop} (xs : List D) (I : Nat → List D → Env → Prop) {ρ : Env} (h0 : I 0 [] (wipeE ρ vs))
    (step : ∀ i x acc ρ, xs[i]? = some x → I i acc ρ → Ex (h x ρ) fun ρ1 => Ex (t ρ1) fun p => (p.1 = true → Ex (e p.2) fun q => acc.length < 16777216 ∧ I (i + 1) (acc ++ [q.1]) (wipeE q.2 vs)) ∧ (p.1 = false → I (i + 1) acc (wipeE p.2 vs)))
    (fi : ∀ acc ρ', I xs.length acc (wipeE ρ' vs) → Q (acc, ρ')) : Ex (lcLoop h t e vs xs [] ρ) Q := by
  suffices H : ∀ (ys : List D) (i : Nat) (acc : List D) (ρ : Env), ys = xs.drop i → i ≤ xs.length → I i acc (wipeE ρ vs) → Ex (lcLoop h t e vs ys acc ρ) Q from H xs 0 [] ρ rfl (Nat.zero_le _) h0
  intro ys
  induction ys with
  | nil =>
    intro i acc ρ e hi hI
    have : i = xs.length := by
      have := congrArg List.length e
      rw [List.length_nil, List.length_drop] at this
      omega
    subst this
    exact ⟨_, rfl, fi acc ρ hI⟩
  | cons y ys ih =>
    intro i acc ρ eq hi hI
    have hl : i < xs.length := by
      have := congrArg List.length eq
      rw [List.length_cons, List.length_drop] at this
      omega
    have e2 : xs.drop i = xs[i] :: xs.drop (i + 1) := List.drop_eq_getElem_cons hl
    rw [e2] at eq
    injection eq with ey ez
    obtain ⟨ρ1, e1, p, e3, k1, k2⟩ := step i y acc _ (by rw [List.getElem?_eq_getElem hl, ey]) hI
    obtain ⟨c, ρ2⟩ := p
    unfold lcLoop
    rw [e1, Option.bind_some, e3, Option.bind_some]
    cases c with
    | true =>
      obtain ⟨q, e4, hlen, k⟩ := k1 rfl
      show Ex ((e ρ2).bind fun q => if acc.length < 16777216 then lcLoop h t e vs ys (acc ++ [q.1]) q.2 else none) Q
      rw [e4, Option.bind_some, if_pos hlen]
      exact ih (i + 1) _ _ ez (by omega) k
    | false => exact ih (i + 1) _ _ ez (by omega) (k2 rfl)
/-- a comprehension that changes nothing else -/
theorem ex_lcP {α β : Type} (ys : List α) (u : α → D) (f : α → Option β) (w : β → D) {h : GM} {t : TM} {e : EM} {vs : List Nat} {Q : List D × Env → Prop} {xs : List D} {ρ : Env} (ex : xs = ys.map u) (hl : xs.length ≤ 16777216)
    (step : ∀ y ∈ ys, Ex (h (u y) (wipeE ρ vs)) fun ρ1 => Ex (t ρ1) fun p => (p.1 = true → Ex (e p.2) fun q => wipeE q.2 vs = wipeE ρ vs ∧ ∃ z, f y = some z ∧ q.1 = w z) ∧ (p.1 = false → wipeE p.2 vs = wipeE ρ vs ∧ f y = none))
    (fi : ∀ ρ', wipeE ρ' vs = wipeE ρ vs → Q ((ys.filterMap f).map w, ρ')) : Ex (lcLoop h t e vs xs [] ρ) Q := by
  subst ex
  have hlen : ∀ i, ((ys.take i).filterMap f).length ≤ i := fun i => Nat.le_trans (List.length_filterMap_le ..) (by rw [List.length_take]; omega)
  refine ex_lc _ (fun i acc ρ' => ρ' = wipeE ρ vs ∧ acc = ((ys.take i).filterMap f).map w) ⟨rfl, rfl⟩ ?_ ?_
  · rintro i x acc ρ' hx ⟨rfl, rfl⟩
    rw [List.getElem?_map] at hx
    cases hy : ys[i]? with
    | none => rw [hy] at hx; cases hx
    | some y =>
      rw [hy] at hx
      cases hx
      have hi : i < ys.length := (List.getElem?_eq_some_iff.mp hy).1
      have et : ys.take (i + 1) = ys.take i ++ [y] := by rw [List.take_succ, hy]; rfl
      refine (step y (List.mem_of_getElem? hy)).mono fun ρ1 h1 => h1.mono fun p ⟨h2, h3⟩ => ⟨fun c => (h2 c).mono fun q ⟨h4, z, h5, h6⟩ => ⟨?_, h4, ?_⟩, fun c => ⟨(h3 c).1, ?_⟩⟩
      · rw [List.length_map]
        have := hlen i
        rw [List.length_map] at hl
        omega
      · rw [et, List.filterMap_append, List.map_append, h6]
        simp [h5]
      · rw [et, List.filterMap_append, List.map_append]
        simp [(h3 c).2]
  · rintro acc ρ' ⟨h1, rfl⟩
    rw [List.length_map, List.take_length]
    exact fi ρ' h1
theorem putBack_wipe {ρ0 : Env} : ∀ {vs : List Nat} {ρ ρ' : Env}, wipeE ρ vs = wipeE ρ' vs → putBack ρ0 ρ vs = putBack ρ0 ρ' vs := by
  have key : ∀ (vs : List Nat) (ρ : Env), putBack ρ0 ρ vs = putBack ρ0 (wipeE ρ vs) vs := by
    intro vs
    have len : ∀ (vs : List Nat) (ρ : Env), (putBack ρ0 ρ vs).length = ρ.length := by
      intro vs
      induction vs with
      | nil => intro ρ; rfl
      | cons v vs ih => intro ρ; show ((putBack ρ0 ρ vs).set v _).length = _; rw [List.length_set, ih]
    have wl : ∀ (vs : List Nat) (ρ : Env), (wipeE ρ vs).length = ρ.length := by
      intro vs
      induction vs with
      | nil => intro ρ; rfl
      | cons v vs ih => intro ρ; show ((wipeE ρ vs).set v _).length = _; rw [List.length_set, ih]
    have gw : ∀ (vs : List Nat) (ρ : Env) (j : Nat), j ∉ vs → (wipeE ρ vs)[j]? = ρ[j]? := by
      intro vs
      induction vs with
      | nil => intro ρ j _; rfl
      | cons v vs ih =>
        intro ρ j hj
        show ((wipeE ρ vs).set v none)[j]? = _
        rw [List.getElem?_set_ne (by intro e; subst e; exact hj List.mem_cons_self), ih ρ j fun m => hj (List.mem_cons_of_mem _ m)]
    have gp : ∀ (vs : List Nat) (ρ : Env) (j : Nat), (putBack ρ0 ρ vs)[j]? = if j ∈ vs then (if j < ρ.length then some (keepD ρ0 j) else none) else ρ[j]? := by
      intro vs
      induction vs with
      | nil => intro ρ j; simp [putBack]
      | cons v vs ih =>
        intro ρ j
        show ((putBack ρ0 ρ vs).set v (keepD ρ0 v))[j]? = _
        by_cases e : v = j
        · subst e
          rw [if_pos List.mem_cons_self]
          by_cases hl : v < ρ.length
          · rw [List.getElem?_set_self (by rw [len]; exact hl), if_pos hl]
          · rw [if_neg hl, List.getElem?_eq_none (by rw [List.length_set, len]; omega)]
        · rw [List.getElem?_set_ne e, ih]
          simp [Ne.symm e]
    intro ρ
    apply List.ext_getElem?
    intro j
    rw [gp, gp, wl]
    by_cases hj : j ∈ vs
    · rw [if_pos hj, if_pos hj]
    · rw [if_neg hj, if_neg hj, gw _ _ _ hj]
  intro vs ρ ρ' e
  rw [key vs ρ, key vs ρ', e]
end L3

namespace L3
open PySem L2

/-! ### equality of plain data -/
def sh : Nat → D → Bool
  | _, .non => true
  | _, .bl _ => true
  | _, .int _ => true
  | _, .str x => PyData.canLay0 (.str x)
  | k + 1, .tup l => l.all (sh k)
  | k + 1, .ktp l => l.all (sh k)
  | k + 1, .lst l => l.all (sh k)
  | _, _ => false
theorem shs_ok {k : Nat} (ih : ∀ d, sh k d = true → ∃ z, toPy d = some z ∧ z.canLay0 = true ∧ z.depth ≤ k) : ∀ l : List D, l.all (sh k) = true → ∃ zs, toPys l = some zs ∧ PyData.canLayAll0 zs = true ∧ PyData.depthAll zs ≤ k
  | [], _ => ⟨[], by simp only [toPys], by simp only [PyData.canLayAll0], by unfold PyData.depthAll; omega⟩
  | d :: l, h => by
    rw [List.all_cons, Bool.and_eq_true] at h
    obtain ⟨z, e1, e2, e3⟩ := ih d h.1
    obtain ⟨zs, f1, f2, f3⟩ := shs_ok ih l h.2
    refine ⟨z :: zs, ?_, ?_, ?_⟩
    · simp only [toPys, e1, f1, Option.bind_some]
    · unfold PyData.canLayAll0
      rw [e2, f2]; rfl
    · unfold PyData.depthAll
      omega
theorem sh_ok : ∀ (k : Nat) (d : D), sh k d = true → ∃ z, toPy d = some z ∧ z.canLay0 = true ∧ z.depth ≤ k
  | k, .non, _ => ⟨PyData.none, by simp only [toPy], by simp only [PyData.canLay0], by unfold PyData.depth; omega⟩
  | k, .bl b, _ => ⟨PyData.bool b, by simp only [toPy], by simp only [PyData.canLay0], by unfold PyData.depth; omega⟩
  | k, .int i, _ => ⟨PyData.int i, by simp only [toPy], by simp only [PyData.canLay0], by unfold PyData.depth; omega⟩
  | k, .str x, h => ⟨PyData.str x, by simp only [toPy], by simpa only [sh] using h, by unfold PyData.depth; omega⟩
  | k + 1, .tup l, h => by
    obtain ⟨zs, f1, f2, f3⟩ := shs_ok (sh_ok k) l (by simpa only [sh] using h)
    refine ⟨.tuple zs, ?_, by unfold PyData.canLay0; exact f2, by unfold PyData.depth; omega⟩
    simp only [toPy, f1, Option.bind_some]
  | k + 1, .ktp l, h => by
    obtain ⟨zs, f1, f2, f3⟩ := shs_ok (sh_ok k) l (by simpa only [sh] using h)
    refine ⟨.tuple zs, ?_, by unfold PyData.canLay0; exact f2, by unfold PyData.depth; omega⟩
    simp only [toPy, f1, Option.bind_some]
  | k + 1, .lst l, h => by
    obtain ⟨zs, f1, f2, f3⟩ := shs_ok (sh_ok k) l (by simpa only [sh] using h)
    refine ⟨.list zs, ?_, by unfold PyData.canLay0; exact f2, by unfold PyData.depth; omega⟩
    simp only [toPy, f1, Option.bind_some]
  | 0, .tup l, h => by simp [sh] at h
  | 0, .ktp l, h => by simp [sh] at h
  | 0, .lst l, h => by simp [sh] at h
  | k, .dk l, h => by cases k <;> (simp [sh] at h)
  | k, .ins C l, h => by cases k <;> (simp [sh] at h)
  | k, .cls a, h => by cases k <;> (simp [sh] at h)
  | k, .bty a, h => by cases k <;> (simp [sh] at h)
  | k, .scr l, h => by cases k <;> (simp [sh] at h)
  | k, .box l, h => by cases k <;> (simp [sh] at h)
mutual
def dEq : D → D → Bool
  | .non, .non => true
  | .bl a, .bl b => a == b
  | .bl a, .int j => (if a then 1 else 0) == j
  | .int i, .bl b => i == (if b then 1 else 0)
  | .int i, .int j => decide (i = j)
  | .str x, .str y => x == y
  | .lst l, .lst m => dEqs l m
  | .tup l, .tup m => dEqs l m
  | .tup l, .ktp m => dEqs l m
  | .ktp l, .tup m => dEqs l m
  | .ktp l, .ktp m => dEqs l m
  | _, _ => false
def dEqs : List D → List D → Bool
  | [], [] => true
  | x :: l, y :: m => dEq x y && dEqs l m
  | _, _ => false
end
mutual
theorem dEq_ok : ∀ (a b : D) {x y : PyData}, toPy a = some x → toPy b = some y → PyData.eqv x y = dEq a b
  | .non, b, x, y, h1, h2 => by
    simp only [toPy, Option.some.injEq] at h1
    subst h1
    cases b with
    | lst m => obtain ⟨z, e3, e4⟩ := bnd h2; cases e4; simp only [PyData.eqv, dEq]
    | tup m => obtain ⟨z, e3, e4⟩ := bnd h2; cases e4; simp only [PyData.eqv, dEq]
    | ktp m => obtain ⟨z, e3, e4⟩ := bnd h2; cases e4; simp only [PyData.eqv, dEq]
    | int m => simp only [toPy, Option.some.injEq] at h2; subst h2; simp [PyData.eqv, dEq, Bool.beq_eq_decide_eq]
    | _ => simp only [toPy, Option.some.injEq, reduceCtorEq] at h2 <;> (subst h2; simp only [PyData.eqv, dEq])
  | .bl p, b, x, y, h1, h2 => by
    simp only [toPy, Option.some.injEq] at h1
    subst h1
    cases b with
    | lst m => obtain ⟨z, e3, e4⟩ := bnd h2; cases e4; simp only [PyData.eqv, dEq]
    | tup m => obtain ⟨z, e3, e4⟩ := bnd h2; cases e4; simp only [PyData.eqv, dEq]
    | ktp m => obtain ⟨z, e3, e4⟩ := bnd h2; cases e4; simp only [PyData.eqv, dEq]
    | int m => simp only [toPy, Option.some.injEq] at h2; subst h2; simp [PyData.eqv, dEq, Bool.beq_eq_decide_eq]
    | _ => simp only [toPy, Option.some.injEq, reduceCtorEq] at h2 <;> (subst h2; simp only [PyData.eqv, dEq])
  | .int p, b, x, y, h1, h2 => by
    simp only [toPy, Option.some.injEq] at h1
    subst h1
    cases b with
    | lst m => obtain ⟨z, e3, e4⟩ := bnd h2; cases e4; simp only [PyData.eqv, dEq]
    | tup m => obtain ⟨z, e3, e4⟩ := bnd h2; cases e4; simp only [PyData.eqv, dEq]
    | ktp m => obtain ⟨z, e3, e4⟩ := bnd h2; cases e4; simp only [PyData.eqv, dEq]
    | int m => simp only [toPy, Option.some.injEq] at h2; subst h2; simp [PyData.eqv, dEq, Bool.beq_eq_decide_eq]
    | _ => simp only [toPy, Option.some.injEq, reduceCtorEq] at h2 <;> (subst h2; simp only [PyData.eqv, dEq])
  | .str p, b, x, y, h1, h2 => by
    simp only [toPy, Option.some.injEq] at h1
    subst h1
    cases b with
    | lst m => obtain ⟨z, e3, e4⟩ := bnd h2; cases e4; simp only [PyData.eqv, dEq]
    | tup m => obtain ⟨z, e3, e4⟩ := bnd h2; cases e4; simp only [PyData.eqv, dEq]
    | ktp m => obtain ⟨z, e3, e4⟩ := bnd h2; cases e4; simp only [PyData.eqv, dEq]
    | int m => simp only [toPy, Option.some.injEq] at h2; subst h2; simp [PyData.eqv, dEq, Bool.beq_eq_decide_eq]
    | _ => simp only [toPy, Option.some.injEq, reduceCtorEq] at h2 <;> (subst h2; simp only [PyData.eqv, dEq])
  | .lst l, b, x, y, h1, h2 => by
    obtain ⟨z1, e1, e2⟩ := bnd h1
    cases e2
    cases b with
    | lst m => obtain ⟨z, e3, e4⟩ := bnd h2; cases e4; simp only [PyData.eqv, dEq]; exact dEqs_ok l m e1 e3
    | tup m => obtain ⟨z, e3, e4⟩ := bnd h2; cases e4; simp only [PyData.eqv, dEq]
    | ktp m => obtain ⟨z, e3, e4⟩ := bnd h2; cases e4; simp only [PyData.eqv, dEq]
    | _ => simp only [toPy, Option.some.injEq, reduceCtorEq] at h2 <;> (subst h2; simp only [PyData.eqv, dEq])
  | .tup l, b, x, y, h1, h2 => by
    obtain ⟨z1, e1, e2⟩ := bnd h1
    cases e2
    cases b with
    | lst m => obtain ⟨z, e3, e4⟩ := bnd h2; cases e4; simp only [PyData.eqv, dEq]
    | tup m => obtain ⟨z, e3, e4⟩ := bnd h2; cases e4; simp only [PyData.eqv, dEq]; exact dEqs_ok l m e1 e3
    | ktp m => obtain ⟨z, e3, e4⟩ := bnd h2; cases e4; simp only [PyData.eqv, dEq]; exact dEqs_ok l m e1 e3
    | _ => simp only [toPy, Option.some.injEq, reduceCtorEq] at h2 <;> (subst h2; simp only [PyData.eqv, dEq])
  | .ktp l, b, x, y, h1, h2 => by
    obtain ⟨z1, e1, e2⟩ := bnd h1
    cases e2
    cases b with
    | lst m => obtain ⟨z, e3, e4⟩ := bnd h2; cases e4; simp only [PyData.eqv, dEq]
    | tup m => obtain ⟨z, e3, e4⟩ := bnd h2; cases e4; simp only [PyData.eqv, dEq]; exact dEqs_ok l m e1 e3
    | ktp m => obtain ⟨z, e3, e4⟩ := bnd h2; cases e4; simp only [PyData.eqv, dEq]; exact dEqs_ok l m e1 e3
    | _ => simp only [toPy, Option.some.injEq, reduceCtorEq] at h2 <;> (subst h2; simp only [PyData.eqv, dEq])
  | .dk l, b, x, y, h1, h2 => by simp only [toPy, reduceCtorEq] at h1
  | .ins C l, b, x, y, h1, h2 => by simp only [toPy, reduceCtorEq] at h1
  | .cls a, b, x, y, h1, h2 => by simp only [toPy, reduceCtorEq] at h1
  | .bty a, b, x, y, h1, h2 => by simp only [toPy, reduceCtorEq] at h1
  | .scr a, b, x, y, h1, h2 => by simp only [toPy, reduceCtorEq] at h1
theorem dEqs_ok : ∀ (l m : List D) {x y : List PyData}, toPys l = some x → toPys m = some y → PyData.eqvAll x y = dEqs l m
  | [], [], _, _, h1, h2 => by cases h1; cases h2; simp only [PyData.eqvAll, dEqs]
  | [], b :: m, _, _, h1, h2 => by
    cases h1
    obtain ⟨z, e1, h2⟩ := bnd h2
    obtain ⟨zs, e2, e3⟩ := bnd h2
    cases e3; simp only [PyData.eqvAll, dEqs]
  | a :: l, [], _, _, h1, h2 => by
    cases h2
    obtain ⟨z, e1, h1⟩ := bnd h1
    obtain ⟨zs, e2, e3⟩ := bnd h1
    cases e3; simp only [PyData.eqvAll, dEqs]
  | a :: l, b :: m, _, _, h1, h2 => by
    obtain ⟨z, e1, h1⟩ := bnd h1
    obtain ⟨zs, e2, e3⟩ := bnd h1
    obtain ⟨y, f1, h2⟩ := bnd h2
    obtain ⟨ys, f2, f3⟩ := bnd h2
    cases e3; cases f3
    simp only [PyData.eqvAll, dEqs]
    rw [dEq_ok a b e1 f1, dEqs_ok l m e2 f2]
end
theorem eqD_sh {a b : D} (ha : sh 64 a = true) (hb : sh 64 b = true) : eqD a b = some (dEq a b) := by
  obtain ⟨x, e1, e2, e3⟩ := sh_ok 64 a ha
  obtain ⟨y, f1, f2, f3⟩ := sh_ok 64 b hb
  unfold eqD
  rw [e1, f1, Option.bind_some, Option.bind_some, if_pos]
  · rw [dEq_ok a b e1 f1]
  · unfold SeqAt.shaped
    simp [e2, f2, e3, f3]
theorem kEq_sh {a b : D} (ha : sh 64 a = true) (hb : sh 64 b = true) : kEq a b = some (.bl (dEq a b)) := by unfold kEq; rw [eqD_sh ha hb]; rfl
theorem kNe_sh {a b : D} (ha : sh 64 a = true) (hb : sh 64 b = true) : kNe a b = some (.bl (!dEq a b)) := by unfold kNe; rw [eqD_sh ha hb]; rfl
theorem kEq_i {i j : Int} : kEq (.int i) (.int j) = some (.bl (decide (i = j))) := by rw [kEq_sh (by unfold sh; rfl) (by unfold sh; rfl)]; rfl
theorem kNe_i {i j : Int} : kNe (.int i) (.int j) = some (.bl (!decide (i = j))) := by rw [kNe_sh (by unfold sh; rfl) (by unfold sh; rfl)]; rfl
theorem kEq_b {i j : Bool} : kEq (.bl i) (.bl j) = some (.bl (i == j)) := by rw [kEq_sh (by unfold sh; rfl) (by unfold sh; rfl)]; rfl
theorem kNe_b {i j : Bool} : kNe (.bl i) (.bl j) = some (.bl (!(i == j))) := by rw [kNe_sh (by unfold sh; rfl) (by unfold sh; rfl)]; rfl
theorem dEqs_map {α : Type} {f : α → D} (h : ∀ x y, dEq (f x) (f y) = true ↔ x = y) : ∀ l m : List α, dEqs (l.map f) (m.map f) = true ↔ l = m
  | [], [] => by simp [dEqs]
  | [], y :: m => by simp [dEqs]
  | x :: l, [] => by simp [dEqs]
  | x :: l, y :: m => by simp [dEqs, h, dEqs_map h l m]
theorem dPair_eq (p q : Int × Int) : dEq (dPair p) (dPair q) = true ↔ p = q := by
  obtain ⟨a, b⟩ := p
  obtain ⟨c, d⟩ := q
  simp [dPair, dEq, dEqs]
theorem sh_pair (p : Int × Int) : sh 63 (dPair p) = true := by
  unfold dPair sh
  simp [sh]
theorem sh_pairs (ps : List (Int × Int)) : sh 64 (.lst (ps.map dPair)) = true := by
  unfold sh
  rw [List.all_map, List.all_eq_true]
  exact fun p _ => sh_pair p
theorem sh_ints (ps : List Int) : sh 64 (.lst (ps.map D.int)) = true := by
  unfold sh
  rw [List.all_map, List.all_eq_true]
  intro p _
  unfold Function.comp sh
  rfl
theorem sh_nil : sh 64 (.lst []) = true := by unfold sh; rfl
theorem dEqs_nil_r : ∀ l : List D, dEqs l [] = l.isEmpty
  | [] => rfl
  | _ :: _ => rfl
/-- compared with the empty list -/
theorem kEq_pn {ps : List (Int × Int)} : kEq (.lst (ps.map dPair)) (.lst []) = some (.bl ps.isEmpty) := by
  rw [kEq_sh (sh_pairs ps) sh_nil]
  cases ps <;> rfl
theorem kNe_pn {ps : List (Int × Int)} : kNe (.lst (ps.map dPair)) (.lst []) = some (.bl (!ps.isEmpty)) := by
  rw [kNe_sh (sh_pairs ps) sh_nil]
  cases ps <;> rfl
theorem kEq_nn : kEq (.lst []) (.lst []) = some (.bl true) := kEq_pn (ps := [])
theorem kNe_nn : kNe (.lst []) (.lst []) = some (.bl false) := kNe_pn (ps := [])
/-! ### items of lists of typed things -/
theorem ex_at {α : Type} {l : List α} {f : α → D} {i : Int} {Q : D → Prop} (h0 : 0 ≤ i) (h1 : i < l.length) (k : ∀ x ∈ l, Q (f x)) : Ex (atI (l.map f) i) Q := by
  rw [atI_at h0 (by rw [List.length_map]; exact h1), List.getElem?_map]
  have hl : i.toNat < l.length := by omega
  rw [List.getElem?_eq_getElem hl]
  exact ⟨_, rfl, k _ (List.getElem_mem hl)⟩
theorem ex_last {α : Type} {l : List α} {f : α → D} {Q : D → Prop} {x : α} (h : l.getLast? = some x) (k : Q (f x)) : Ex (atI (l.map f) (-1)) Q := by
  have hn : l ≠ [] := by intro e; subst e; cases h
  rw [atI_last (by intro e; exact hn (List.map_eq_nil_iff.mp e)), List.getLast?_map, h]
  exact ⟨_, rfl, k⟩
theorem rng_len {lo : Int} {n : Nat} : (rng lo n).length = n := by
  unfold rng; rw [List.length_map, List.length_range]
theorem rng_get {lo : Int} {n i : Nat} {x : D} (h : (rng lo n)[i]? = some x) : x = .int (lo + i) ∧ i < n := by
  unfold rng at h
  rw [List.getElem?_map] at h
  have hi : i < n := by
    rcases Nat.lt_or_ge i n with q | q
    · exact q
    · rw [List.getElem?_eq_none (by rw [List.length_range]; exact q)] at h
      cases h
  rw [List.getElem?_range hi] at h
  cases h
  exact ⟨rfl, hi⟩
theorem map_get {α : Type} {f : α → D} {l : List α} {i : Nat} {x : D} (h : (l.map f)[i]? = some x) : ∃ y, l[i]? = some y ∧ x = f y := by
  rw [List.getElem?_map] at h
  cases e : l[i]? with
  | none => rw [e] at h; cases h
  | some y => rw [e] at h; cases h; exact ⟨y, rfl, rfl⟩
/-! ### sorted, any, all -/
theorem intsOf_ints : ∀ ns : List Int, intsOf (ns.map D.int) = some ns
  | [] => rfl
  | n :: ns => by
    show ((intsOf (ns.map D.int)).bind fun bs => some (n :: bs)) = _
    rw [intsOf_ints ns]; rfl
theorem blsOf_bls : ∀ ns : List Bool, blsOf (ns.map D.bl) = some ns
  | [] => rfl
  | n :: ns => by
    show ((blsOf (ns.map D.bl)).bind fun bs => some (n :: bs)) = _
    rw [blsOf_bls ns]; rfl
theorem pairsOf_pairs : ∀ ns : List (Int × Int), pairsOf (ns.map dPair) = some ns
  | [] => rfl
  | n :: ns => by
    show ((pairOf (dPair n)).bind fun p => (pairsOf (ns.map dPair)).bind fun ps => some (p :: ps)) = _
    rw [pairsOf_pairs ns]; rfl
theorem kSorted_pairs (ps : List (Int × Int)) : kSortedA [.lst (ps.map dPair)] = some (.lst ((psort ps).map dPair)) := by
  show kSorted [.lst (ps.map dPair)] = _
  unfold kSorted
  cases ps with
  | nil => rfl
  | cons p r =>
    show (match intsOf (dPair p :: r.map dPair) with
      | some ns => some (D.lst ((isort ns).map D.int))
      | none => (pairsOf ((p :: r).map dPair)).bind fun ps => some (D.lst ((psort ps).map dPair))) = _
    rw [pairsOf_pairs]
    rfl
theorem kSorted_ints (ns : List Int) : kSortedA [.lst (ns.map D.int)] = some (.lst ((isort ns).map D.int)) := by
  show kSorted [.lst (ns.map D.int)] = _
  unfold kSorted
  dsimp only
  rw [intsOf_ints]
theorem kAny_bls (bs : List Bool) : kAny [.lst (bs.map D.bl)] = some (.bl (bs.any id)) := by
  unfold kAny
  dsimp only
  rw [blsOf_bls]; rfl
theorem kAll_bls (bs : List Bool) : kAll [.lst (bs.map D.bl)] = some (.bl (bs.all id)) := by
  unfold kAll
  dsimp only
  rw [blsOf_bls]; rfl
theorem swo_lexB : SrtO.Swo SrtO.lexB := ⟨fun x y h => by
    rw [SrtO.lexB_no]
    rw [SrtO.lexB_iff] at h
    omega, fun x y z h1 h2 => by
    rw [SrtO.lexB_no] at h1 h2 ⊢
    omega⟩
theorem kSorted_k0 : kSortedA [.ktp []] = some (.lst []) := rfl
theorem kFld_hit {C : Addr} {f : Str} {x : D} {r : List (Str × D)} : kFld C f (.ins C ((f, x) :: r)) = some x := by
  unfold kFld
  dsimp only
  rw [if_pos rfl, List.lookup_cons, beq_self_eq_true]
theorem putFD_n {f : Str} {v : D} : putFD f v [] = [(f, v)] := rfl
theorem x_nDsp {l : List (EM × EM)} {ρ : Env} {Q : D × Env → Prop} : Ex (nDsp l ρ) Q = Ex (dspLoop l [] ρ) Q := rfl
theorem x_dspN {acc : List (Key × D)} {ρ : Env} {Q : D × Env → Prop} : Ex (dspLoop [] acc ρ) Q = Q (.dk acc, ρ) := ex_some
theorem x_dspC {fk fv : EM} {r : List (EM × EM)} {acc : List (Key × D)} {ρ : Env} {Q : D × Env → Prop} : Ex (dspLoop ((fk, fv) :: r) acc ρ) Q = Ex (fk ρ) fun p => Ex (fv p.2) fun q => Ex (keyOf p.1) fun k => Ex (dspLoop r (putD acc k q.1) q.2) Q := by
  show Ex ((fk ρ).bind fun p => (fv p.2).bind fun q => (keyOf p.1).bind fun k => dspLoop r (putD acc k q.1) q.2) Q = _
  simp only [ex_eq, ex0_bind]
theorem keyOf_i {i : Int} : keyOf (.int i) = some (.inl i) := rfl
theorem keyOf_s {x : Str} : keyOf (.str x) = some (.inr x) := rfl
/-- a dict used as a set of ints -/
def dset (ks : List Int) : List (Key × D) := ks.map fun k => (Sum.inl k, D.bl true)
theorem putD_dset (ks : List Int) (k : Int) : ∃ ks', putD (dset ks) (.inl k) (.bl true) = dset ks' ∧ ks'.length ≤ ks.length + 1 := by
  unfold putD
  split
  · refine ⟨ks, ?_, by omega⟩
    unfold dset
    rw [List.map_map]
    apply List.map_congr_left
    intro x _
    show (if (Sum.inl x : Key) = Sum.inl k then ((Sum.inl x : Key), D.bl true) else (Sum.inl x, D.bl true)) = _
    rw [ite_self]
  · exact ⟨ks ++ [k], by unfold dset; rw [List.map_append]; rfl, by simp⟩
theorem dset_len (ks : List Int) : (dset ks).length = ks.length := List.length_map ..
theorem keyInts_dset : ∀ ks : List Int, keyInts (dset ks) = some ks
  | [] => rfl
  | k :: ks => by
    show ((keyInts (dset ks)).bind fun is => some (k :: is)) = _
    rw [keyInts_dset ks]; rfl
theorem kSorted_dset (ks : List Int) : kSortedA [.dk (dset ks)] = some (.lst ((isort ks).map D.int)) := by
  show kSorted [.dk (dset ks)] = _
  unfold kSorted
  dsimp only
  rw [keyInts_dset]; rfl
theorem lfs_map {α : Type} {f : α → D} (h : ∀ x, lf (f x) = true) : ∀ l : List α, lfs (l.map f) = true
  | [] => rfl
  | x :: l => by
    show (lf (f x) && lfs (l.map f)) = true
    rw [h, lfs_map h l]; rfl
theorem lfs_ints (l : List Int) : lfs (l.map D.int) = true := lfs_map (fun _ => rfl) l
theorem lfs_bls (l : List Bool) : lfs (l.map D.bl) = true := lfs_map (fun _ => rfl) l
theorem kIx_p0 {p : Int × Int} : kIx (dPair p) (.int 0) = some (.int p.1) := by
  show atI [D.int p.1, D.int p.2] 0 = _
  rw [atI_0]
theorem kIx_p1 {p : Int × Int} : kIx (dPair p) (.int 1) = some (.int p.2) := by
  show atI [D.int p.1, D.int p.2] 1 = _
  rw [atI_1]
theorem tupItems_p {p : Int × Int} : tupItems (dPair p) = some [.int p.1, .int p.2] := rfl
theorem lf_pair (p : Int × Int) : lf (dPair p) = true := rfl
theorem lfs_pairs (l : List (Int × Int)) : lfs (l.map dPair) = true := lfs_map lf_pair l
end L3

namespace L3
open PySem L2

/-! ### list(x), tuple(x) -/
def kList : List D → Option D
  | [.lst l] => some (.lst l)
  | [.tup l] => some (.lst l)
  | [.ktp l] => some (.lst l)
  | [.scr ns] => some (.lst (ns.map D.int))
  | _ => none
abbrev rListOf (K : PySem.W.Frag) : List V → Hp → VK → Prop := fun xs H Q => ∃ p ys, xs = [.ref p] ∧ (SqL K H p ys ∨ SqT K H p ys) ∧ ∀ l, H l = none → Q (.ref l) (upd H l (.lst ys))
theorem reps_one {K : PySem.W.Frag} {F : Hp} {vs : List V} {a : D} (r : Reps K F vs [a]) : ∃ v, vs = [v] ∧ Rep K F v a := by
  cases r with
  | cons h rr => cases rr; exact ⟨_, rfl, h⟩
theorem reps_two {K : PySem.W.Frag} {F : Hp} {vs : List V} {a b : D} (r : Reps K F vs [a, b]) : ∃ v u, vs = [v, u] ∧ Rep K F v a ∧ Rep K F u b := by
  cases r with
  | cons h rr =>
    obtain ⟨u, e, h2⟩ := reps_one rr
    subst e
    exact ⟨_, _, rfl, h, h2⟩
theorem ok_list {K : PySem.W.Frag} : OpN K (rListOf K) kList := by
  intro F H vs as c Q s r e q
  unfold kList at e
  split at e
  · obtain ⟨v, rfl, h⟩ := reps_one r
    cases e
    cases h with
    | lst h1 h2 => exact ⟨_, _, rfl, .inl (SqL.of (s _ _ h1)), fun l hl => q l _ hl (.lst h2)⟩
  · obtain ⟨v, rfl, h⟩ := reps_one r
    cases e
    cases h with
    | tup h1 h2 => exact ⟨_, _, rfl, .inr (SqT.of (s _ _ h1)), fun l hl => q l _ hl (.lst h2)⟩
  · obtain ⟨v, rfl, h⟩ := reps_one r
    cases e
    cases h with
    | ktp h1 h2 => exact ⟨_, _, rfl, .inr (Same.sqt s h1), fun l hl => q l _ hl (.lst h2)⟩
  · obtain ⟨v, rfl, h⟩ := reps_one r
    cases e
    cases h with
    | scr h1 => exact ⟨_, _, rfl, .inl (s.seq h1), fun l hl => q l _ hl (.lst (reps_ints _))⟩
  · cases e
def kTuple : List D → Option D
  | [.lst l] => some (.tup l)
  | [.tup l] => some (.tup l)
  | [.ktp l] => some (.ktp l)
  | _ => none
abbrev rTupleOf (K : PySem.W.Frag) : List V → Hp → VK → Prop := fun xs H Q => ∃ p ys, xs = [.ref p] ∧ ((SqL K H p ys ∧ ∀ l, H l = none → Q (.ref l) (upd H l (.tup ys))) ∨ (SqT K H p ys ∧ Q (.ref p) H))
theorem ok_tuple {K : PySem.W.Frag} : OpL K (rTupleOf K) kTuple := by
  intro F H vs as c Q s r e q
  unfold kTuple at e
  split at e
  · obtain ⟨v, rfl, h⟩ := reps_one r
    cases e
    cases h with
    | lst h1 h2 =>
      refine ⟨_, _, rfl, .inl ⟨SqL.of (s _ _ h1), fun l hl => q _ _ _ (Ext.alloc s hl _) (.tup upd_same (h2.mono (Ext.alloc s hl _).ff))⟩⟩
  · obtain ⟨v, rfl, h⟩ := reps_one r
    cases e
    have h' := h
    cases h with
    | tup h1 h2 => exact ⟨_, _, rfl, .inr ⟨SqT.of (s _ _ h1), q _ F H (Ext.refl s) h'⟩⟩
  · obtain ⟨v, rfl, h⟩ := reps_one r
    cases e
    have h' := h
    cases h with
    | ktp h1 h2 => exact ⟨_, _, rfl, .inr ⟨Same.sqt s h1, q _ F H (Ext.refl s) h'⟩⟩
  · cases e

/-! ### isinstance -/
def tyN : D → Option String
  | .non => some "NoneType"
  | .bl _ => some "bool"
  | .int _ => some "int"
  | .str _ => some "str"
  | .tup _ => some "tuple"
  | .ktp _ => some "tuple"
  | .lst _ => some "list"
  | .scr _ => some "list"
  | .dk _ => some "dict"
  | _ => none
/-- what of the text an own class must have for isinstance -/
structure IsiC (K : PySem.W.Frag) (C : Addr) : Prop where
  cl : Cls K C
  at_ : PySem.W.findIn K (.ref C) "__class__" = some (some (.builtin "object.__class__"))
  get : PySem.W.specialIn K (.builtin "object.__class__") "__get__" = some (some (.builtin "getset_descriptor.__get__"))
  tk : PySem.W.takesIn K (.builtin "object.__class__") = some true
  ob : PySem.W.mroIn K C (.type "object") = some true
  is_ : (PySem.W.clsIn K C).isSome = true ∧ PySem.W.typeIn K (.ref C) = some (.type "type")
def names7 : List String := ["NoneType", "bool", "int", "str", "tuple", "list", "dict"]
def subN (a b : String) : Bool := a == b || (a == "bool" && b == "int")
theorem kit_names {K : PySem.W.Frag} {a b : String} (ha : a ∈ names7) (hb : b ∈ names7) : PySem.W.kitOne K (.type a) (.type b) = some (subN a b) := by
  simp only [names7, List.mem_cons, List.not_mem_nil, or_false] at ha hb
  rcases ha with rfl | rfl | rfl | rfl | rfl | rfl | rfl <;> rcases hb with rfl | rfl | rfl | rfl | rfl | rfl | rfl <;> kernel_rfl
theorem kit_own {K : PySem.W.Frag} {a : String} {C : Addr} (ha : a ∈ names7) (h : IsiC K C) : PySem.W.kitOne K (.type a) (.ref C) = some false := by
  unfold PySem.W.kitOne
  rw [if_neg (by intro z; exact absurd (eq_of_beq z) (by intro q; cases q))]
  show (if ((PySem.W.clsIn K C).isSome && PySem.W.typeIn K (.ref C) == some (.type "type")) = true then PySem.W.subIn K (.type a) (.ref C) else none) = _
  rw [h.is_.1, h.is_.2, if_pos (by rfl)]
  simp only [names7, List.mem_cons, List.not_mem_nil, or_false] at ha
  rcases ha with rfl | rfl | rfl | rfl | rfl | rfl | rfl <;> kernel_rfl
theorem kit_self {K : PySem.W.Frag} {C : Addr} : PySem.W.kitOne K (.ref C) (.ref C) = some true := by
  unfold PySem.W.kitOne
  rw [if_pos (beq_self_eq_true _)]
theorem tyN_ok {K : PySem.W.Frag} {F H : Hp} (s : Same F H) {v : V} {a : D} {n : String} (r : Rep K F v a) (e : tyN a = some n) : TyX K H v (.type n) ∧ n ∈ names7 := by
  cases r with
  | non => cases e; exact ⟨.base .non, by decide⟩
  | bl => cases e; exact ⟨.base (.bl _), by decide⟩
  | int => cases e; exact ⟨.base (.int _), by decide⟩
  | str => cases e; exact ⟨.base (.str _), by decide⟩
  | tup h1 h2 => cases e; exact ⟨.base (.tup (s _ _ h1)), by decide⟩
  | ktp h1 h2 =>
    cases e
    refine ⟨?_, by decide⟩
    rcases Same.sqt s h1 with (h | ⟨o, h⟩) | ⟨o, its, n, h3, h4, h5⟩
    · exact .base (.tup h)
    · exact .fTuple h
    · exact .kTuple h3 h4
  | lst h1 h2 => cases e; exact ⟨.base (.lst (s _ _ h1)), by decide⟩
  | dk h1 h2 => cases e; exact ⟨.base (.dK (s _ _ h1)), by decide⟩
  | scr h1 =>
    cases e
    refine ⟨?_, by decide⟩
    rcases s.seq h1 with (h | ⟨o, h⟩) | ⟨o, its, n, h3, h4, h5⟩
    · exact .base (.lst h)
    · exact .base (.frz h)
    · exact .kList h3 h4
  | ins h1 h2 => cases e
  | cls => cases e
  | bty => cases e
/-- a thing's type: a built-in's name, an own class -/
def tyD : D → Option (String ⊕ Addr)
  | .ins C _ => some (.inr C)
  | d => (tyN d).map Sum.inl
def valT : String ⊕ Addr → Value
  | .inl n => .type n
  | .inr C => .ref C
def isiTy (cs : List Addr) (t : String ⊕ Addr) (c : D) : Option Bool := match t, c with
  | .inl t, .bty n => if n ∈ names7 then some (subN t n) else none
  | .inl _, .cls C => if C ∈ cs then some false else none
  | .inr C', .cls C => if C ∈ cs ∧ C' = C then some true else none
  | _, _ => none
def inCs (cs : List Addr) : String ⊕ Addr → Bool
  | .inl _ => true
  | .inr C => decide (C ∈ cs)
def nmOk : String ⊕ Addr → Prop
  | .inl n => n ∈ names7
  | .inr _ => True
theorem tyD_ok {K : PySem.W.Frag} {cs : List Addr} (hc : ∀ C ∈ cs, IsiC K C) {F H : Hp} (s : Same F H) {v : V} {a : D} {t : String ⊕ Addr} (r : Rep K F v a) (e : tyD a = some t) (hi : inCs cs t = true) : TyX K H v (valT t) ∧ nmOk t := by
  unfold tyD at e
  split at e
  · cases e
    cases r with
    | ins h1 h2 =>
      have h := hc _ (of_decide_eq_true hi)
      exact ⟨.base (.ins (s _ _ h1) h.cl h.at_ h.get h.tk h.ob), True.intro⟩
  · obtain ⟨n, e1, e2⟩ := Option.map_eq_some_iff.mp e
    subst e2
    exact tyN_ok s r e1
theorem isiTy_ok {K : PySem.W.Frag} {cs : List Addr} (hc : ∀ C ∈ cs, IsiC K C) {F : Hp} {u : V} {c : D} {t : String ⊕ Addr} {b : Bool} (hn : nmOk t) (r : Rep K F u c) (e : isiTy cs t c = some b) : ∃ w, ClsV u w ∧ PySem.W.kitOne K (valT t) w = some b := by
  unfold isiTy at e
  split at e
  · cases r
    split at e
    · rename_i h
      cases e
      exact ⟨_, .ty _, kit_names hn h⟩
    · cases e
  · cases r
    split at e
    · rename_i h
      cases e
      exact ⟨_, .own _, kit_own hn (hc _ h)⟩
    · cases e
  · cases r
    split at e
    · rename_i h
      cases e
      obtain ⟨_, rfl⟩ := h
      exact ⟨_, .own _, kit_self⟩
    · cases e
  · cases e
def kIsi (cs : List Addr) : List D → Option D
  | [a, c] => (tyD a).bind fun t => if inCs cs t then (isiTy cs t c).bind fun b => some (.bl b) else none
  | _ => none
theorem ok_isi {K : PySem.W.Frag} {cs : List Addr} (hc : ∀ C ∈ cs, IsiC K C) : OpL K (rIsi K) (kIsi cs) := by
  intro F H vs as c Q s r e q
  unfold kIsi at e
  split at e
  · obtain ⟨v, u, rfl, h1, h2⟩ := reps_two r
    obtain ⟨t, e1, e⟩ := bnd e
    split at e
    · rename_i hi
      obtain ⟨b, e2, e3⟩ := bnd e
      cases e3
      obtain ⟨k1, k2⟩ := tyD_ok hc s h1 e1 hi
      obtain ⟨w, k3, k4⟩ := isiTy_ok hc k2 h2 e2
      exact ⟨_, _, _, w, b, rfl, k3, k1, k4, q _ F H (Ext.refl s) .bl⟩
    · cases e
  · cases e
/-- isinstance(x, (c1, c2, ..)), the tuple displayed: all of them are looked at -/
def isiAny (cs : List Addr) (t : String ⊕ Addr) : List D → Option Bool
  | [] => some false
  | c :: r => (isiTy cs t c).bind fun b => (isiAny cs t r).bind fun b' => some (b || b')
def kIsiT (cs : List Addr) : List D → Option D
  | [a, .tup l] => (tyD a).bind fun t => if inCs cs t then (isiAny cs t l).bind fun b => some (.bl b) else none
  | _ => none
theorem isiAny_ok {K : PySem.W.Frag} {cs : List Addr} (hc : ∀ C ∈ cs, IsiC K C) {F : Hp} {t : String ⊕ Addr} (hn : nmOk t) : ∀ {us : List V} {l : List D} {b : Bool}, Reps K F us l → isiAny cs t l = some b → ∃ ws, Paired ClsV us ws ∧ PySem.W.kitAny K (valT t) ws = some b
  | _, _, _, .nil, e => by cases e; exact ⟨[], .nil, rfl⟩
  | _, _, _, .cons r1 r2, e => by
    obtain ⟨b1, e1, e⟩ := bnd e
    obtain ⟨b2, e2, e3⟩ := bnd e
    cases e3
    obtain ⟨w, k1, k2⟩ := isiTy_ok hc hn r1 e1
    obtain ⟨ws, k3, k4⟩ := isiAny_ok hc hn r2 e2
    refine ⟨w :: ws, .cons k1 k3, ?_⟩
    unfold PySem.W.kitAny
    rw [k2]
    cases b1
    · exact k4
    · rfl
theorem ok_isiT {K : PySem.W.Frag} {cs : List Addr} (hc : ∀ C ∈ cs, IsiC K C) : OpL K (rIsiT K) (kIsiT cs) := by
  intro F H vs as c Q s r e q
  unfold kIsiT at e
  split at e
  · obtain ⟨v, u, rfl, h1, h2⟩ := reps_two r
    obtain ⟨t, e1, e⟩ := bnd e
    split at e
    · rename_i hi
      obtain ⟨b, e2, e3⟩ := bnd e
      cases e3
      obtain ⟨k1, k2⟩ := tyD_ok hc s h1 e1 hi
      cases h2 with
      | tup h3 h4 =>
        obtain ⟨ws, k3, k4⟩ := isiAny_ok hc k2 h4 e2
        exact ⟨_, _, _, _, ws, b, rfl, s _ _ h3, k3, k1, k4, q _ F H (Ext.refl s) .bl⟩
    · cases e
  · cases e

/-! ### slices -/
def cutL {α : Type} (xs : List α) (lo hi : Option Int) : List α := (xs.drop (HT.sIx xs.length 0 lo)).take (HT.sIx xs.length xs.length hi - HT.sIx xs.length 0 lo)
def wholeL (n : Nat) (lo hi : Option Int) : Bool := decide (HT.sIx n 0 lo = 0 ∧ HT.sIx n n hi = n)
theorem cutL_whole {α : Type} {xs : List α} {lo hi : Option Int} (h : HT.sIx xs.length 0 lo = 0 ∧ HT.sIx xs.length xs.length hi = xs.length) : cutL xs lo hi = xs := by
  unfold cutL
  rw [h.1, h.2, List.drop_zero, Nat.sub_zero, List.take_length]
theorem reps_cut {K : PySem.W.Frag} {F : Hp} {vs : List V} {ds : List D} (h : Reps K F vs ds) (lo hi : Option Int) : Reps K F (cutV vs lo hi) (cutL ds lo hi) := by
  unfold cutV cutL
  rw [h.length]
  exact Reps.take _ (Reps.drop _ h)
def kSl (lo hi : Option Int) : D → Option D
  | .tup l => some (.tup (cutL l lo hi))
  | .ktp l => if wholeL l.length lo hi then some (.ktp l) else some (.tup (cutL l lo hi))
  | .lst l => some (.lst (cutL l lo hi))
  | .scr l => some (.lst ((cutL l lo hi).map D.int))
  | .str z => if z.length ≤ 16777216 then some (.str (cutS z lo hi)) else none
  | _ => none
abbrev rSl (K : PySem.W.Frag) : V → Option Int → Option Int → Hp → VK → Prop := fun x lo hi H Q => rSlA K x lo hi H Q ∨ rSlL K x lo hi H Q ∨ rSlS x lo hi H Q
theorem sl_all {X : Cx} : SlR X (rSl X.K) := SlR.or sl_tupA (SlR.or sl_list sl_str)
theorem cutV_ints (ns : List Int) (lo hi : Option Int) : cutV (ns.map V.int) lo hi = (cutL ns lo hi).map V.int := by
  unfold cutV cutL
  rw [List.length_map, List.map_take, List.map_drop]
theorem ok_sl {K : PySem.W.Frag} (lo hi : Option Int) : Op1 K (fun x H Q => rSl K x lo hi H Q) (kSl lo hi) := by
  intro F H v a c Q s r e q
  unfold kSl at e
  split at e
  · cases e
    cases r with
    | tup h1 h2 =>
      refine .inl ⟨_, _, rfl, SqT.of (s _ _ h1), fun hw => ?_, fun _ p hp => q _ _ _ (Ext.alloc s hp _) (.tup upd_same ((reps_cut h2 lo hi).mono (Ext.alloc s hp _).ff))⟩
      rw [h2.length] at hw
      rw [cutL_whole hw] at q
      exact q _ F H (Ext.refl s) (.tup h1 h2)
  · cases r with
    | ktp h1 h2 =>
      split at e
      · rename_i hw
        cases e
        have hw' := of_decide_eq_true hw
        rw [← h2.length] at hw'
        exact .inl ⟨_, _, rfl, Same.sqt s h1, fun _ => q _ F H (Ext.refl s) (.ktp h1 h2), fun n => absurd hw' n⟩
      · rename_i hw
        cases e
        have hw' : ¬ _ := fun z => hw (decide_eq_true z)
        rw [← h2.length] at hw'
        exact .inl ⟨_, _, rfl, Same.sqt s h1, fun z => absurd z hw', fun _ p hp => q _ _ _ (Ext.alloc s hp _) (.tup upd_same ((reps_cut h2 lo hi).mono (Ext.alloc s hp _).ff))⟩
  · cases e
    cases r with
    | lst h1 h2 => exact .inr (.inl ⟨_, _, rfl, SqL.of (s _ _ h1), fun p hp => q _ _ _ (Ext.alloc s hp _) (.lst upd_same ((reps_cut h2 lo hi).mono (Ext.alloc s hp _).ff))⟩)
  · cases e
    cases r with
    | scr h1 =>
      refine .inr (.inl ⟨_, _, rfl, s.seq h1, fun p hp => ?_⟩)
      rw [cutV_ints]
      exact q _ _ _ (Ext.alloc s hp _) (.lst upd_same (reps_ints _))
  · split at e
    · rename_i hz
      cases e
      cases r
      exact .inr (.inr ⟨_, rfl, by rw [sizeLine_eq]; exact hz, q _ F H (Ext.refl s) .str⟩)
    · cases e
  · cases e
abbrev BM := Env → Option (Option Int × Env)
def bN : BM := fun ρ => some (none, ρ)
def bS (f : EM) : BM := fun ρ => (f ρ).bind fun p => match p.1 with
  | .int i => some (some i, p.2)
  | _ => none
def tB (K : PySem.W.Frag) (g : Gx) (f : BM) : TO := fun σ H Q => ∃ F ρ o ρ', Gd K g F H σ ρ ∧ f ρ = some (o, ρ') ∧ ∀ F' H', Gd K g F' H' σ ρ' → Same F F' → Q o H'
theorem weakPO {X : Cx} {e : Option Expr} {t t' : TO} (h : PO X e t) (i : ∀ σ H Q, t' σ H Q → t σ H Q) : PO X e t' := ⟨fun pins s σ H Q I q => h.run pins s σ H Q I (i _ _ _ q)⟩
section
variable {X : Cx} {g : Gx} {ex : Expr} {lo hi : Option Expr} {f : EM} {fo : OM} {bl bh : BM} {pos p2 : Pos}
theorem db_n : PO X none (tB X.K g bN) := weakPO po_none fun σ H Q ⟨F, ρ, o, ρ', G, hf, q⟩ => by
  cases hf
  exact q F H G (Same.refl _)
theorem db_s (h : DE X g ex f) : PO X (some ex) (tB X.K g (bS f)) := weakPO (po_some h) fun σ H Q ⟨F, ρ, o, ρ', G, hf, q⟩ => by
  obtain ⟨p, e1, hf⟩ := bnd hf
  split at hf
  · rename_i i hi
    cases hf
    refine ⟨F, ρ, p.1, p.2, G, e1, fun v F' H' G' s r => ?_⟩
    rw [hi] at r
    cases r
    exact ⟨i, rfl, q F' H' G' s⟩
  · cases hf
/-- x[lo:hi] as data -/
def eSl (fo : OM) (bl bh : BM) : EM := fun ρ => (fo ρ).bind fun p => (bl p.2).bind fun l => (bh l.2).bind fun h => (res h.2 p.1).bind fun a => (kSl l.1 h.1 a).bind fun c => fin (isVal p.1) c h.2
theorem de_sl (he : DO X g ex fo) (hl : PO X lo (tB X.K g bl)) (hh : PO X hi (tB X.K g bh)) : DE X g (.Subscript ex (.Slice lo hi none p2) pos) (eSl fo bl bh) :=
  weakPE (pe_slice sl_all he hl hh) fun σ H Q ⟨F, ρ, d, ρ', G, hf, q⟩ => by
  obtain ⟨p, e1, hf⟩ := bnd hf
  obtain ⟨l, e2, hf⟩ := bnd hf
  obtain ⟨h, e3, hf⟩ := bnd hf
  obtain ⟨a, e4, hf⟩ := bnd hf
  obtain ⟨c, e5, hf⟩ := bnd hf
  refine ⟨F, ρ, p.1, p.2, G, e1, fun v F1 H1 G1 s1 r1 => ⟨F1, p.2, l.1, l.2, G1, e2, fun F2 H2 G2 s2 => ⟨F2, l.2, h.1, h.2, G2, e3, fun F3 H3 G3 s3 => ?_⟩⟩⟩
  exact G3.op1 (r := fun x H Q => rSl X.K x l.1 h.1 H Q) (ok_sl l.1 h.1) ((r1.mono s2).mono s3) e4 e5 hf fun w F4 H4 G4 s4 r4 => q w F4 H4 G4 (((s1.trans s2).trans s3).trans s4) r4
end
end L3

namespace L3
open PySem L2

/-! ### zip, enumerate -/
def zipD (xs ys : List D) : List D := (xs.zip ys).map fun p => D.tup [p.1, p.2]
theorem zipD_get {xs ys : List D} {i : Nat} {x y : D} (h1 : xs[i]? = some x) (h2 : ys[i]? = some y) : (zipD xs ys)[i]? = some (.tup [x, y]) := by
  unfold zipD
  rw [List.getElem?_map, List.getElem?_zip_eq_some (z := (x, y)) |>.mpr ⟨h1, h2⟩]
  rfl
theorem zipD_len {xs ys : List D} : (zipD xs ys).length = min xs.length ys.length := by
  unfold zipD
  rw [List.length_map, List.length_zip]
theorem walk_zipL {K : PySem.W.Frag} {F0 : Hp} {a b : Addr} {xs ys : List V} {ds es : List D} (ha : F0 a = some (.lst xs)) (hb : F0 b = some (.lst ys)) (ra : Reps K F0 xs ds) (rb : Reps K F0 ys es) : WalkOk K (Itz K a b) F0 (zipD ds es) where
  go := fun i F H s1 s2 hi => by
    rw [zipD_len, ← ra.length, ← rb.length] at hi
    exact ⟨xs, ys, xs[i]'(by omega), ys[i]'(by omega), SqL.of (s2 _ _ (s1 _ _ ha)), SqL.of (s2 _ _ (s1 _ _ hb)), List.getElem?_eq_getElem _, List.getElem?_eq_getElem _⟩
  yld := fun i F H v H' s1 s2 hi ⟨T, x, y, ev, hT, eH, hx, hy⟩ => by
    subst ev eH
    obtain ⟨d, e1, r1⟩ := ra.get' (hx xs (SqL.of (s2 _ _ (s1 _ _ ha))))
    obtain ⟨e, e2, r2⟩ := rb.get' (hy ys (SqL.of (s2 _ _ (s1 _ _ hb))))
    have X1 := Ext.alloc s2 hT (.tup [x, y])
    exact ⟨_, _, zipD_get e1 e2, X1, .tup upd_same (.cons (Rep.mono X1.ff (r1.mono s1)) (.cons (Rep.mono X1.ff (r2.mono s1)) .nil))⟩
  stop := fun i F H s1 s2 hi => by
    rw [zipD_len, ← ra.length, ← rb.length] at hi
    exact ⟨xs, ys, SqL.of (s2 _ _ (s1 _ _ ha)), SqL.of (s2 _ _ (s1 _ _ hb)), by omega⟩
theorem walk_zipT {K : PySem.W.Frag} {F0 : Hp} {a b : Addr} {xs ys : List V} {ds es : List D} (ha : SqT K F0 a xs) (hb : SqT K F0 b ys) (ra : Reps K F0 xs ds) (rb : Reps K F0 ys es) : WalkOk K (RZ.ItzT K a b) F0 (zipD ds es) where
  go := fun i F H s1 s2 hi => by
    rw [zipD_len, ← ra.length, ← rb.length] at hi
    exact ⟨xs, ys, xs[i]'(by omega), ys[i]'(by omega), Same.sqt s2 (Same.sqt s1 ha), Same.sqt s2 (Same.sqt s1 hb), List.getElem?_eq_getElem _, List.getElem?_eq_getElem _⟩
  yld := fun i F H v H' s1 s2 hi ⟨T, x, y, ev, hT, eH, hx, hy⟩ => by
    subst ev eH
    obtain ⟨d, e1, r1⟩ := ra.get' (hx xs (Same.sqt s2 (Same.sqt s1 ha)))
    obtain ⟨e, e2, r2⟩ := rb.get' (hy ys (Same.sqt s2 (Same.sqt s1 hb)))
    have X1 := Ext.alloc s2 hT (.tup [x, y])
    exact ⟨_, _, zipD_get e1 e2, X1, .tup upd_same (.cons (Rep.mono X1.ff (r1.mono s1)) (.cons (Rep.mono X1.ff (r2.mono s1)) .nil))⟩
  stop := fun i F H s1 s2 hi => by
    rw [zipD_len, ← ra.length, ← rb.length] at hi
    exact ⟨xs, ys, Same.sqt s2 (Same.sqt s1 ha), Same.sqt s2 (Same.sqt s1 hb), by omega⟩
def zipM : List Opd → Option (List D)
  | [.val (.lst l), .val (.lst m)] => some (zipD l m)
  | [.val (.tup l), .val (.tup m)] => some (zipD l m)
  | [.val (.tup l), .val (.ktp m)] => some (zipD l m)
  | [.val (.ktp l), .val (.tup m)] => some (zipD l m)
  | [.val (.ktp l), .val (.ktp m)] => some (zipD l m)
  | _ => none
def itZ (f : AM) : LM := fun ρ => (f ρ).bind fun p => (zipM p.1).bind fun l => some (l, p.2)
def tupP : D → Option (List D)
  | .tup l => some l
  | .ktp l => some l
  | _ => none
theorem rep_tupP {K : PySem.W.Frag} {F : Hp} {v : V} {d : D} {l : List D} (r : Rep K F v d) (e : tupP d = some l) : ∃ p vs, v = .ref p ∧ SqT K F p vs ∧ Reps K F vs l := by
  cases d <;> cases e <;> cases r
  · rename_i h1 h2; exact ⟨_, _, rfl, SqT.of h1, h2⟩
  · rename_i h1 h2; exact ⟨_, _, rfl, h1, h2⟩
theorem zipM_cases {os : List Opd} {l : List D} (e : zipM os = some l) : (∃ a b, os = [.val (.lst a), .val (.lst b)] ∧ l = zipD a b) ∨ ∃ x y a b, os = [.val x, .val y] ∧ tupP x = some a ∧ tupP y = some b ∧ l = zipD a b := by
  unfold zipM at e
  split at e
  · cases e; exact .inl ⟨_, _, rfl, rfl⟩
  · cases e; exact .inr ⟨_, _, _, _, rfl, rfl, rfl, rfl⟩
  · cases e; exact .inr ⟨_, _, _, _, rfl, rfl, rfl, rfl⟩
  · cases e; exact .inr ⟨_, _, _, _, rfl, rfl, rfl, rfl⟩
  · cases e; exact .inr ⟨_, _, _, _, rfl, rfl, rfl, rfl⟩
  · cases e
section
variable {X : Cx} {g : Gx} {a b : Expr} {fa : AM} {p pos tpos : Pos} {elts : List Expr} {kk : Nat}
theorem di_zip (hg : Gl X "zip") (hm : X.mg "zip" = none) (ha : DA X g [a, b] fa) (hs : starEach [a, b] X.env = (false, eval a X.env) :: starEach [b] X.env := by rfl) (hpl : (backTo pos (starEach [b] X.env)).any (·.1) = false := by rfl) :
    DI X g (.Tuple elts kk tpos) (.Call (.Name "zip" p) [a, b] [] pos) (itZ fa) :=
  weakPI (RZ.pi_zipA hg hm ha hs hpl) fun σ H R ⟨F, ρ, ds, ρ', G, hf, q⟩ => by
  obtain ⟨q1, e, hf⟩ := bnd hf
  obtain ⟨l, e2, hf⟩ := bnd hf
  obtain ⟨os, ρ1⟩ := q1
  cases hf
  refine ⟨F, ρ, os, ρ1, G, e, fun vs F' H' G' s r => ?_⟩
  rcases zipM_cases e2 with ⟨x, y, rfl, rfl⟩ | ⟨x, y, l1, l2, rfl, t1, t2, rfl⟩
  · cases r with
    | cons r1 rr =>
      cases rr with
      | cons r2 rr =>
        cases rr
        have r1' : Rep X.K F' _ (.lst x) := r1
        have r2' : Rep X.K F' _ (.lst y) := r2
        cases r1' with
        | lst h1 h2 =>
          cases r2' with
          | lst h3 h4 => exact ⟨_, _, _, _, rfl, .inl ⟨SqL.of (G'.sub _ _ h1), SqL.of (G'.sub _ _ h3), q _ F' H' G' s (walk_zipL h1 h3 h2 h4)⟩⟩
  · cases r with
    | cons r1 rr =>
      cases rr with
      | cons r2 rr =>
        cases rr
        obtain ⟨p1, w1, rfl, h1, h2⟩ := rep_tupP (show Rep X.K F' _ x from r1) t1
        obtain ⟨p2, w2, rfl, h3, h4⟩ := rep_tupP (show Rep X.K F' _ y from r2) t2
        exact ⟨_, _, _, _, rfl, .inr ⟨Same.sqt G'.sub h1, Same.sqt G'.sub h3, q _ F' H' G' s (walk_zipT h1 h3 h2 h4)⟩⟩
end
def enumD (xs : List D) : List D := zipD (rng 0 xs.length) xs
theorem enumD_get {xs : List D} {i : Nat} {x : D} (h : xs[i]? = some x) : (enumD xs)[i]? = some (.tup [.int (i : Nat), x]) := by
  have hi := (List.getElem?_eq_some_iff.mp h).1
  refine zipD_get ?_ h
  unfold rng
  rw [List.getElem?_map, List.getElem?_range hi]
  show some (D.int (0 + (i : Int))) = _
  rw [Int.zero_add]
theorem enumD_len {xs : List D} : (enumD xs).length = xs.length := by
  unfold enumD
  rw [zipD_len, rng_len]
  omega
theorem walk_enum {K : PySem.W.Frag} {F0 : Hp} {a : Addr} {xs : List V} {ds : List D} (ha : F0 a = some (.lst xs)) (ra : Reps K F0 xs ds) : WalkOk K (Ite K a) F0 (enumD ds) where
  go := fun i F H s1 s2 hi => by
    rw [enumD_len, ← ra.length] at hi
    exact ⟨xs, xs[i]'hi, SqL.of (s2 _ _ (s1 _ _ ha)), List.getElem?_eq_getElem _⟩
  yld := fun i F H v H' s1 s2 hi ⟨T, x, ev, hT, eH, hx⟩ => by
    subst ev eH
    obtain ⟨d, e1, r1⟩ := ra.get' (hx xs (SqL.of (s2 _ _ (s1 _ _ ha))))
    have X1 := Ext.alloc s2 hT (.tup [.int (i : Nat), x])
    exact ⟨_, _, enumD_get e1, X1, .tup upd_same (.cons .int (.cons (Rep.mono X1.ff (r1.mono s1)) .nil))⟩
  stop := fun i F H s1 s2 hi => by
    rw [enumD_len, ← ra.length] at hi
    exact ⟨xs, SqL.of (s2 _ _ (s1 _ _ ha)), hi⟩
def itE (f : AM) : LM := fun ρ => (f ρ).bind fun p => match p.1 with
  | [.val (.lst l)] => some (enumD l, p.2)
  | _ => none
theorem di_enum {X : Cx} {g : Gx} {a : Expr} {fa : AM} {p pos tpos : Pos} {elts : List Expr} {kk : Nat} (hg : Gl X "enumerate") (hm : X.mg "enumerate" = none) (ha : DA X g [a] fa) (hs : starEach [a] X.env = [(false, eval a X.env)] := by rfl) :
    DI X g (.Tuple elts kk tpos) (.Call (.Name "enumerate" p) [a] [] pos) (itE fa) :=
  weakPI (pi_enum hg hm ha hs) fun σ H R ⟨F, ρ, ds, ρ', G, hf, q⟩ => by
  obtain ⟨q1, e, hf⟩ := bnd hf
  obtain ⟨os, ρ1⟩ := q1
  refine ⟨F, ρ, os, ρ1, G, e, fun vs F' H' G' s r => ?_⟩
  dsimp only at hf
  split at hf
  · cases hf
    cases r with
    | cons r1 rr =>
      cases rr
      rename_i l _
      have r1' : Rep X.K F' _ (.lst l) := r1
      cases r1' with
      | lst h1 h2 => exact ⟨_, _, rfl, SqL.of (G'.sub _ _ h1), q _ F' H' G' s (walk_enum h1 h2)⟩
  · cases hf

/-! ### texts -/
def smallI (i : Int) : Bool := decide (i.natAbs.log2 < 1920)
def kStr : List D → Option D
  | [.int i] => if smallI i then some (.str (toString i)) else none
  | [.str x] => some (.str x)
  | _ => none
abbrev rStrX : List V → Hp → VK → Prop := fun xs H Q => (∃ i, xs = [.int i] ∧ i.natAbs.log2 < 1920 ∧ Q (.str (toString i)) H) ∨ (∃ a, xs = [.str a] ∧ Q (.str a) H)
theorem call_strX {X : Cx} : CallR X (.type "str") rStrX := callr_or call_str_int SkE.call_str_str
theorem ok_str {K : PySem.W.Frag} : OpL K rStrX kStr := by
  intro F H vs as c Q s r e q
  unfold kStr at e
  split at e
  · obtain ⟨v, rfl, h⟩ := reps_one r
    split at e
    · rename_i hz
      cases e
      cases h
      exact .inl ⟨_, rfl, of_decide_eq_true hz, q _ F H (Ext.refl s) .str⟩
    · cases e
  · obtain ⟨v, rfl, h⟩ := reps_one r
    cases e
    cases h
    exact .inr ⟨_, rfl, q _ F H (Ext.refl s) .str⟩
  · cases e
def strsOf : List D → Option (List Str)
  | [] => some []
  | .str b :: r => (strsOf r).bind fun bs => some (b :: bs)
  | _ :: _ => none
theorem strsOf_eq : ∀ {l : List D} {bs : List Str}, strsOf l = some bs → l = bs.map D.str
  | [], _, e => by cases e; rfl
  | .str b :: r, _, e => by
    obtain ⟨bs, e1, e2⟩ := bnd e
    cases e2
    rw [strsOf_eq e1]; rfl
  | .non :: _, _, e => by cases e
  | .bl _ :: _, _, e => by cases e
  | .int _ :: _, _, e => by cases e
  | .tup _ :: _, _, e => by cases e
  | .lst _ :: _, _, e => by cases e
  | .ktp _ :: _, _, e => by cases e
  | .dk _ :: _, _, e => by cases e
  | .ins _ _ :: _, _, e => by cases e
  | .cls _ :: _, _, e => by cases e
  | .bty _ :: _, _, e => by cases e
  | .scr _ :: _, _, e => by cases e
theorem reps_strs {K : PySem.W.Frag} {F : Hp} : ∀ {ys : List Str} {vs : List V}, Reps K F vs (ys.map D.str) → vs = ys.map V.str
  | [], _, h => by cases h; rfl
  | y :: ys, _, h => by
    cases h with
    | cons a b =>
      cases a
      rw [reps_strs b]; rfl
def joinFits (a : Str) (ys : List Str) : Bool := decide ((ys.map (·.length)).sum + ys.length * a.length ≤ 16777216)
def kJoin (a b : D) : Option D := match a with
  | .str x => (match b with
    | .lst l => some l
    | .tup l => some l
    | .ktp l => some l
    | _ => none).bind fun l => (strsOf l).bind fun ys => if joinFits x ys then some (.str (Txt.join x ys)) else none
  | _ => none
def rJoin2 (K : PySem.W.Frag) : R2 := fun x y H Q => ∃ a p, ∃ ys : List Str, x = .str a ∧ y = .ref p ∧ (SqL K H p (ys.map V.str) ∨ SqT K H p (ys.map V.str)) ∧ (ys.map (·.length)).sum + ys.length * a.length ≤ 16777216 ∧ Q (.str (Txt.join a ys)) H
theorem ok_join {K : PySem.W.Frag} : Op2 K (rJoin2 K) kJoin := by
  intro F H v u a b c Q s ra rb e q
  unfold kJoin at e
  split at e
  · obtain ⟨l, e1, e⟩ := bnd e
    obtain ⟨ys, e2, e⟩ := bnd e
    split at e
    · rename_i hf
      cases e
      cases ra
      rw [strsOf_eq e2] at e1
      have hf' := of_decide_eq_true hf
      split at e1
      · cases e1
        cases rb with
        | lst h1 h2 =>
          have e3 := reps_strs h2
          subst e3
          exact ⟨_, _, _, rfl, rfl, .inl (SqL.of (s _ _ h1)), hf', q _ F H (Ext.refl s) .str⟩
      · cases e1
        cases rb with
        | tup h1 h2 =>
          have e3 := reps_strs h2
          subst e3
          exact ⟨_, _, _, rfl, rfl, .inr (SqT.of (s _ _ h1)), hf', q _ F H (Ext.refl s) .str⟩
      · cases e1
        cases rb with
        | ktp h1 h2 =>
          have e3 := reps_strs h2
          subst e3
          exact ⟨_, _, _, rfl, rfl, .inr (Same.sqt s h1), hf', q _ F H (Ext.refl s) .str⟩
      · cases e1
    · cases e
  · cases e
end L3
namespace L3
open PySem L2
/-! ### methods of texts, one argument -/
def isS : D → Bool
  | .str _ => true
  | _ => false
def eM1 (k : D → D → Option D) (f : EM) (h : OM) : EM := fun ρ => (f ρ).bind fun p => if isS p.1 then (h p.2).bind fun q => (res q.2 q.1).bind fun b => (k p.1 b).bind fun c => fin (isVal q.1) c q.2 else none
theorem m1_t {X : Cx} {g : Gx} {r : V → List V → Hp → VK → Prop} {k : D → D → Option D} {f : EM} {h : OM} (hk : Op2 X.K (fun x y H Q => r x [y] H Q) k) {σ : L2.St} {H : Hp} {Q : VK} (z : tE X.K g (eM1 k f h) σ H Q) : tM1 r (tE X.K g f) (tO X.K g h) σ H Q := by
  obtain ⟨F, ρ, d, ρ', G, hf0, q⟩ := z
  obtain ⟨⟨a, ρ1⟩, e1, hf1⟩ := bnd hf0
  clear hf0
  split at hf1
  · rename_i hs
    obtain ⟨p2, e2, hf2⟩ := bnd hf1
    obtain ⟨b, e3, hf3⟩ := bnd hf2
    obtain ⟨c, e4, hf4⟩ := bnd hf3
    clear hf1 hf2 hf3
    refine ⟨F, ρ, a, ρ1, G, e1, fun v F1 H1 G1 s1 r1 => ?_⟩
    cases a with
    | str x =>
      have r1' := r1
      cases r1
      refine ⟨⟨_, rfl⟩, F1, ρ1, p2.1, p2.2, G1, e2, fun u F2 H2 G2 s2 r2 => ?_⟩
      have hf' : fin (isVal (.val (.str x)) && isVal p2.1) c p2.2 = some (d, ρ') := by
        rw [isVal_v, Bool.true_and]; exact hf4
      exact G2.op2 (r := fun x y H Q => r x [y] H Q) hk (o := .val (.str x)) (Rep.mono s2 r1') r2 rfl e3 e4 hf' fun w F3 H3 G3 s3 r3 => q w F3 H3 G3 ((s1.trans s2).trans s3) r3
    | _ => cases hs
  · cases hf1
section
variable {X : Cx} {g : Gx} {a b : Expr} {f : EM} {h : OM} {apos pos : Pos}
theorem de_join (ha : DE X g a f) (hb : DO X g b h) (hs : starEach [b] X.env = [(false, eval b X.env)] := by rfl) (hbase : attributeBase a "join" X.env (eval a X.env) = eval a X.env := by rfl) (hline : (apos.endLine == pos.line) = true := by rfl) :
    DE X g (.Call (.Attribute a "join" apos) [b] [] pos) (eM1 kJoin f h) :=
  weakPE (pe_join ha hb hs hbase hline) fun σ H Q q => m1_t (r := fun x xs H Q => ∃ a p, ∃ ys : List Str, x = .str a ∧ xs = [.ref p] ∧ (SqL X.K H p (ys.map V.str) ∨ SqT X.K H p (ys.map V.str)) ∧ (ys.map (·.length)).sum + ys.length * a.length ≤ 16777216 ∧ Q (.str (Txt.join a ys)) H)
    (fun F H v u a b c Q s ra rb e q => by
      obtain ⟨x, p, ys, e1, e2, h1, h2, h3⟩ := ok_join F H v u a b c Q s ra rb e q
      exact ⟨x, p, ys, e1, by rw [e2], h1, h2, h3⟩) q
end
/-! ### f-strings -/
def kFmt : D → Option D
  | .str y => if y.length ≤ 16777216 then some (.str y) else none
  | .int i => if smallI i then some (.str (toString i)) else none
  | _ => none
def rFmt : V → Hp → VK → Prop := fun x H Q => (∃ y : Str, x = .str y ∧ y.length ≤ sizeLine ∧ Q (.str y) H) ∨ ∃ i : Int, x = .int i ∧ i.natAbs.log2 < 1920 ∧ Q (.str (toString i)) H
theorem ok_fmt {K : PySem.W.Frag} : Op1 K rFmt kFmt := by
  intro F H v a c Q s r e q
  unfold kFmt at e
  split at e
  · split at e
    · rename_i hz
      cases e; cases r
      exact .inl ⟨_, rfl, by rw [sizeLine_eq]; exact hz, q _ F H (Ext.refl s) .str⟩
    · cases e
  · split at e
    · rename_i hz
      cases e; cases r
      exact .inr ⟨_, rfl, of_decide_eq_true hz, q _ F H (Ext.refl s) .str⟩
    · cases e
  · cases e
theorem de_fmt {X : Cx} {g : Gx} {ex : Expr} {f : OM} {pos : Pos} (h : DO X g ex f) : DE X g (.FormattedValue ex (-1) none pos) (e1 kFmt f) := weakPE (pe_fmt h) fun σ H Q q => op1_t ok_fmt q
/-- the parts, in order -/
inductive PJD (X : Cx) (g : Gx) : List Expr → List EM → Prop where
  | nil : PJD X g [] []
  | cons {e : Expr} {f : EM} {es : List Expr} {fs : List EM} (h : DE X g e f) (r : PJD X g es fs) : PJD X g (e :: es) (f :: fs)
theorem PJD.pj {X : Cx} {g : Gx} {es : List Expr} {fs : List EM} (h : PJD X g es fs) : PJ X es (fs.map (tE X.K g)) := by
  induction h with
  | nil => exact .nil
  | cons h r ih => exact .cons h ih
def strD : D → Option Str
  | .str y => some y
  | _ => none
def jsLoop : List EM → Str → EM
  | [], acc, ρ => some (.str acc, ρ)
  | f :: fs, acc, ρ => (f ρ).bind fun p => (strD p.1).bind fun y => if (acc ++ y).length ≤ 16777216 then jsLoop fs (acc ++ y) p.2 else none
def eJs (fs : List EM) : EM := jsLoop fs Str.empty
theorem js_t {X : Cx} {g : Gx} : ∀ {fs : List EM} {acc : Str} {σ : L2.St} {H : Hp} {Q : VK} {F : Hp} {ρ ρ' : Env} {d : D}, Gd X.K g F H σ ρ → jsLoop fs acc ρ = some (d, ρ') → (∀ v F' H', Gd X.K g F' H' σ ρ' → Same F F' → Rep X.K F' v d → Q v H') →
    tJs (fs.map (tE X.K g)) acc σ H fun out H1 => Q (.str out) H1
  | [], acc, σ, H, Q, F, ρ, ρ', d, G, hf, q => by
    cases hf
    exact q _ F H G (Same.refl _) .str
  | f :: fs, acc, σ, H, Q, F, ρ, ρ', d, G, hf, q => by
    unfold jsLoop at hf
    obtain ⟨⟨a, ρ1⟩, e1, hf⟩ := bnd hf
    obtain ⟨y, e2, hf⟩ := bnd hf
    split at hf
    · rename_i hz
      refine ⟨F, ρ, a, ρ1, G, e1, fun v F1 H1 G1 s1 r1 => ?_⟩
      cases a <;> cases e2
      cases r1
      exact ⟨_, rfl, by rw [sizeLine_eq]; exact hz, js_t G1 hf fun v F2 H2 G2 s2 r2 => q v F2 H2 G2 (s1.trans s2) r2⟩
    · cases hf
theorem de_js {X : Cx} {g : Gx} {v1 v2 : Expr} {rest : List Expr} {fs : List EM} {pos : Pos} (h : PJD X g (v1 :: v2 :: rest) fs) : DE X g (.JoinedStr (v1 :: v2 :: rest) pos) (eJs fs) :=
  weakPE (pe_joined h.pj) fun σ H Q ⟨F, ρ, d, ρ', G, hf, q⟩ => js_t G hf q
theorem de_js1 {X : Cx} {g : Gx} {ex : Expr} {f : EM} {pos : Pos} (h : DE X g ex f) : DE X g (.JoinedStr [ex] pos) f := pe_joined1 h

/-! ### own lists: clear, reverse, extend, pop -/
/-- a method without arguments on the own list of slot i, its new content -/
def sLst0 (i : Nat) (k : List D → List D) : SM := fun ρ => match ρ[i]? with
  | some (some (.own t (.lst xs))) => some (.nx, ρ.set i (some (.own t (.lst (k xs)))))
  | _ => none
def rLst0 (k : List V → List V) : V → List V → Hp → VK → Prop := fun x vs H Q => ∃ l xs, x = .ref l ∧ vs = [] ∧ H l = some (.lst xs) ∧ Q .non (upd H l (.lst (k xs)))
section
variable {X : Cx} {g : Gx} {ex : Expr} {i : Nat} {pos : Pos}
theorem ds_lst0 {k : List V → List V} {kd : List D → List D} (hk : ∀ {F : Hp} {vs : List V} {ds : List D}, Reps X.K F vs ds → Reps X.K F (k vs) (kd ds)) (h : PE X ex (tBM0 X.K "list" (rLst0 k) (tVar i))) (hs : swapsWith ex none pos.line X.env = pure false := by rfl) :
    DS X g (.Expr ex pos) (sLst0 i kd) := weakPS (ps_expr h hs) fun D σ H ⟨F, ρ, out, ρ', G, hf, q⟩ => by
  unfold sLst0 at hf
  split at hf
  · rename_i t xs hx
    cases hf
    obtain ⟨l, o, hv, _, _, hl, r⟩ := G.slot i _ hx
    obtain ⟨vs, rfl, r2⟩ := ownLst r
    exact ⟨_, hv, .inl ⟨rfl, _, SqL.of hl⟩, l, vs, rfl, rfl, hl, q σ F _ (G.updOwn hx hv (.lst (hk r2))) (Same.refl _)⟩
  · cases hf
end
end L3

namespace L3
open PySem L2

/-! ### a comprehension over an own list -/
def nLcO (i : Nat) (h : GM) (t : TM) (e : EM) (vs : List Nat) : NM := fun ρ => match ρ[i]? with
  | some (some (.own tg (.lst xs))) => (lcLoop h t e vs xs [] (ρ.set i none)).bind fun q => some (.lst q.1, (putBack (ρ.set i none) q.2 vs).set i (some (.own tg (.lst xs))))
  | _ => none
section
variable {K : PySem.W.Frag} {g : Gx} {F H : Hp} {σ : L2.St} {ρ : Env}
theorem Gd.pinNone (G : Gd K g F H σ ρ) {i : Nat} {l : Addr} (h : OwnAt H σ ρ i l) : g.pin l = none := by
  cases q : g.pin l with
  | none => rfl
  | some o => exact absurd h ((G.pinned l o q).2.2 i)
/-- the slot i told nothing of -/
theorem Gd.hide (G : Gd K g F H σ ρ) (i : Nat) : Gd K g F H σ (ρ.set i none) := G.less (by simp [G.len]) fun j s e => by
  by_cases hj : i = j
  · subst hj
    by_cases hl : i < ρ.length
    · rw [List.getElem?_set_self hl] at e; cases e
    · rw [List.getElem?_eq_none (by simp; omega)] at e; cases e
  · rw [List.getElem?_set_ne hj] at e
    exact ⟨e, rfl⟩
theorem Gd.give (G : Gd K g F H σ ρ) {i : Nat} {l : Addr} {t : Option Nat} {o : HO} {xs : D} (hv : σ[i]? = some (some (.ref l))) (tg : tagOk g t l) (hf : F l = none) (hl : H l = some o) (r : ORep K F o xs) (no : ∀ j, ¬ OwnAt H σ ρ j l) (hp : g.pin l = none) :
    Gd K g F H σ (ρ.set i (some (.own t xs))) := by
  have own : ∀ {j : Nat} {b : Addr}, OwnAt H σ (ρ.set i (some (.own t xs))) j b → (j = i ∧ b = l) ∨ OwnAt H σ ρ j b := fun {j b} h => by
    by_cases c : j = i
    · subst c
      obtain ⟨k, e, ⟨_, ea⟩ | ⟨t', ys, u, q, _, _⟩⟩ := h
      · rw [hv] at e; cases e
        exact .inl ⟨rfl, ea⟩
      · rcases get_set q with ⟨h1, h2, h3⟩ | ⟨h1, h2⟩
        · cases h2
        · exact absurd rfl h1
    · exact .inr (h.neR c)
  refine ⟨by simp [G.len], fun j s e => ?_, fun a b c h1 h2 => ?_, G.sub, G.old, G.keep, G.grow, G.new, fun b u q => ⟨(G.pinned b u q).1, (G.pinned b u q).2.1, fun j h => ?_⟩⟩
  · rcases get_set e with ⟨h1, h2, h3⟩ | ⟨h1, h2⟩
    · subst h1
      cases h2
      exact ⟨l, o, hv, tg, hf, hl, r⟩
    · exact G.slot j s h2
  · rcases own h1 with ⟨ea, el⟩ | k1
    · rcases own h2 with ⟨eb, _⟩ | k2
      · rw [ea, eb]
      · rw [el] at k2; exact absurd k2 (no _)
    · rcases own h2 with ⟨_, el⟩ | k2
      · rw [el] at k1; exact absurd k1 (no _)
      · exact G.dist a b c k1 k2
  · rcases own h with ⟨_, rfl⟩ | h
    · rw [hp] at q; cases q
    · exact (G.pinned b u q).2.2 j h
end
theorem lcO_t {K : PySem.W.Frag} {g : Gx} {i : Nat} {h : GM} {t : TM} {e : EM} {ws vs : List Nat} (sub : ∀ j ∈ ws, j ∈ vs) {σ : L2.St} {H : Hp} {Q : VK} (q : tN K g (nLcO i h t e vs) σ H Q) :
    tLc (iList K (tVar i)) (tGx K ws h) (tTx K t) (tEx K e) vs σ H Q := by
  obtain ⟨F, ρ, d, ρ', G, hf, q⟩ := q
  unfold nLcO at hf
  split at hf
  · rename_i tg xs hx
    obtain ⟨pE, eE, hf⟩ := bnd hf
    obtain ⟨xsE, ρE⟩ := pE
    cases hf
    obtain ⟨l, o, hv, ht, hfl, hl, r⟩ := G.slot i _ hx
    obtain ⟨ys, rfl, r2⟩ := ownLst r
    have hown : OwnAt H σ ρ i l := .of hv hx
    have hpn := G.pinNone hown
    have no0 : ∀ j, ¬ OwnAt H σ (ρ.set i none) j l := fun j h0 => by
      by_cases c : j = i
      · subst c
        obtain ⟨s, z⟩ := h0.slot
        rcases get_set z with ⟨h1, h2, h3⟩ | ⟨h1, h2⟩
        · cases h2
        · exact h1 rfl
      · exact c (G.dist j i l (h0.neR c) hown)
    have G1 := (G.hide i).pin hl hfl no0
    have w : WalkG K (Itl K l) (g.also l (.lst ys)) F xs := by
      have at_ : ∀ {F' H' : Hp} {σ' : L2.St} {ρ' : Env}, Gd K (g.also l (.lst ys)) F' H' σ' ρ' → H' l = some (.lst ys) := fun G' => (G'.pinned l _ upd_same).1
      refine ⟨fun k F' H' σ' ρ' G' s hk => ?_, fun k F' H' σ' ρ' x H2 G' s hk hy => ?_, fun k F' H' σ' ρ' G' s hk => ?_⟩
      · rw [← r2.length] at hk
        exact ⟨ys, ys[k], SqL.of (at_ G'), by simp [hk]⟩
      · obtain ⟨e1, y⟩ := hy
        subst e1
        obtain ⟨d, e1, e2⟩ := r2.get' (y ys (SqL.of (at_ G')))
        exact ⟨d, F', e1, Ext.refl G'.sub, e2.mono s⟩
      · rw [← r2.length] at hk
        exact ⟨ys, SqL.of (at_ G'), hk⟩
    refine ⟨_, hv, l, rfl, ⟨ys, SqL.of hl⟩, lc_in sub G1 w eE fun L u F' H' G' s' h1 h2 h3 h4 h5 h6 => ?_⟩
    obtain ⟨G2, k1, k2, k3⟩ := Gd.unpin hpn G'
    have ne : L ≠ l := fun z => by
      subst z
      have h4' : upd g.pin L (.lst ys) L = none := h4
      rw [upd_same] at h4'
      cases h4'
    have h4' : g.pin L = none := by
      have z : upd g.pin l (.lst ys) L = none := h4
      rw [upd_ne ne] at z
      exact z
    refine q L u F' H' (G2.give hv ht k2 k1 (.lst (r2.mono s')) k3 hpn) s' h1 h2 h3 h4' (fun j h0 => ?_) h6
    by_cases c : j = i
    · subst c
      obtain ⟨k, e, ⟨_, ea⟩ | ⟨t', ys, u', z, _, _⟩⟩ := h0
      · rw [hv] at e; cases e
        exact ne ea
      · rcases get_set z with ⟨a1, a2, a3⟩ | ⟨a1, a2⟩
        · cases a2
        · exact a1 rfl
    · exact h5 j (h0.neR c)
  · cases hf
section
variable {X : Cx} {g : Gx} {elt tg iter : Expr} {ifs : List Expr} {scope : Scope} {own : List (Str × Nat)} {pos : Pos} {i : Nat} {h : GM} {t : TM} {e : EM} {ws : List Nat}
theorem dn_lcO (hc : X.calm = true) (hN : X.N.Nodup) (hi : PE X iter (tVar i)) (ok : BlkOk X.N X.env.scope scope own)
    (hg : ∀ (s : Shared) (H : Hp) (C : Addr) (cl : List (Str × Addr)) (fp : List Addr) (g : Gx), DG (X.blk s H scope (compEnvC scope cl C X.env) fp) g tg ws h)
    (ht : ∀ (s : Shared) (H : Hp) (C : Addr) (cl : List (Str × Addr)) (fp : List Addr) (g : Gx), DTs (X.blk s H scope (compEnvC scope cl C X.env) fp) g ifs t)
    (he : ∀ (s : Shared) (H : Hp) (C : Addr) (cl : List (Str × Addr)) (fp : List Addr) (g : Gx), DE (X.blk s H scope (compEnvC scope cl C X.env) fp) g elt e)
    (sub : ∀ j ∈ ws, j ∈ own.map (·.2)) (hs : ∀ x, foldedSetIterable iter X.env x = pure x := by intro _; rfl) :
    DN X g (.ListComp elt [⟨tg, iter, ifs, 0⟩] scope pos) (nLcO i h t e (own.map (·.2))) :=
  weakPE (pe_lc (g := tGx X.K ws h) (tt := tTx X.K t) (te := tEx X.K e) hc hN (pi_list hi) ok (fun s H C cl fp => pgx (hg s H C cl fp)) (fun s H C cl fp => ptsx (ht s H C cl fp)) (fun s H C cl fp => pex (he s H C cl fp)) hs) fun σ H Q q => lcO_t sub q
end

/-! ### a field of an own object -/
def eFldR (i : Nat) (C : Addr) (f : Str) : EM := fun ρ => match ρ[i]? with
  | some (some (.own _ (.ins C' gs))) => if C' = C then (gs.lookup f).bind fun x => some (x, ρ) else none
  | _ => none
theorem de_fldR {X : Cx} {g : Gx} {ex : Expr} {i : Nat} {C : Addr} {f : Str} (c : Cls X.K C) (n : NoAttr X.K C f) (h : PE X ex (tFld X.K (tVar i) f)) : DE X g ex (eFldR i C f) := weakPE h fun σ H Q ⟨F, ρ, d, ρ', G, hf, q⟩ => by
  unfold eFldR at hf
  split at hf
  · rename_i t C' gs hx
    split at hf
    · rename_i hC
      obtain ⟨x, e1, hf⟩ := bnd hf
      cases hf
      subst hC
      obtain ⟨l, o, hv, _, _, hl, r⟩ := G.slot i _ hx
      obtain ⟨dx, vs, rfl, rf⟩ := ownIns r
      obtain ⟨v, e2, r2⟩ := (rf.get f).1 _ e1
      exact ⟨_, hv, l, C', dx, vs, v, rfl, hl, c, n, e2, q v F H G (Same.refl _) r2⟩
    · cases hf
  · cases hf

/-! ### o.m(..) that hands back a fresh thing -/
def nMeth (C : Addr) (m : Str) (fm : FM) (dds : List D) (fo : OM) (fa : AM) : NM := fun ρ => (fo ρ).bind fun p => if insOk C m (conts p.2 p.1) then (fa p.2).bind fun q => (callO fm dds (p.1 :: q.1) q.2).bind fun r => (resL r.1).bind fun xs => if (r.2.1 || lfo xs) = true then some (xs, r.2.2) else none else none
section
variable {X : Cx} {g : Gx} {ex : Expr} {fo : OM} {fa : AM} {C : Addr} {m : Str} {fm : FM} {dds : List D} {dvs : List V} {E : XK}
theorem dn_meth (hdd : ∀ F, Reps X.K F dvs dds) (h : PE X ex (tMeth C m (spF X.K fm) dvs E (tO X.K g fo) (tA X.K g fa))) : DN X g ex (nMeth C m fm dds fo fa) :=
  weakPE h fun σ H Q ⟨F, ρ, d, ρ', G, hf, q⟩ => by
  obtain ⟨p, e1, hf⟩ := bnd hf
  split at hf
  · rename_i hi
    obtain ⟨p2, e2, hf⟩ := bnd hf
    obtain ⟨⟨rr, nr, ρ2⟩, e3, hf⟩ := bnd hf
    obtain ⟨xs, e4, hf⟩ := bnd hf
    split at hf
    · rename_i hx
      cases hf
      refine ⟨F, ρ, p.1, p.2, G, e1, fun v F1 H1 G1 s1 r1 => ?_⟩
      unfold insOk at hi
      split at hi
      · rename_i C' gs hc
        have hi := Bool.and_eq_true_iff.mp hi
        cases (of_decide_eq_true hi.1)
        obtain ⟨a, dx, fs, rfl, ha, rf⟩ := conts_ins G1 r1 hc
        refine ⟨a, dx, fs, rfl, ha, rf.none (Option.isNone_iff_eq_none.mp hi.2), F1, p.2, p2.1, p2.2, G1, e2, fun vs F2 H2 G2 s2 r2 => ?_⟩
        refine callO_t (vs := V.ref a :: vs) hdd G2 (.cons (r1.mono s2) r2) e3 fun w F3 F4 H4 ad rep reps trep none G4 sF rs => ?_
        cases rr with
        | d x => cases e4
        | r x => cases e4
        | n ys =>
          cases e4
          obtain ⟨l, ws, rfl, h1, h2, hx2, h3, h4⟩ := rs
          obtain ⟨n1, n2, n3, n4⟩ := none l h1 h2 hx2
          exact q l ws F4 H4 G4 ((s1.trans s2).trans sF) h3 n1 n2 n3 n4 (reps (fun h => by dsimp only at hx; rw [h] at hx; simpa using hx) h4)
      · cases hi
    · cases hf
  · cases hf
end

/-! ### while -/
def whl (t : TM) (b : SM) : Nat → SM
  | 0, _ => none
  | n + 1, ρ => (t ρ).bind fun p => if p.1 then (b p.2).bind fun q => match q.1 with
    | .nx => whl t b n q.2
    | .ct => whl t b n q.2
    | .br => some (.nx, q.2)
    | o => some (o, q.2)
    else some (.nx, p.2)
theorem ds_while {X : Cx} {g : Gx} {c : Expr} {body : List Stmt} {t : TM} {b : SM} {pos : Pos} (N : Nat) (hp : PassesOwn (model X.prog X.w) X.A X.env X.xe) (hc : DT X g c t) (hb : DSs X g body b) : DS X g (.While c body [] pos) (whl t b N) :=
  weakPS (ps_while hp hc hb) fun E σ H ⟨F, ρ, o, ρ', G, hf, q⟩ => by
  refine ⟨fun n σ H => ∃ F2 ρ2, Gd X.K g F2 H σ ρ2 ∧ Same F F2 ∧ whl t b n ρ2 = some (o, ρ'), ⟨N, F, ρ, G, Same.refl _, hf⟩, ?_⟩
  rintro n σ H ⟨F2, ρ2, G2, s2, hw⟩
  cases n with
  | zero => cases hw
  | succ n =>
    obtain ⟨⟨b1, ρ3⟩, e1, hw⟩ := bnd hw
    refine ⟨F2, ρ2, b1, ρ3, G2, e1, fun F3 H3 G3 s3 => ?_⟩
    cases b1 with
    | false =>
      cases hw
      exact iteF (q _ F3 H3 G3 (s2.trans s3))
    | true =>
      refine iteT ?_
      simp only [if_true] at hw
      obtain ⟨⟨o4, ρ4⟩, e4, hw⟩ := bnd hw
      refine ⟨fun σ' H' => ∃ F5, Gd X.K g F5 H' σ' ρ4 ∧ Same F F5 ∧ whl t b n ρ4 = some (o, ρ'), fun σ' H' ⟨F5, G5, s5, h5⟩ => ⟨n, Nat.lt_succ_self n, F5, ρ4, G5, s5, h5⟩, F3, ρ3, o4, ρ4, G3, e4, fun σ' F5 H5 G5 s5 => ?_⟩
      have s6 := (s2.trans s3).trans s5
      cases o4 with
      | nx => exact ⟨F5, G5, s6, hw⟩
      | ct => exact ⟨F5, G5, s6, hw⟩
      | br => cases hw; exact q _ F5 H5 G5 s6
      | rt d => cases hw; exact q _ F5 H5 G5 s6
      | rn x => cases hw; exact q _ F5 H5 G5 s6
      | rr x => cases hw; exact q _ F5 H5 G5 s6
end L3

namespace L3
open PySem L2
/-! ### the mirrors of L3Ext, run -/
section
variable {ρ : Env} {Q : D × Env → Prop} {QL : List D × Env → Prop} {QS : Out × Env → Prop} {QB : Option Int × Env → Prop} {a : AM} {o o2 : OM} {f : EM} {bl bh : BM} {i : Nat}
theorem x_bN : Ex (bN ρ) QB = QB (none, ρ) := ex_some
theorem x_bS : Ex (bS f ρ) QB = Ex (f ρ) fun p => ∃ i, p.1 = .int i ∧ QB (some i, p.2) := by
  unfold bS; simp only [ex_eq]; rw [ex0_bind]
  congr 1; funext p
  obtain ⟨d, ρ'⟩ := p
  cases d <;> simp [ex0_some, ex0_none]
theorem x_eSl : Ex (eSl o bl bh ρ) Q = Ex (o ρ) fun p => Ex (bl p.2) fun l => Ex (bh l.2) fun h => Ex (res h.2 p.1) fun a => Ex (kSl l.1 h.1 a) fun c => Ex (fin (isVal p.1) c h.2) Q := by
  unfold eSl; simp only [ex_eq, ex0_bind]
theorem x_itZ : Ex (itZ a ρ) QL = Ex (a ρ) fun p => Ex (zipM p.1) fun l => QL (l, p.2) := by
  unfold itZ; simp only [ex_eq, ex0_bind, ex0_some]
def lstArg : List Opd → Option (List D)
  | [.val (.lst l)] => some l
  | _ => none
theorem x_itE : Ex (itE a ρ) QL = Ex (a ρ) fun p => Ex (lstArg p.1) fun l => QL (enumD l, p.2) := by
  unfold itE; simp only [ex_eq]; rw [ex0_bind]
  congr 1; funext p
  obtain ⟨l, ρ'⟩ := p
  unfold lstArg
  rcases l with _ | ⟨x, _ | ⟨y, r⟩⟩
  · simp only [ex0_none]
  · rcases x with d | _ | _ <;> try simp only [ex0_none]
    cases d <;> simp only [ex0_some, ex0_none]
  · rcases x with d | _ | _ <;> simp only [ex0_none]
theorem x_nMeth {C : Addr} {m : Str} {fm : FM} {dds : List D} : Ex (nMeth C m fm dds o a ρ) Q = Ex (o ρ) fun p => insOk C m (conts p.2 p.1) = true ∧ Ex (a p.2) fun q => Ex (callO fm dds (p.1 :: q.1) q.2) fun r => Ex (resL r.1) fun xs => (r.2.1 = true ∨ lfo xs = true) ∧ Q (xs, r.2.2) := by
  unfold nMeth; simp only [ex_eq, ex0_guard, ex0_bind, ex0_some, Bool.or_eq_true]
theorem x_eFldR {C : Addr} {fl : Str} : Ex (eFldR i C fl ρ) Q = Ex (ownIn C ρ i) fun w => Ex (w.2.lookup fl) fun x => Q (x, ρ) := by
  unfold eFldR ownIn
  simp only [ex_eq]
  generalize ρ[i]? = z; rcases z with _ | _ | x | ⟨t, x⟩ <;> try simp only [ex0_some, ex0_none]
  cases x <;> simp only [ex0_some, ex0_none]
  rename_i C' gs
  by_cases h : C' = C
  · simp only [h, if_true, ex0_bind, ex0_some]
  · simp only [h, if_false, ex0_none]
theorem x_sLst0 {k : List D → List D} : Ex (sLst0 i k ρ) QS = Ex (ownL ρ i) fun w => QS (.nx, ρ.set i (some (.own w.1 (.lst (k w.2))))) := by
  unfold sLst0 ownL
  simp only [ex_eq]
  generalize ρ[i]? = z; rcases z with _ | _ | x | ⟨t, x⟩ <;> try simp only [ex0_some, ex0_none]
  cases x <;> simp only [ex0_some, ex0_none]
theorem x_eM1 {k : D → D → Option D} : Ex (eM1 k f o ρ) Q = Ex (f ρ) fun p => isS p.1 = true ∧ Ex (o p.2) fun q => Ex (res q.2 q.1) fun b => Ex (k p.1 b) fun c => Ex (fin (isVal q.1) c q.2) Q := by
  unfold eM1; simp only [ex_eq, ex0_guard, ex0_bind]
end
theorem kSl_l {l : List D} {lo hi : Option Int} : kSl lo hi (.lst l) = some (.lst (cutL l lo hi)) := rfl
theorem kSl_t {l : List D} {lo hi : Option Int} : kSl lo hi (.tup l) = some (.tup (cutL l lo hi)) := rfl
theorem zipM_l {l m : List D} : zipM [.val (.lst l), .val (.lst m)] = some (zipD l m) := rfl
theorem kList_l {l : List D} : kList [.lst l] = some (.lst l) := rfl
theorem kTuple_l {l : List D} : kTuple [.lst l] = some (.tup l) := rfl
theorem kTuple_t {l : List D} : kTuple [.tup l] = some (.tup l) := rfl
theorem cutL_map {α : Type} {f : α → D} {l : List α} {lo hi : Option Int} : cutL (l.map f) lo hi = (cutL l lo hi).map f := by
  unfold cutL
  rw [List.length_map, List.map_take, List.map_drop]
theorem cutL_from {α : Type} {l : List α} {k : Nat} : cutL l (some (k : Int)) none = l.drop k := by
  have e2 : HT.sIx l.length l.length none = l.length := rfl
  have e1 : HT.sIx l.length 0 (some (k : Int)) = min k l.length := by
    show (if (k : Int) < 0 then ((k : Int) + (l.length : Int)).toNat else min (k : Int).toNat l.length) = _
    rw [if_neg (by omega)]
    rfl
  unfold cutL
  rw [e1, e2]
  by_cases h : k ≤ l.length
  · rw [Nat.min_eq_left h, ← List.length_drop, List.take_length]
  · rw [Nat.min_eq_right (by omega), List.drop_length, List.drop_eq_nil_of_le (by omega), List.take_nil]
theorem zipD_map {α β : Type} {f : α → D} {g : β → D} {l : List α} {m : List β} : zipD (l.map f) (m.map g) = (l.zip m).map fun p => D.tup [f p.1, g p.2] := by
  unfold zipD
  rw [List.zip_map, List.map_map]
  rfl
theorem ex_first {α : Type} {l : List α} {f : α → D} {Q : D → Prop} {x : α} (h : l.head? = some x) (k : Q (f x)) : Ex (atI (l.map f) 0) Q := by
  cases l with
  | nil => cases h
  | cons a r =>
    cases h
    rw [List.map_cons, atI_0]
    exact ⟨_, rfl, k⟩
end L3
namespace L3
theorem cutL_1 {α : Type} {l : List α} : cutL l (some 1) none = l.drop 1 := cutL_from (k := 1)
end L3
namespace L3
theorem kIsN_n {a : D} : kIsN a .non = some (.bl (isN a)) := rfl
theorem kNotN_n {a : D} : kNotN a .non = some (.bl (!isN a)) := rfl
theorem isN_n : isN .non = true := rfl
theorem isN_i {i : Int} : isN (.int i) = false := rfl
theorem isN_s {x : PySem.Str} : isN (.str x) = false := rfl
theorem isN_t {l : List D} : isN (.tup l) = false := rfl
end L3
namespace L3
theorem ex_nth {α : Type} {l : List α} {f : α → D} {i : Int} {n : Nat} {Q : D → Prop} {x : α} (hi : i = (n : Int)) (h : l[n]? = some x) (k : Q (f x)) : Ex (L2.atI (l.map f) i) Q := by
  subst hi
  have hn := (List.getElem?_eq_some_iff.mp h).1
  rw [atI_at (by omega) (by rw [List.length_map]; omega), List.getElem?_map, Int.toNat_natCast, h]
  exact ⟨_, rfl, k⟩
end L3
namespace L3
open PySem L2
theorem putD_dset2 (ks : List Int) (k : Int) : ∃ ks', putD (dset ks) (.inl k) (.bl true) = dset ks' ∧ ks'.length ≤ ks.length + 1 ∧ ∀ x ∈ ks', x ∈ ks ∨ x = k := by
  unfold putD
  split
  · refine ⟨ks, ?_, by omega, fun x h => .inl h⟩
    unfold dset
    rw [List.map_map]
    apply List.map_congr_left
    intro x _
    show (if (Sum.inl x : Key) = Sum.inl k then ((Sum.inl x : Key), D.bl true) else (Sum.inl x, D.bl true)) = _
    rw [ite_self]
  · exact ⟨ks ++ [k], by unfold dset; rw [List.map_append]; rfl, by simp, fun x h => by simpa using h⟩
theorem isort_mem {l : List Int} {x : Int} : x ∈ isort l ↔ x ∈ l := (sortBy_perm l).mem_iff
end L3
namespace L3
open PySem L2
theorem x_nLcO {h : GM} {t : TM} {e : EM} {vs : List Nat} {i : Nat} {ρ : Env} {Q : D × Env → Prop} : Ex (nLcO i h t e vs ρ) Q = Ex (ownL ρ i) fun w => Ex (lcLoop h t e vs w.2 [] (ρ.set i none)) fun q => Q (.lst q.1, (putBack (ρ.set i none) q.2 vs).set i (some (.own w.1 (.lst w.2)))) := by
  unfold nLcO ownL
  simp only [ex_eq]
  generalize ρ[i]? = z; rcases z with _ | _ | x | ⟨t, x⟩ <;> try simp only [ex0_some, ex0_none]
  cases x <;> simp only [ex0_some, ex0_none, ex0_bind]
theorem kIsi_b {cs : List Addr} {a : D} {n m : String} (ht : tyD a = some (.inl n)) (hm : m ∈ names7) : kIsi cs [a, .bty m] = some (.bl (subN n m)) := by
  show ((tyD a).bind fun t => if inCs cs t then (isiTy cs t (.bty m)).bind fun b => some (D.bl b) else none) = _
  rw [ht]
  show ((if m ∈ names7 then some (subN n m) else none).bind fun b => some (D.bl b)) = _
  rw [if_pos hm]
  rfl
theorem kIsi_ll {cs : List Addr} {l : List D} : kIsi cs [.lst l, .bty "list"] = some (.bl true) := kIsi_b (n := "list") rfl (by decide)
theorem kIsi_tt {cs : List Addr} {l : List D} : kIsi cs [.tup l, .bty "tuple"] = some (.bl true) := kIsi_b (n := "tuple") rfl (by decide)
end L3

namespace L3
open PySem L2

/-! ### comprehensions with two fors -/
def lcLoop2 (h : GM) (t : TM) (it1 : LM) (h1 : GM) (t1 : TM) (e : EM) (vs vs1 : List Nat) : List D → List D → LM
  | [], acc, ρ => some (acc, ρ)
  | d :: r, acc, ρ => (h d (wipeE ρ vs)).bind fun ρ1 => (t ρ1).bind fun p => if p.1 then (it1 p.2).bind fun q => (lcLoop h1 t1 e vs1 q.1 acc q.2).bind fun z => lcLoop2 h t it1 h1 t1 e vs vs1 r z.1 z.2
    else lcLoop2 h t it1 h1 t1 e vs vs1 r acc p.2
def nLc2 (it : LM) (h : GM) (t : TM) (it1 : LM) (h1 : GM) (t1 : TM) (e : EM) (vs vs1 : List Nat) : NM := fun ρ => (it ρ).bind fun p => (lcLoop2 h t it1 h1 t1 e vs vs1 p.1 [] p.2).bind fun q => some (.lst q.1, putBack p.2 q.2 vs)
def tIx (K : PySem.W.Frag) (f : LM) : TI := fun σ H R => ∃ g, tI K g f σ H R
theorem pix {X : Cx} {tg iter : Expr} {f : LM} (h : ∀ g, DI X g tg iter f) : PI X tg iter (tIx X.K f) := by
  first
  | exact ⟨fun pins s σ H Q I ⟨g, q⟩ => (h g).run pins s σ H Q I q⟩
  | exact fun pos pins s σ H Q I ⟨g, q⟩ => (h g) pos pins s σ H Q I q
theorem wipe_wipe {σ : L2.St} {vs vs1 : List Nat} (h : ∀ j ∈ vs1, j ∈ vs) : L2.wipe (L2.wipe σ vs1) vs = L2.wipe σ vs := by
  apply List.ext_getElem?
  intro j
  by_cases hj : j ∈ vs
  · rw [wipe_get, if_pos hj, wipe_get, if_pos hj, wipe_length]
  · rw [wipe_get, if_neg hj, wipe_get, if_neg (fun z => hj (h j z)), wipe_get, if_neg hj]
theorem wipeE_wipe {ρ : Env} {vs vs1 : List Nat} (h : ∀ j ∈ vs1, j ∈ vs) : wipeE (wipeE ρ vs1) vs = wipeE ρ vs := by
  apply List.ext_getElem?
  intro j
  by_cases hj : j ∈ vs
  · rw [wipeE_get, if_pos hj, wipeE_get, if_pos hj, wipeE_length]
  · rw [wipeE_get, if_neg hj, wipeE_get, if_neg (fun z => hj (h j z)), wipeE_get, if_neg hj]
/-- the turns, the new list begun -/
theorem lc_turns {K : PySem.W.Frag} {g : Gx} {h : GM} {t : TM} {e : EM} {ws vs : List Nat} (sub : ∀ j ∈ ws, j ∈ vs) {σ : L2.St} {J : It} {F1 : Hp} {ρE : Env} {ds xsE : List D} (w : WalkG K J g F1 ds) {L : Addr} (nL : g.H0 L = none) (pL : g.pin L = none)
    {F H : Hp} {ρ : Env} {acc : List D} {ws0 : List V} (s1 : Same F1 F) (G1 : Gd K g F H (L2.wipe σ vs) (wipeE ρ vs)) (hL : H L = some (.lst ws0)) (fL : F L = none) (noW : ∀ i, ¬ OwnAt H (L2.wipe σ vs) (wipeE ρ vs) i L) (r0 : Reps K F ws0 acc) (l0 : ws0.length = acc.length)
    (eE : lcLoop h t e vs ds acc ρ = some (xsE, ρE)) {S : Hp → Prop}
    (q : ∀ F' H' ws2, Gd K g F' H' (L2.wipe σ vs) (wipeE ρE vs) → Same F1 F' → H' L = some (.lst ws2) → F' L = none → (∀ i, ¬ OwnAt H' (L2.wipe σ vs) (wipeE ρE vs) i L) → Reps K F' ws2 xsE → ws2.length = xsE.length → S H') :
    ∃ W : Nat → Nat → Hp → Prop, (∃ m, W 0 m H) ∧ ∀ i m H, W i m H →
      (J.stop i H ∧ S H) ∨ (J.go i H ∧ ∃ Nx : Hp → Prop, (∀ H', Nx H' → ∃ m', m' < m ∧ W (i + 1) m' H') ∧ ∀ x H', J.yld i H x H' → tGx K ws h x (L2.wipe σ vs) H' fun σ2 H2 => L2.wipe σ2 vs = L2.wipe σ vs ∧ tTx K t σ2 H2 fun b H3 =>
        if b = true then tEx K e σ2 H3 fun y H4 => ∃ acc, H4 L = some (.lst acc) ∧ acc.length < sizeLine ∧ Nx (upd H4 L (.lst (acc ++ [y]))) else Nx H3) := by
  refine ⟨fun i m H => m = ds.length - i ∧ i ≤ ds.length ∧ ∃ F2 ρ2 acc ws', Gd K g F2 H (L2.wipe σ vs) (wipeE ρ2 vs) ∧ Same F1 F2 ∧ H L = some (.lst ws') ∧ F2 L = none ∧ (∀ i, ¬ OwnAt H (L2.wipe σ vs) (wipeE ρ2 vs) i L) ∧ Reps K F2 ws' acc ∧ ws'.length = acc.length ∧ lcLoop h t e vs (ds.drop i) acc ρ2 = some (xsE, ρE),
    ⟨_, rfl, Nat.zero_le _, F, ρ, acc, ws0, G1, s1, hL, fL, noW, r0, l0, eE⟩, ?_⟩
  rintro i m H ⟨rfl, hi, F2, ρ2, acc, ws', G2, s2, hL2, fL2, no2, racc, hlen, hl⟩
  by_cases hlt : i < ds.length
  · refine .inr ⟨w.go i F2 H _ _ G2 s2 hlt, fun H' => i + 1 ≤ ds.length ∧ ∃ F3 ρ3 acc ws', Gd K g F3 H' (L2.wipe σ vs) (wipeE ρ3 vs) ∧ Same F1 F3 ∧ H' L = some (.lst ws') ∧ F3 L = none ∧ (∀ i, ¬ OwnAt H' (L2.wipe σ vs) (wipeE ρ3 vs) i L) ∧ Reps K F3 ws' acc ∧ ws'.length = acc.length ∧ lcLoop h t e vs (ds.drop (i + 1)) acc ρ3 = some (xsE, ρE),
      fun H' p' => ⟨ds.length - (i + 1), by omega, rfl, p'⟩, fun x H' y => ?_⟩
    obtain ⟨d, F3, hd, xt, r⟩ := w.yld i F2 H _ _ x H' G2 s2 hlt y
    have ed : ds.drop i = d :: ds.drop (i + 1) := by
      rw [List.drop_eq_getElem_cons hlt]
      rw [List.getElem?_eq_getElem hlt] at hd
      cases hd; rfl
    rw [ed] at hl
    unfold lcLoop at hl
    obtain ⟨ρ4, e4, hl⟩ := bnd hl
    obtain ⟨p5, e5, hl⟩ := bnd hl
    obtain ⟨b5, ρ5⟩ := p5
    have Gp := (G2.pin hL2 fL2 no2).ext xt
    have r3 : Reps K F3 ws' acc := racc.mono xt.ff
    have fold : ∀ {σ4 : L2.St} {F6 H6 : Hp} {ρ6 : Env}, L2.wipe σ4 vs = L2.wipe σ vs → Gd K (g.also L (.lst ws')) F6 H6 σ4 ρ6 → Gd K g F6 H6 (L2.wipe σ vs) (wipeE ρ6 vs) ∧ H6 L = some (.lst ws') ∧ F6 L = none ∧ ∀ i, ¬ OwnAt H6 (L2.wipe σ vs) (wipeE ρ6 vs) i L := fun {σ4 F6 H6 ρ6} ew G6 => by
      have z := G6.wipe vs
      rw [ew] at z
      exact z.unpin pL
    refine ⟨g.also L (.lst ws'), F3, wipeE ρ2 vs, d, ρ4, Gp, r, e4, fun σ4 G4 w4 => ?_⟩
    have ew : L2.wipe σ4 vs = L2.wipe σ vs := by
      have e1 := wipe_eq (σ := L2.wipe σ vs) (σ' := σ4) (vs := vs) w4.1 fun j hj => w4.2 j fun z => hj (sub j z)
      rw [e1]
      exact wipe_wipe fun _ h => h
    refine ⟨?_, g.also L (.lst ws'), F3, ρ4, b5, ρ5, G4, e5, fun F5 H5 G5 s5 => ?_⟩
    · exact ew
    · cases b5 with
      | true =>
        refine iteT ?_
        simp only [if_true] at hl
        obtain ⟨p6, e6, hl⟩ := bnd hl
        obtain ⟨y6, ρ6⟩ := p6
        refine ⟨g.also L (.lst ws'), F5, ρ5, y6, ρ6, G5, e6, fun y F6 H6 G6 s6 r6 => ?_⟩
        dsimp only at hl
        split at hl
        · rename_i hsz
          obtain ⟨G7, l7, f7, n7⟩ := fold ew G6
          refine ⟨ws', l7, by rw [hlen]; exact (by rw [sizeLine_eq]; exact hsz), hlt, F6, ρ6, acc ++ [y6], ws' ++ [y], G7.updFree f7 nL pL n7, ((s2.trans xt.ff).trans s5).trans s6, upd_same, f7, (fun j z => n7 j (G7.ownUpd n7 z)), ((r3.mono s5).mono s6).append (.cons r6 .nil), by simp [hlen], hl⟩
        · cases hl
      | false =>
        refine iteF ?_
        obtain ⟨G7, l7, f7, n7⟩ := fold ew G5
        exact ⟨hlt, F5, ρ5, acc, ws', G7, (s2.trans xt.ff).trans s5, l7, f7, n7, r3.mono s5, hlen, hl⟩
  · have e : i = ds.length := by omega
    subst e
    rw [List.drop_length] at hl
    cases hl
    exact .inl ⟨w.stop _ F2 H _ _ G2 s2 (Nat.le_refl _), q F2 H ws' G2 s2 hL2 fL2 no2 racc hlen⟩
theorem lc2_t {K : PySem.W.Frag} {g : Gx} {it it1 : LM} {h h1 : GM} {t t1 : TM} {e : EM} {ws vs ws1 vs1 : List Nat} (sub : ∀ j ∈ ws, j ∈ vs) (sub1 : ∀ j ∈ ws1, j ∈ vs1) (hv : ∀ j ∈ vs1, j ∈ vs) {σ : L2.St} {H : Hp} {Q : VK} (q : tN K g (nLc2 it h t it1 h1 t1 e vs vs1) σ H Q) :
    tLc2 (tI K g it) (tGx K ws h) (tTx K t) (tIx K it1) (tGx K ws1 h1) (tTx K t1) (tEx K e) vs vs1 σ H Q := by
  obtain ⟨F, ρ, d, ρ', G, hf, q⟩ := q
  obtain ⟨p, e0, hf⟩ := bnd hf
  obtain ⟨ds, ρ1⟩ := p
  obtain ⟨pE, eE, hf⟩ := bnd hf
  obtain ⟨xsE, ρE⟩ := pE
  cases hf
  refine ⟨F, ρ, ds, ρ1, G, e0, fun J F1 H1 G1 s1 w0 => ?_⟩
  have w : WalkG K J g F1 ds := w0.toG
  intro L hL
  obtain ⟨_, fL, nL, pL, _⟩ := G1.fresh hL (.lst [])
  have G1' := (G1.fresh hL (.lst [])).1
  have Gw := G1'.wipe vs
  have noW : ∀ i, ¬ OwnAt (upd H1 L (.lst [])) (L2.wipe σ vs) (wipeE ρ1 vs) i L := (Gd.fresh (G1.wipe vs) hL (.lst [])).2.2.2.2
  refine ⟨fun i m H => m = ds.length - i ∧ i ≤ ds.length ∧ ∃ F2 ρ2 acc ws', Gd K g F2 H (L2.wipe σ vs) (wipeE ρ2 vs) ∧ Same F1 F2 ∧ H L = some (.lst ws') ∧ F2 L = none ∧ (∀ i, ¬ OwnAt H (L2.wipe σ vs) (wipeE ρ2 vs) i L) ∧ Reps K F2 ws' acc ∧ ws'.length = acc.length ∧ lcLoop2 h t it1 h1 t1 e vs vs1 (ds.drop i) acc ρ2 = some (xsE, ρE),
    ⟨_, rfl, Nat.zero_le _, F1, ρ1, [], [], Gw, Same.refl _, upd_same, fL, noW, .nil, rfl, eE⟩, ?_⟩
  rintro i m H ⟨rfl, hi, F2, ρ2, acc, ws', G2, s2, hL2, fL2, no2, racc, hlen, hl⟩
  by_cases hlt : i < ds.length
  · refine .inr ⟨w.go i F2 H _ _ G2 s2 hlt, fun H' => i + 1 ≤ ds.length ∧ ∃ F3 ρ3 acc ws', Gd K g F3 H' (L2.wipe σ vs) (wipeE ρ3 vs) ∧ Same F1 F3 ∧ H' L = some (.lst ws') ∧ F3 L = none ∧ (∀ i, ¬ OwnAt H' (L2.wipe σ vs) (wipeE ρ3 vs) i L) ∧ Reps K F3 ws' acc ∧ ws'.length = acc.length ∧ lcLoop2 h t it1 h1 t1 e vs vs1 (ds.drop (i + 1)) acc ρ3 = some (xsE, ρE),
      fun H' p' => ⟨ds.length - (i + 1), by omega, rfl, p'⟩, fun x H' y => ?_⟩
    obtain ⟨d, F3, hd, xt, r⟩ := w.yld i F2 H _ _ x H' G2 s2 hlt y
    have ed : ds.drop i = d :: ds.drop (i + 1) := by
      rw [List.drop_eq_getElem_cons hlt]
      rw [List.getElem?_eq_getElem hlt] at hd
      cases hd; rfl
    rw [ed] at hl
    unfold lcLoop2 at hl
    obtain ⟨ρ4, e4, hl⟩ := bnd hl
    obtain ⟨p5, e5, hl⟩ := bnd hl
    obtain ⟨b5, ρ5⟩ := p5
    have Gp := (G2.pin hL2 fL2 no2).ext xt
    have r3 : Reps K F3 ws' acc := racc.mono xt.ff
    have fold : ∀ {σ4 : L2.St} {F6 H6 : Hp} {ρ6 : Env}, L2.wipe σ4 vs = L2.wipe σ vs → Gd K (g.also L (.lst ws')) F6 H6 σ4 ρ6 → Gd K g F6 H6 (L2.wipe σ vs) (wipeE ρ6 vs) ∧ H6 L = some (.lst ws') ∧ F6 L = none ∧ ∀ i, ¬ OwnAt H6 (L2.wipe σ vs) (wipeE ρ6 vs) i L := fun {σ4 F6 H6 ρ6} ew G6 => by
      have z := G6.wipe vs
      rw [ew] at z
      exact z.unpin pL
    refine ⟨g.also L (.lst ws'), F3, wipeE ρ2 vs, d, ρ4, Gp, r, e4, fun σ4 G4 w4 => ?_⟩
    have ew : L2.wipe σ4 vs = L2.wipe σ vs := by
      have e1 := wipe_eq (σ := L2.wipe σ vs) (σ' := σ4) (vs := vs) w4.1 fun j hj => w4.2 j fun z => hj (sub j z)
      rw [e1]
      exact wipe_wipe fun _ h => h
    refine ⟨ew, g.also L (.lst ws'), F3, ρ4, b5, ρ5, G4, e5, fun F5 H5 G5 s5 => ?_⟩
    cases b5 with
    | true =>
      refine iteT ?_
      simp only [if_true] at hl
      obtain ⟨p6, e6, hl⟩ := bnd hl
      obtain ⟨ds1, ρ6⟩ := p6
      obtain ⟨p7, e7, hl⟩ := bnd hl
      obtain ⟨xs7, ρ7⟩ := p7
      refine ⟨g.also L (.lst ws'), F5, ρ5, ds1, ρ6, G5, e6, fun J1 F6 H6 G6 s6 w1 => ?_⟩
      have z1 := (G6.wipe vs1).unpin pL
      obtain ⟨G7, l7, f7, n7⟩ := z1
      refine lc_turns sub1 w1.toG nL pL (Same.refl _) G7 l7 f7 n7 ((r3.mono s5).mono s6) hlen e7 fun F8 H8 ws2 G8 s8 l8 f8 n8 r8 h8 => ?_
      have G9 := G8.wipe vs
      rw [wipe_wipe hv, wipeE_wipe hv, ew] at G9
      refine ⟨hlt, F8, ρ7, xs7, ws2, G9, (((s2.trans xt.ff).trans s5).trans s6).trans s8, l8, f8, fun j hj => ?_, r8, h8, hl⟩
      by_cases hjv : j ∈ vs
      · obtain ⟨s, a2⟩ := hj.slot
        rw [wipeE_get, if_pos hjv] at a2
        split at a2 <;> cases a2
      · exact n8 j (hj.to (by rw [wipe_get, if_neg fun z => hjv (hv j z), ← ew, wipe_get, if_neg hjv]) (by rw [wipeE_get, if_neg fun z => hjv (hv j z), wipeE_get, if_neg hjv]) fun _ _ _ _ _ => rfl)
    | false =>
      refine iteF ?_
      obtain ⟨G7, l7, f7, n7⟩ := fold ew G5
      exact ⟨hlt, F5, ρ5, acc, ws', G7, (s2.trans xt.ff).trans s5, l7, f7, n7, r3.mono s5, hlen, hl⟩
  · have e : i = ds.length := by omega
    subst e
    rw [List.drop_length] at hl
    cases hl
    refine .inl ⟨w.stop _ F2 H _ _ G2 s2 (Nat.le_refl _), q L _ F2 H (G1.unwipe s2 G2) (s1.trans s2) hL2 fL2 nL pL (fun i hi => ?_) (.lst racc)⟩
    by_cases hj : i ∈ vs
    · obtain ⟨l, e1, ⟨⟨t', zs, r1⟩, _⟩ | ⟨t', zs, o, r1, _, _⟩⟩ := hi <;>
      · rw [putBack_get, if_pos hj] at r1
        split at r1
        · obtain ⟨x, ex, _⟩ := keepD_some (Option.some.inj r1)
          cases ex
        · cases r1
    · exact no2 i (hi.to (by rw [wipe_get, if_neg hj]) (by rw [wipeE_get, if_neg hj, putBack_get, if_neg hj]) fun _ _ _ _ _ => rfl)
section
variable {X : Cx} {g : Gx} {elt tg iter tg1 iter1 : Expr} {ifs ifs1 : List Expr} {scope : Scope} {own : List (Str × Nat)} {pos : Pos} {it it1 : LM} {h h1 : GM} {t t1 : TM} {e : EM} {ws ws1 vs1 : List Nat}
theorem dn_lc2 (hc : X.calm = true) (hN : X.N.Nodup) (hi : DI X g tg iter it) (ok : BlkOk X.N X.env.scope scope own) (hv : ∀ i ∈ vs1, i ∈ own.map (·.2))
    (hg : ∀ (s : Shared) (H : Hp) (C : Addr) (cl : List (Str × Addr)) (fp : List Addr) (g : Gx), DG (X.blk s H scope (compEnvC scope cl C X.env) fp) g tg ws h)
    (ht : ∀ (s : Shared) (H : Hp) (C : Addr) (cl : List (Str × Addr)) (fp : List Addr) (g : Gx), DTs (X.blk s H scope (compEnvC scope cl C X.env) fp) g ifs t)
    (hi1 : ∀ (s : Shared) (H : Hp) (C : Addr) (cl : List (Str × Addr)) (fp : List Addr) (g : Gx), DI (X.blk s H scope (compEnvC scope cl C X.env) fp) g tg1 iter1 it1)
    (hg1 : ∀ (s : Shared) (H : Hp) (C : Addr) (cl : List (Str × Addr)) (fp : List Addr) (g : Gx), DG (X.blk s H scope (compEnvC scope cl C X.env) fp) g tg1 ws1 h1)
    (ht1 : ∀ (s : Shared) (H : Hp) (C : Addr) (cl : List (Str × Addr)) (fp : List Addr) (g : Gx), DTs (X.blk s H scope (compEnvC scope cl C X.env) fp) g ifs1 t1)
    (he : ∀ (s : Shared) (H : Hp) (C : Addr) (cl : List (Str × Addr)) (fp : List Addr) (g : Gx), DE (X.blk s H scope (compEnvC scope cl C X.env) fp) g elt e)
    (sub : ∀ j ∈ ws, j ∈ own.map (·.2)) (sub1 : ∀ j ∈ ws1, j ∈ vs1) (hs : ∀ x, foldedSetIterable iter X.env x = pure x := by intro _; rfl) (hs1 : ∀ env x, foldedSetIterable iter1 env x = pure x := by intro _ _; rfl) :
    DN X g (.ListComp elt [⟨tg, iter, ifs, 0⟩, ⟨tg1, iter1, ifs1, 0⟩] scope pos) (nLc2 it h t it1 h1 t1 e (own.map (·.2)) vs1) :=
  weakPE (pe_lc2 (g := tGx X.K ws h) (tt := tTx X.K t) (wi1 := tIx X.K it1) (g1 := tGx X.K ws1 h1) (tt1 := tTx X.K t1) (te := tEx X.K e) hc hN hi ok hv (fun s H C cl fp => pgx (hg s H C cl fp)) (fun s H C cl fp => ptsx (ht s H C cl fp)) (fun s H C cl fp => pix (hi1 s H C cl fp)) (fun s H C cl fp => pgx (hg1 s H C cl fp)) (fun s H C cl fp => ptsx (ht1 s H C cl fp)) (fun s H C cl fp => pex (he s H C cl fp)) hs hs1) fun σ H Q q => lc2_t sub sub1 hv q
end
theorem x_nLc2 {it it1 : LM} {h h1 : GM} {t t1 : TM} {e : EM} {vs vs1 : List Nat} {ρ : Env} {Q : D × Env → Prop} : Ex (nLc2 it h t it1 h1 t1 e vs vs1 ρ) Q = Ex (it ρ) fun p => Ex (lcLoop2 h t it1 h1 t1 e vs vs1 p.1 [] p.2) fun q => Q (.lst q.1, putBack p.2 q.2 vs) := by
  simp only [ex_eq]
  unfold nLc2; simp only [ex0_bind, ex0_some]
end L3

namespace L3
open PySem PySem.Spec PyProof.Rows L2

/-! ### own defs behind built-in words and signs -/
section
variable {prog : Program} {w : World} {A : Around} {E : Value → Shared → Prop} {s : Shared} {K : PySem.W.Frag} {x C f : Addr} {ox : Obj} {od : Option Obj}
/-- bool(o) -/
theorem bool_own {Q : Value → Shared → Prop} (h : wpAny (model prog w) A.in1.in1 (truthy (.ref x)) (fun b s' => Q (.bool b) s') E s) : wpAny (model prog w) A (call (.type "bool") [.ref x]) Q E s := by
  refine callType_codes (T := "bool") (Bi := Builtin.«object.__init__») (Q₁ := fun r s₁ => ∃ b, r = Value.bool b ∧ Q r s₁) PySem.F.called_bool (PySem.F.typeCall_bool_1 _) PySem.F.entry_object_init ?_ ?_
  · refine codeAny_of_tree ?_
    show wpAny _ A.in1.in1 (do checkBuiltinCall "bool.__new__" ⟨[.type "bool", .ref x], []⟩; again (.builtin "bool.__new__" ⟨[.type "bool", .ref x], []⟩)) _ _ s
    refine wpAny_bind (wpAny_of_eq (PySem.F.newCall_bool_1 _) (wpAny_pure ⟨plainId_quiet (by decide +kernel) _, codeAny_builtin PySem.F.entry_bool_new ?_⟩))
    rw [Around.under_plainId (by decide +kernel) _]
    obtain ⟨hp, g, d, tk, os⟩ := s
    have f1 := PySem.F.conv_sub_bool
    have key : wpAny (model prog w) A.in1.in1 (truthy (.ref x)) (fun b s' => Q (.bool b) s') E ⟨hp, g, d, tk, os⟩ := h
    repeat (any_goals (first | assumption | (refine wpAny_bind (m := truthy (.ref x)) (wpAny_mono key (fun b s' hq => ?_) fun _ _ e => e)) | wp_step))
    all_goals first | exact ⟨_, rfl, hq⟩ | exact ⟨_, _, rfl, hq⟩ | skip
  · rintro obj s₁ ⟨b, rfl, hq⟩
    exact ⟨PySem.typeIs_bool _ _, PySem.F.args_object_init_2 _ _, object_init_meets PySem.F.called_bool.init.lookup PySem.F.called_bool.made (by decide) prog w A.in1 _ s₁ ⟨PySem.typeIs_bool _ _, rfl, hq⟩⟩
open Builtin Builtin.Str in
/-- str(o), the class with its own __str__ -/
theorem str_own {Q : Value → Shared → Prop} (hu : A.in1.in1.units < cLine) (X : K.In s.heap) (I : PySem.W.InstAt s.heap x ox C od) (hs : PySem.W.findIn K (.ref C) "__str__" = some (some (.ref f))) (hf : PySem.W.isFn K (.ref f) = true)
    (h : wpAny (model prog w) A.in1.in1 (call (.ref f) [.ref x]) (PySem.W.StrBack Q) E s) : wpAny (model prog w) A (call (.type "str") [.ref x]) Q E s := by
  refine callType_codes (T := "str") (Bi := Builtin.«object.__init__») (Q₁ := fun r s₁ => ∃ y u, r = .str y u ∧ Q r s₁) PySem.F.called_str (PySem.F.typeCall_str_1 _) PySem.F.entry_object_init ?_ ?_
  · refine codeAny_of_tree ?_
    show wpAny _ A.in1.in1 (do checkBuiltinCall "str.__new__" ⟨[.type "str", .ref x], []⟩; again (.builtin "str.__new__" ⟨[.type "str", .ref x], []⟩)) _ _ s
    refine wpAny_bind (wpAny_of_eq (PySem.F.newCall_str_1 _) (wpAny_pure ⟨plainId_quiet (by decide +kernel) _, codeAny_builtin PySem.F.entry_str_new ?_⟩))
    rw [Around.under_plainId (by decide +kernel) _]
    rw [PySem.str_new_tree]
    refine wpAny_bind (wpAny_pure ?_)
    refine wpAny_bind (wpAny_of_eq isSubtype_str_str ?_)
    have key : wpAny (model prog w) A.in1.in1 (PySem.Builtin.Str.strOf (.ref x)) (fun r s₁ => ∃ y u, r = .str y u ∧ Q r s₁) E s := by
      unfold PySem.Builtin.Str.strOf
      rw [show isExactStr (.ref x) = false from rfl]
      refine wpAny_bind (m := cRoomFor _ _) (wpAny_cRoomFor hu ?_)
      refine wpAny_bind (m := callSpecial? (.ref x) (Str.ofString "__str__")) (PySem.W.special_fn X I hs (beq_iff_eq.mp hf) (wpAny_mono h (fun r s' z => ?_) fun _ _ y => y))
      cases r <;> first | exact z.elim | exact wpAny_pure ⟨_, _, rfl, z⟩
    exact wpAny_bind (wpAny_mono key (fun r s₁ hr => wpAny_pure hr) fun _ _ y => y)
  · rintro obj s₁ ⟨y, u, rfl, hq⟩
    exact ⟨typeIs_str _ _ _, PySem.F.args_object_init_2 _ _, object_init_meets PySem.F.called_str.init.lookup PySem.F.called_str.made (by decide) prog w A.in1 _ s₁ ⟨typeIs_str _ _ _, rfl, hq⟩⟩
open Builtin in
/-- o != p, the class with its own __eq__ and no __ne__ -/
theorem ne_own {b : Value} {Q : Value → Shared → Prop} {tb : Value} (hu : A.units + 1 < cLine) (X : K.In s.heap) (I : PySem.W.InstAt s.heap x ox C od) (hb : PySem.W.Looks (model prog w) s.heap (typeOf b) tb) (hn : PySem.W.notFirst K C tb = true)
    (hne : PySem.W.findIn K (.ref C) "__ne__" = some (some (.builtin "object.__ne__"))) (hob : PySem.W.mroIn K C (.type "object") = some true)
    (hs : PySem.W.findIn K (.ref C) "__eq__" = some (some (.ref f))) (hf : PySem.W.isFn K (.ref f) = true)
    (h : wpAny (model prog w) A.in1 (call (.ref f) [.ref x, b]) (fun v s' => ∃ c, v = .bool c ∧ Q (.bool (!c)) s') E s) : wpAny (model prog w) A (compareOp .NotEq (.ref x) b) Q E s := by
  have inner : wpAny (model prog w) A (call (.builtin "object.__ne__") [.ref x, b]) (fun v s' => ∃ c, v = .bool c ∧ Q v s') E s := by
    refine wpAny_call (codeAny_call_builtin PySem.F.slot_object_ne.plain PySem.F.cmpEntry_ne (PySem.W.check_slot (i := "object.__ne__") (owner := "object") (n := "__ne__") (by decide +kernel) (by decide +kernel) (I.type.andThen (PySem.W.looks_mroIn X hob)) (PySem.F.cmpArgs_ne _ _) ?_))
    unfold Builtin.«object.__ne__»
    have k2 : wpAny (model prog w) A.in1 (callSpecialIfBound? (.ref x) (Str.ofString "__eq__") [b]) (fun r s' => ∃ c, r = some (.bool c) ∧ Q (.bool (!c)) s') E s :=
      PySem.W.ifBound_K X I hs hf (wpAny_mono h (fun v s' hv => by obtain ⟨c, rfl, q⟩ := hv; exact ⟨c, rfl, q⟩) fun _ _ e => e)
    repeat (first
      | with_reducible refine wpAny_cRoomFor hu ?_
      | (refine wpAny_bind (m := callSpecialIfBound? (.ref x) (Str.ofString "__eq__") [b]) (wpAny_mono k2 (fun r s' hr => by
            obtain ⟨c, rfl, hq⟩ := hr
            repeat (first | exact ⟨_, rfl, hq⟩ | exact ⟨_, rfl, _, rfl, hq⟩ | exact wpAny_pure ⟨_, rfl, hq⟩ | exact wpAny_pure ⟨_, rfl, _, rfl, hq⟩ | exact wpAny_truthy_bool ⟨_, rfl, hq⟩ | (refine wpAny_bind (m := truthy (.bool _)) (wpAny_truthy_bool ?_)) | wp_step)) fun _ _ e => e))
      | wp_step)
  have one : wpAny (model prog w) A (tryCompare (.ref x) "__ne__" b) (fun r s' => ∃ v, r = some v ∧ Q v s') E s := by
    unfold tryCompare
    simp only [callSpecialIfBound?, bindSpecialIfBound?]
    have fin : wpAny (model prog w) A (call (.builtin "object.__ne__") ([.ref x] ++ [b]) >>= fun v => pure (some v)) (fun r s' => ∃ c, r = some (.bool c) ∧ Q (.bool c) s') E s := wpAny_bind (wpAny_mono inner (fun v s' hv => by obtain ⟨c, rfl, q⟩ := hv; exact wpAny_pure ⟨c, rfl, q⟩) fun _ _ h' => h')
    refine wpAny_bind (wpAny_holding (wpAny_bind (wpAny_bind (wpAny_bind (I.type.here ((PySem.W.looks_findIn X hne).here ?_))))))
    refine wpAny_bind (wpAny_askSetting (wpAny_ite ?_))
    have fin2 : wpAny (model prog w) A (call (.builtin "object.__ne__") ([.ref x] ++ [b]) >>= fun v => pure (some v)) (fun r s' => wpAny (model prog w) A (match r with | some .notImplemented => pure none | none => pure none | some r => pure (some r)) (fun r s' => ∃ v, r = some v ∧ Q v s') E s') E s := wpAny_mono fin (fun r s' hr => by
      obtain ⟨c, rfl, q⟩ := hr
      exact wpAny_pure ⟨_, rfl, q⟩) fun _ _ e => e
    split
    · exact wpAny_bind ((PySem.W.Looks.of_pure (PySem.F.slot_object_ne.bind _)).here (wpAny_pure (by exact fin2)))
    · exact wpAny_tryCatch (wpAny_bind ((PySem.W.Looks.of_pure (PySem.F.slot_object_ne.bind _)).here (wpAny_pure (by exact fin2))))
  unfold compareOp richCompare
  simp only [oneThing_ref]
  refine wpAny_holding (wpAny_bind (wpAny_cRoomFor (Nat.lt_of_succ_lt hu) ?_))
  refine wpAny_bind (I.type.here (wpAny_bind (hb.here ?_)))
  rw [cmpInfo_NotEq]
  dsimp only
  split
  · rename_i q
    have e : PySem.W.subIn K tb (.ref C) = some false := by
      rcases Bool.or_eq_true_iff.mp hn with e | e
      · rw [beq_iff_eq.mp e] at q; simp at q
      · exact beq_iff_eq.mp e
    refine wpAny_bind ((PySem.W.looks_subIn X e).here ?_)
    simp only [Bool.false_eq_true, if_false]
    refine wpAny_bind (wpAny_mono one (fun r s' z => ?_) fun _ _ e => e)
    obtain ⟨v, rfl, hq⟩ := z
    exact wpAny_pure hq
  · refine wpAny_bind (wpAny_pure ?_)
    simp only [Bool.false_eq_true, if_false]
    refine wpAny_bind (wpAny_mono one (fun r s' z => ?_) fun _ _ e => e)
    obtain ⟨v, rfl, hq⟩ := z
    exact wpAny_pure hq
end

/-! ### the rules -/
/-- a def of the class, called with the object alone: len, repr, str, bool -/
def rUnO (C : Addr) (sp : Sp) (E : XK) (pv : V → Prop) : List V → Hp → VK → Prop := fun xs H Q => ∃ a dx fs, xs = [.ref a] ∧ H a = some (.ins C dx fs) ∧ sp xs H (fun v H1 => pv v ∧ Q v H1) E
section
variable {X : Cx} {CX : CXT} {k : Nat} {f C : Addr} {sp : Sp} {E : XK}
theorem call_lenO (hs : PySem.W.findIn X.K (.ref C) "__len__" = some (some (.ref f))) (hf : PySem.W.isFn X.K (.ref f) = true) (F : FnR X.prog X.w X.K X.mg X.base CX k f sp) (hr : Room (k + 1) X.A) (hx : Passes CX X E) :
    CallR X (.builtin "len") (rUnO C sp E fun v => ∃ n : Int, v = .int n ∧ 0 ≤ n ∧ n < 2 ^ 63) := by
  intro pins s σ H xs us Q I r ⟨a, dx, fs, ex, ha, q⟩
  subst ex
  obtain ⟨u, rfl, ru⟩ := r.one
  cases (show u = Value.ref a from ru)
  obtain ⟨m, Fm⟩ := I.fr
  obtain ⟨mA, O, _⟩ := ins_get I.hok ha
  obtain ⟨od, J, _⟩ := O.look
  refine PySem.W.len_K Fm I.ok.mod.kin J hs hf (wpAny_mono (wpAny_call (SlX.run_at (us := [.ref a]) (ws := [.ref a]) F (Room.in1 hr) I.env0.in1 hx I (.cons rfl .nil) q)) (fun w s' z => ?_) fun _ _ e => e)
  obtain ⟨v, H1, I1, r1, ⟨n, ev, h0, h1⟩, q1⟩ := z
  subst ev
  obtain ⟨t, e⟩ := (show ∃ t, w = Value.int n t from r1)
  subst e
  exact ⟨⟨h0, h1⟩, .int n, H1, I1.tok _, ⟨_, rfl⟩, q1⟩
theorem call_reprO (hs : PySem.W.findIn X.K (.ref C) "__repr__" = some (some (.ref f))) (hf : PySem.W.isFn X.K (.ref f) = true) (F : FnR X.prog X.w X.K X.mg X.base CX k f sp) (hr : Room (k + 1) X.A) (hx : Passes CX X E) :
    CallR X (.builtin "repr") (rUnO C sp E fun v => ∃ n : Str, v = .str n) := by
  intro pins s σ H xs us Q I r ⟨a, dx, fs, ex, ha, q⟩
  subst ex
  obtain ⟨u, rfl, ru⟩ := r.one
  cases (show u = Value.ref a from ru)
  obtain ⟨m, Fm⟩ := I.fr
  obtain ⟨mA, O, _⟩ := ins_get I.hok ha
  obtain ⟨od, J, _⟩ := O.look
  refine PySem.W.repr_K (Room.in1 hr).units0 Fm I.ok.mod.kin J hs hf (wpAny_mono (wpAny_call (SlX.run_at (us := [.ref a]) (ws := [.ref a]) F (Room.in1 hr) I.env0.in1 hx I (.cons rfl .nil) q)) (fun w s' z => ?_) fun _ _ e => e)
  obtain ⟨v, H1, I1, r1, ⟨n, ev⟩, q1⟩ := z
  subst ev
  obtain ⟨t, e⟩ := (show ∃ t, w = Value.str n t from r1)
  subst e
  exact ⟨.str n, H1, I1, ⟨_, rfl⟩, q1⟩
theorem call_strO (hs : PySem.W.findIn X.K (.ref C) "__str__" = some (some (.ref f))) (hf : PySem.W.isFn X.K (.ref f) = true) (F : FnR X.prog X.w X.K X.mg X.base CX k f sp) (hr : Room (k + 2) X.A) (hx : Passes CX X E) :
    CallR X (.type "str") (rUnO C sp E fun v => ∃ n : Str, v = .str n) := by
  intro pins s σ H xs us Q I r ⟨a, dx, fs, ex, ha, q⟩
  subst ex
  obtain ⟨u, rfl, ru⟩ := r.one
  cases (show u = Value.ref a from ru)
  obtain ⟨mA, O, _⟩ := ins_get I.hok ha
  obtain ⟨od, J, _⟩ := O.look
  have hr2 : Room k X.A.in1.in1 := (show Room (k + 1) X.A.in1 from Room.in1 hr).in1
  refine str_own hr2.units0 I.kIn J hs hf (wpAny_mono (wpAny_call (SlX.run_at (us := [.ref a]) (ws := [.ref a]) F hr2 I.env0.in1.in1 hx I (.cons rfl .nil) q)) (fun w s' z => ?_) fun _ _ e => e)
  obtain ⟨v, H1, I1, r1, ⟨n, ev⟩, q1⟩ := z
  subst ev
  obtain ⟨t, e⟩ := (show ∃ t, w = Value.str n t from r1)
  subst e
  exact ⟨.str n, H1, I1, ⟨_, rfl⟩, q1⟩
theorem call_boolO (hs : PySem.W.findIn X.K (.ref C) "__bool__" = some (some (.ref f))) (hf : PySem.W.isFn X.K (.ref f) = true) (F : FnR X.prog X.w X.K X.mg X.base CX k f sp) (hr : Room (k + 2) X.A) (hx : Passes CX X E) :
    CallR X (.type "bool") (rUnO C sp E fun v => ∃ n : Bool, v = .bl n) := by
  intro pins s σ H xs us Q I r ⟨a, dx, fs, ex, ha, q⟩
  subst ex
  obtain ⟨u, rfl, ru⟩ := r.one
  cases (show u = Value.ref a from ru)
  obtain ⟨m, Fm⟩ := I.fr
  obtain ⟨mA, O, _⟩ := ins_get I.hok ha
  obtain ⟨od, J, _⟩ := O.look
  have hr2 : Room k X.A.in1.in1 := (show Room (k + 1) X.A.in1 from Room.in1 hr).in1
  refine bool_own (PySem.W.truthy_K Fm I.ok.mod.kin J hs hf (wpAny_mono (wpAny_call (SlX.run_at (us := [.ref a]) (ws := [.ref a]) F hr2 I.env0.in1.in1 hx I (.cons rfl .nil) q)) (fun w s' z => ?_) fun _ _ e => e))
  obtain ⟨v, H1, I1, r1, ⟨n, ev⟩, q1⟩ := z
  subst ev
  cases (show w = Value.bool n from r1)
  exact ⟨.bl n, H1, I1, rfl, q1⟩
end
/-- .. with two of the class -/
def rBinO (C : Addr) (sp : Sp) (E : XK) : R2 := fun x y H Q => ∃ a dx fs b dy gs, x = .ref a ∧ y = .ref b ∧ H a = some (.ins C dx fs) ∧ H b = some (.ins C dy gs) ∧ sp [x, y] H Q E
def rNeO (C : Addr) (sp : Sp) (E : XK) : R2 := fun x y H Q => ∃ a dx fs b dy gs, x = .ref a ∧ y = .ref b ∧ H a = some (.ins C dx fs) ∧ H b = some (.ins C dy gs) ∧ sp [x, y] H (fun v H1 => ∃ c, v = .bl c ∧ Q (.bl (!c)) H1) E
/-- what != asks of a class with __eq__ alone -/
structure NeC (K : PySem.W.Frag) (C : Addr) : Prop where
  ne : PySem.W.findIn K (.ref C) "__ne__" = some (some (.builtin "object.__ne__"))
  ob : PySem.W.mroIn K C (.type "object") = some true
theorem nf_self {K : PySem.W.Frag} {C : Addr} : PySem.W.notFirst K C (.ref C) = true := by
  unfold PySem.W.notFirst
  rw [beq_self_eq_true, Bool.true_or]
section
variable {X : Cx} {CX : CXT} {k : Nat} {f C : Addr} {sp : Sp} {E : XK}
theorem op_binO {op : Operator} (hc : PySem.W.selfFirst X.K C = true) (hs : PySem.W.findIn X.K (.ref C) (PySem.dunder op.info.2) = some (some (.ref f))) (hf : PySem.W.isFn X.K (.ref f) = true) (F : FnR X.prog X.w X.K X.mg X.base CX k f sp) (hr : Room k X.A) (hx : Passes CX X E) :
    OpR X (binaryOp op) (rBinO C sp E) := by
  intro pins s σ H x y v u Q I rx ry ⟨a, dx, fs, b, dy, gs, ex, ey, ha, hb, q⟩
  subst ex; subst ey
  cases (show v = Value.ref a from rx)
  cases (show u = Value.ref b from ry)
  obtain ⟨m, Fm⟩ := I.fr
  obtain ⟨mA, O, _⟩ := ins_get I.hok ha
  obtain ⟨od, J, _⟩ := O.look
  obtain ⟨mB, O', _⟩ := ins_get I.hok hb
  obtain ⟨od', J', _⟩ := O'.look
  refine PySem.W.binop_K Fm I.ok.mod.kin J J'.type hc hs hf (wpAny_mono (wpAny_call (run_fnR (us := [.ref a, .ref b]) (vs := [.ref a, .ref b]) F hr hx I (.cons rfl (.cons rfl .nil)) q)) (fun w s' z => ?_) fun _ _ e => e)
  obtain ⟨z', H', I', rz, qz⟩ := z
  exact SlX.cmpback rz ⟨z', H', I', rz, qz⟩
theorem op_eqO (hs : PySem.W.findIn X.K (.ref C) "__eq__" = some (some (.ref f))) (hf : PySem.W.isFn X.K (.ref f) = true) (F : FnR X.prog X.w X.K X.mg X.base CX k f sp) (hr : Room k X.A) (hx : Passes CX X E) : OpR X (compareOp .Eq) (rBinO C sp E) := by
  intro pins s σ H x y v u Q I rx ry ⟨a, dx, fs, b, dy, gs, ex, ey, ha, hb, q⟩
  subst ex; subst ey
  cases (show v = Value.ref a from rx)
  cases (show u = Value.ref b from ry)
  obtain ⟨m, Fm⟩ := I.fr
  obtain ⟨mA, O, _⟩ := ins_get I.hok ha
  obtain ⟨od, J, _⟩ := O.look
  obtain ⟨mB, O', _⟩ := ins_get I.hok hb
  obtain ⟨od', J', _⟩ := O'.look
  refine PySem.W.cmp_K (op := .Eq) (tb := .ref C) hr.units0 Fm I.ok.mod.kin J J'.type nf_self hs hf ?_
  refine wpAny_mono (wpAny_call (run_fnR (us := [.ref a, .ref b]) (vs := [.ref a, .ref b]) F hr hx I (.cons rfl (.cons rfl .nil)) q)) (fun w s' z => ?_) fun _ _ e => e
  obtain ⟨z', H', I', rz, qz⟩ := z
  exact SlX.cmpback rz ⟨z', H', I', rz, qz⟩
theorem op_neO (n : NeC X.K C) (hs : PySem.W.findIn X.K (.ref C) "__eq__" = some (some (.ref f))) (hf : PySem.W.isFn X.K (.ref f) = true) (F : FnR X.prog X.w X.K X.mg X.base CX k f sp) (hr : Room (k + 1) X.A) (hx : Passes CX X E) : OpR X (compareOp .NotEq) (rNeO C sp E) := by
  intro pins s σ H x y v u Q I rx ry ⟨a, dx, fs, b, dy, gs, ex, ey, ha, hb, q⟩
  subst ex; subst ey
  cases (show v = Value.ref a from rx)
  cases (show u = Value.ref b from ry)
  obtain ⟨mA, O, _⟩ := ins_get I.hok ha
  obtain ⟨od, J, _⟩ := O.look
  obtain ⟨mB, O', _⟩ := ins_get I.hok hb
  obtain ⟨od', J', _⟩ := O'.look
  refine ne_own (Room.in1 hr).units0 I.kIn J J'.type nf_self n.ne n.ob hs hf ?_
  refine wpAny_mono (wpAny_call (SlX.run_at (us := [.ref a, .ref b]) (ws := [.ref a, .ref b]) F (Room.in1 hr) I.env0.in1 hx I (.cons rfl (.cons rfl .nil)) q)) (fun w s' z => ?_) fun _ _ e => e
  obtain ⟨v1, H1, I1, r1, c, ev, q1⟩ := z
  subst ev
  cases (show w = Value.bool c from r1)
  exact ⟨c, rfl, .bl (!c), H1, I1, rfl, q1⟩
end
/-! mirrors -/
def lenOk : D → Bool
  | .int n => decide (0 ≤ n ∧ n < 2 ^ 63)
  | _ => false
def strOk : D → Bool
  | .str _ => true
  | _ => false
def blOk : D → Bool
  | .bl _ => true
  | _ => false
def eUnO (C : Addr) (fm : FM) (chk : D → Bool) (fa : AM) : EM := fun ρ => (fa ρ).bind fun p => match p.1 with
  | [o] => if insOf C (conts p.2 o) then (callO fm [] [o] p.2).bind fun r => (finR r).bind fun q => if chk q.1 then some q else none else none
  | _ => none
def eBinO (C : Addr) (fm : FM) (fx fy : OM) : EM := fun ρ => (fx ρ).bind fun p => (fy p.2).bind fun q => if insOf C (conts q.2 p.1) && insOf C (conts q.2 q.1) then (callO fm [] [p.1, q.1] q.2).bind fun r => finR r else none
def eNeO (C : Addr) (fm : FM) (fx fy : OM) : EM := fun ρ => (fx ρ).bind fun p => (fy p.2).bind fun q => if insOf C (conts q.2 p.1) && insOf C (conts q.2 q.1) then (callO fm [] [p.1, q.1] q.2).bind fun r => match r.1 with
  | .d (.bl b) => some (.bl (!b), r.2.2)
  | _ => none
  else none
theorem insOf_ins {K : PySem.W.Frag} {g : Gx} {F H : Hp} {σ : L2.St} {ρ : Env} (G : Gd K g F H σ ρ) {o : Opd} {v : V} (h : OpdOk K F σ v o) {C : Addr} (e : insOf C (conts ρ o) = true) : ∃ a dx fs, v = .ref a ∧ H a = some (.ins C dx fs) := by
  unfold insOf at e
  split at e
  · rename_i C' gs hc
    cases (of_decide_eq_true e)
    obtain ⟨a, dx, fs, h1, h2, _⟩ := conts_ins G h hc
    exact ⟨a, dx, fs, h1, h2⟩
  · cases e
section
variable {X : Cx} {g : Gx} {ex : Expr} {fx fy : OM} {fa : AM} {C : Addr} {fm : FM} {E : XK} {chk : D → Bool} {pv : V → Prop}
theorem unO_t (hc : ∀ F v d, Rep X.K F v d → chk d = true → pv v) {σ : L2.St} {H : Hp} {Q : VK} (q : tE X.K g (eUnO C fm chk fa) σ H Q) : tCB (rUnO C (spF X.K fm) E pv) (tA X.K g fa) σ H Q := by
  obtain ⟨F, ρ, d, ρ', G, hf, q⟩ := q
  obtain ⟨p, e1, hf⟩ := bnd hf
  obtain ⟨os, ρ1⟩ := p
  refine ⟨F, ρ, os, ρ1, G, e1, fun vs F1 H1 G1 s1 r1 => ?_⟩
  cases os with
  | nil => cases hf
  | cons o os =>
    cases os with
    | cons _ _ => cases hf
    | nil =>
      cases r1 with
      | cons ro rn =>
        cases rn
        dsimp only at hf
        split at hf
        · rename_i hi
          obtain ⟨a, dx, fs, rfl, ha⟩ := insOf_ins G1 ro hi
          refine ⟨a, dx, fs, rfl, ha, ?_⟩
          obtain ⟨r, e2, hf⟩ := bnd hf
          obtain ⟨z, e3, hf⟩ := bnd hf
          split at hf
          · rename_i hk
            cases hf
            have e4 : ((callO fm [] [o] ρ1).bind fun r => finR r) = some (d, ρ') := by rw [e2]; exact e3
            have w := callO_e (fm := fm) (dds := []) (dvs := []) (E := E) (fun _ => .nil) G1 (vs := [V.ref a]) (.cons ro .nil) (Q := fun v H1 => pv v ∧ Q v H1) e4 fun w F3 H3 G3 s3 r3 => ⟨hc _ _ _ r3 hk, q w F3 H3 G3 (s1.trans s3) r3⟩
            simpa using w
          · cases hf
        · cases hf
theorem lenOk_v {F : Hp} {v : V} {d : D} (r : Rep X.K F v d) (h : lenOk d = true) : ∃ n : Int, v = .int n ∧ 0 ≤ n ∧ n < 2 ^ 63 := by
  cases r with
  | int => exact ⟨_, rfl, of_decide_eq_true h⟩
  | _ => cases h
theorem strOk_v {F : Hp} {v : V} {d : D} (r : Rep X.K F v d) (h : strOk d = true) : ∃ n : Str, v = .str n := by
  cases r with
  | str => exact ⟨_, rfl⟩
  | _ => cases h
theorem blOk_v {F : Hp} {v : V} {d : D} (r : Rep X.K F v d) (h : blOk d = true) : ∃ n : Bool, v = .bl n := by
  cases r with
  | bl => exact ⟨_, rfl⟩
  | _ => cases h
theorem de_lenO (h : PE X ex (tCB (rUnO C (spF X.K fm) E fun v => ∃ n : Int, v = .int n ∧ 0 ≤ n ∧ n < 2 ^ 63) (tA X.K g fa))) : DE X g ex (eUnO C fm lenOk fa) := weakPE h fun σ H Q q => unO_t (fun _ _ _ => lenOk_v) q
theorem de_strO (h : PE X ex (tCB (rUnO C (spF X.K fm) E fun v => ∃ n : Str, v = .str n) (tA X.K g fa))) : DE X g ex (eUnO C fm strOk fa) := weakPE h fun σ H Q q => unO_t (fun _ _ _ => strOk_v) q
theorem de_boolO (h : PE X ex (tCB (rUnO C (spF X.K fm) E fun v => ∃ n : Bool, v = .bl n) (tA X.K g fa))) : DE X g ex (eUnO C fm blOk fa) := weakPE h fun σ H Q q => unO_t (fun _ _ _ => blOk_v) q
theorem binO_t {σ : L2.St} {H : Hp} {Q : VK} (q : tE X.K g (eBinO C fm fx fy) σ H Q) : tOp (rBinO C (spF X.K fm) E) (tO X.K g fx) (tO X.K g fy) σ H Q := by
  obtain ⟨F, ρ, d, ρ', G, hf, q⟩ := q
  obtain ⟨p1, e1, hf⟩ := bnd hf
  obtain ⟨p2, e2, hf⟩ := bnd hf
  split at hf
  · rename_i hi
    have hi := Bool.and_eq_true_iff.mp hi
    refine ⟨F, ρ, p1.1, p1.2, G, e1, fun v F1 H1 G1 s1 r1 => ⟨F1, p1.2, p2.1, p2.2, G1, e2, fun u F2 H2 G2 s2 r2 => ?_⟩⟩
    obtain ⟨a, dx, fs, rfl, ha⟩ := insOf_ins G2 (r1.mono s2) hi.1
    obtain ⟨b, dy, gs, rfl, hb⟩ := insOf_ins G2 r2 hi.2
    refine ⟨a, dx, fs, b, dy, gs, rfl, rfl, ha, hb, ?_⟩
    have w := callO_e (fm := fm) (dds := []) (dvs := []) (E := E) (fun _ => .nil) G2 (vs := [V.ref a, V.ref b]) (.cons (r1.mono s2) (.cons r2 .nil)) (Q := Q) hf fun w F3 H3 G3 s3 r3 => q w F3 H3 G3 ((s1.trans s2).trans s3) r3
    simpa using w
  · cases hf
theorem neO_t {σ : L2.St} {H : Hp} {Q : VK} (q : tE X.K g (eNeO C fm fx fy) σ H Q) : tOp (rNeO C (spF X.K fm) E) (tO X.K g fx) (tO X.K g fy) σ H Q := by
  obtain ⟨F, ρ, d, ρ', G, hf, q⟩ := q
  obtain ⟨p1, e1, hf⟩ := bnd hf
  obtain ⟨p2, e2, hf⟩ := bnd hf
  split at hf
  · rename_i hi
    have hi := Bool.and_eq_true_iff.mp hi
    obtain ⟨⟨rr, nr, ρ2⟩, e3, hf⟩ := bnd hf
    refine ⟨F, ρ, p1.1, p1.2, G, e1, fun v F1 H1 G1 s1 r1 => ⟨F1, p1.2, p2.1, p2.2, G1, e2, fun u F2 H2 G2 s2 r2 => ?_⟩⟩
    obtain ⟨a, dx, fs, rfl, ha⟩ := insOf_ins G2 (r1.mono s2) hi.1
    obtain ⟨b, dy, gs, rfl, hb⟩ := insOf_ins G2 r2 hi.2
    refine ⟨a, dx, fs, b, dy, gs, rfl, rfl, ha, hb, ?_⟩
    have z := callO_t (fm := fm) (dds := []) (dvs := []) (E := E) (fun _ => .nil) G2 (vs := [V.ref a, V.ref b]) (.cons (r1.mono s2) (.cons r2 .nil)) (R := fun v H1 => ∃ b, v = .bl b ∧ Q (.bl (!b)) H1) e3 fun w F3 F4 H4 ad rep reps trep none G4 sF rs => by
      dsimp only at hf
      cases rr with
      | n y => cases hf
      | r y => cases hf
      | d y =>
        cases y with
        | bl b =>
          cases hf
          have rs' : Rep X.K F3 w (.bl b) := rs
          cases rs'
          exact ⟨b, rfl, q _ F4 H4 G4 ((s1.trans s2).trans sF) .bl⟩
        | _ => cases hf
    simpa using z
  · cases hf
variable {a b : Expr} {pos : Pos}
theorem de_binO {op : Operator} (ho : OpR X (binaryOp op) (rBinO C (spF X.K fm) E)) (ha : DO X g a fx) (hb : DO X g b fy) : DE X g (.BinOp a op b pos) (eBinO C fm fx fy) := weakPE (pe_op ho ha hb) fun σ H Q q => binO_t q
theorem de_eqO (ho : OpR X (compareOp .Eq) (rBinO C (spF X.K fm) E)) (ha : DO X g a fx) (hb : DO X g b fy) : DE X g (.Compare a [.Eq] [b] pos) (eBinO C fm fx fy) := weakPE (pe_cmpR ho ha hb (nomark _)) fun σ H Q q => binO_t q
theorem dt_eqO (ho : OpR X (compareOp .Eq) (rBinO C (spF X.K fm) E)) (ha : DO X g a fx) (hb : DO X g b fy) : DT X g (.Compare a [.Eq] [b] pos) (tV (eBinO C fm fx fy)) :=
  weakPT (pt_cmpR ho ha hb (nomark _)) fun σ H Q q => tV_t (te := tOp (rBinO C (spF X.K fm) E) (tO X.K g fx) (tO X.K g fy)) (fun _ _ _ z => binO_t z) q
theorem de_neO (ho : OpR X (compareOp .NotEq) (rNeO C (spF X.K fm) E)) (ha : DO X g a fx) (hb : DO X g b fy) : DE X g (.Compare a [.NotEq] [b] pos) (eNeO C fm fx fy) := weakPE (pe_cmpR ho ha hb (nomark _)) fun σ H Q q => neO_t q
theorem dt_neO (ho : OpR X (compareOp .NotEq) (rNeO C (spF X.K fm) E)) (ha : DO X g a fx) (hb : DO X g b fy) : DT X g (.Compare a [.NotEq] [b] pos) (tV (eNeO C fm fx fy)) :=
  weakPT (pt_cmpR ho ha hb (nomark _)) fun σ H Q q => tV_t (te := tOp (rNeO C (spF X.K fm) E) (tO X.K g fx) (tO X.K g fy)) (fun _ _ _ z => neO_t z) q
end

theorem raw0 {P : Program} {w : World} {K : PySem.W.Frag} {mg : Str → Option Value} {base : Heap} {CX : CXT} {k : Nat} {f : Addr} {fd : FuncData} {ps : List Str} {sp : Sp} (F : FnOk P w K mg base CX k f fd ps sp) (hb : Binds K fd ps []) : FnR P w K mg base CX k f sp := by
  have h := FnOk.raw F hb .nil
  simpa only [List.append_nil] using h
/-! ### facts of the head -/
def sfB (C : Str) (K : PySem.W.Frag) : Bool := PySem.W.selfFirst K (He.ga K C)
def neB (C : Str) (K : PySem.W.Frag) : Bool := decide (PySem.W.findIn K (.ref (He.ga K C)) "__ne__" = some (some (.builtin "object.__ne__"))) && decide (PySem.W.mroIn K (He.ga K C) (.type "object") = some true)
theorem neB_ok {K : PySem.W.Frag} {C : Str} (h : neB C K = true) : NeC K (He.ga K C) := by
  obtain ⟨h1, h2⟩ := He.ba h
  exact ⟨of_decide_eq_true h1, of_decide_eq_true h2⟩
def isB (C : Str) (K : PySem.W.Frag) : Bool := decide (PySem.W.findIn K (.ref (He.ga K C)) "__class__" = some (some (.builtin "object.__class__"))) && (decide (PySem.W.specialIn K (.builtin "object.__class__") "__get__" = some (some (.builtin "getset_descriptor.__get__"))) &&
  (decide (PySem.W.takesIn K (.builtin "object.__class__") = some true) && (decide (PySem.W.mroIn K (He.ga K C) (.type "object") = some true) && ((PySem.W.clsIn K (He.ga K C)).isSome && decide (PySem.W.typeIn K (.ref (He.ga K C)) = some (.type "type"))))))
theorem isB_ok {K : PySem.W.Frag} {C : Str} (c : Cls K (He.ga K C)) (h : isB C K = true) : IsiC K (He.ga K C) := by
  obtain ⟨h1, h⟩ := He.ba h
  obtain ⟨h2, h⟩ := He.ba h
  obtain ⟨h3, h⟩ := He.ba h
  obtain ⟨h4, h⟩ := He.ba h
  obtain ⟨h5, h6⟩ := He.ba h
  exact ⟨c, of_decide_eq_true h1, of_decide_eq_true h2, of_decide_eq_true h3, of_decide_eq_true h4, h5, of_decide_eq_true h6⟩
/-! ### running the mirrors -/
def oneOpd : List Opd → Option Opd
  | [o] => some o
  | _ => none
section
variable {C : Addr} {fm : FM} {chk : D → Bool} {fa : AM} {fx fy : OM} {ρ : Env} {Q : D × Env → Prop}
theorem x_eUnO : Ex (eUnO C fm chk fa ρ) Q = Ex (fa ρ) fun p => Ex (oneOpd p.1) fun o => insOf C (conts p.2 o) = true ∧ Ex (callO fm [] [o] p.2) fun r => Ex (finR r) fun q => chk q.1 = true ∧ Q q := by
  simp only [ex_eq]
  unfold eUnO
  rw [ex0_bind]
  congr 1
  funext p
  obtain ⟨os, ρ1⟩ := p
  match os with
  | [] => simp only [oneOpd, ex0_none]
  | [o] => simp only [oneOpd, ex0_some, ex0_guard, ex0_bind]
  | _ :: _ :: _ => simp only [oneOpd, ex0_none]
theorem x_eBinO : Ex (eBinO C fm fx fy ρ) Q = Ex (fx ρ) fun p => Ex (fy p.2) fun q => (insOf C (conts q.2 p.1) = true ∧ insOf C (conts q.2 q.1) = true) ∧ Ex (callO fm [] [p.1, q.1] q.2) fun r => Ex (finR r) Q := by
  simp only [ex_eq]
  unfold eBinO
  simp only [ex0_bind, ex0_guard, Bool.and_eq_true]
theorem x_eNeO : Ex (eNeO C fm fx fy ρ) Q = Ex (fx ρ) fun p => Ex (fy p.2) fun q => (insOf C (conts q.2 p.1) = true ∧ insOf C (conts q.2 q.1) = true) ∧ Ex (callO fm [] [p.1, q.1] q.2) fun r => ∃ b, r.1 = .d (.bl b) ∧ Q (.bl (!b), r.2.2) := by
  simp only [ex_eq]
  unfold eNeO
  simp only [ex0_bind, ex0_guard, Bool.and_eq_true]
  congr 1
  funext p
  congr 1
  funext q
  congr 1
  congr 1
  funext r
  obtain ⟨r, r2⟩ := r
  apply propext
  constructor
  · rintro ⟨a, e, h⟩
    dsimp only at e
    split at e
    · cases e; exact ⟨_, rfl, h⟩
    · cases e
  · rintro ⟨b, e, h⟩
    dsimp only at e
    subst e
    exact ⟨_, rfl, h⟩
end
end L3

namespace L3
open PySem PySem.Spec PyProof.Rows L2

/-! ### a, b, .. = a list -/
def gTupL (K : PySem.W.Frag) (n : Nat) (t : TGs) : TG := fun v σ H Q => ∃ a xs, v = .ref a ∧ SqL K H a xs ∧ xs.length = n ∧ t xs σ H Q
section
variable {X : Cx} {g : Gx} {es : List Expr} {ws : List Nat} {fs : List D → Env → Option Env} {pos : Pos}
theorem pg_tupL {k : Nat} {t : TGs} {n : Nat} (hc : X.calm = true) (h : PGs X es t)
    (hn : (assignEach es X.env).length = n := by rfl) (hst : (assignEach es X.env).findIdx? (·.1) = none := by rfl) : PG X (.Tuple es k pos) (gTupL X.K n t) := by
  refine ⟨fun pins s σ H v u Q I r hw => ?_⟩
  obtain ⟨a, xs, e1, hq, hl, hw⟩ := hw
  subst e1
  cases r
  obtain ⟨its, rv, pl, hz⟩ := I.list hq
  rw [arm_assign_Tuple]
  refine wpAny_bind (wpAny_standAt ?_)
  unfold unpack
  rw [show (assignEach es X.env).length = its.toArray.size by simp [hn, ← hl, rv.length], hst]
  refine wpAny_bind (wpAny_holding (PySem.W.kun_itemsOf (I.ok.hd hc) pl.isList fun h' hx => ?_))
  have I1 : Inv X pins σ H { s with heap := h' } := I.kept (t' := s.toks) fun b o e => hx b o (Nat.ne_of_lt (Heap.lt_size e)) e
  exact h.run pins _ σ H xs _ Q I1 (by simpa using rv) hw
def gTl (n : Nat) (h : List D → Env → Option Env) : GM := fun d ρ => match d with
  | .lst l => if l.length = n then h l ρ else none
  | _ => none
theorem dg_tupL {k n : Nat} (hc : X.calm = true) (h : DGs X g es ws fs) (hn : (assignEach es X.env).length = n := by rfl) (hst : (assignEach es X.env).findIdx? (·.1) = none := by rfl) : DG X g (.Tuple es k pos) ws (gTl n fs) :=
  weakPG (pg_tupL hc h hn hst) fun v σ H Q ⟨F, ρ, d, ρ', G, r, hf, q⟩ => by
  cases r with
  | lst h1 h2 =>
    unfold gTl at hf
    dsimp only at hf
    split at hf
    · rename_i hl
      exact ⟨_, _, rfl, SqL.of (G.sub _ _ h1), by rw [h2.length, hl], F, ρ, _, ρ', G, h2, hf, q⟩
    · cases hf
  | _ => cases hf
end
def lstOnly : D → Option (List D)
  | .lst l => some l
  | _ => none
theorem x_gTl {n : Nat} {h : List D → Env → Option Env} {d : D} {ρ : Env} {QR : Env → Prop} : Ex (gTl n h d ρ) QR = Ex (lstOnly d) fun l => l.length = n ∧ Ex (h l ρ) QR := by
  simp only [ex_eq]
  unfold gTl
  cases d <;> simp only [lstOnly, ex0_none, ex0_some, ex0_guard]

theorem ex_lcIn {β γ : Type} (u1 : β → D) (f : β → γ) (w : γ → D) {h1 : GM} {e : EM} {vs1 : List Nat} {q : Env} : ∀ (zs : List β) (acc : List γ) (ρ' : Env), wipeE ρ' vs1 = wipeE q vs1 → acc.length + zs.length ≤ 16777216 →
    (∀ z ∈ zs, Ex (h1 (u1 z) (wipeE q vs1)) fun ρ4 => Ex (e ρ4) fun r => r.1 = w (f z) ∧ wipeE r.2 vs1 = wipeE q vs1) →
    Ex (lcLoop h1 tYs e vs1 (zs.map u1) (acc.map w) ρ') fun r => r.1 = (acc ++ zs.map f).map w ∧ wipeE r.2 vs1 = wipeE q vs1
  | [], acc, ρ', e1, _, _ => ⟨_, rfl, by simp, e1⟩
  | z :: zs, acc, ρ', e1, hl, hz => by
    obtain ⟨ρ4, a1, r, a2, a3, a4⟩ := hz z List.mem_cons_self
    rw [List.length_cons] at hl
    have ih := ex_lcIn u1 f w zs (acc ++ [f z]) r.2 a4 (by rw [List.length_append, List.length_singleton]; omega) fun z hz' => hz z (List.mem_cons_of_mem _ hz')
    show Ex ((h1 (u1 z) (wipeE ρ' vs1)).bind _) _
    rw [e1, a1, Option.bind_some]
    show Ex ((e ρ4).bind _) _
    rw [a2, Option.bind_some]
    show Ex (if (acc.map w).length < 16777216 then _ else none) _
    rw [if_pos (by rw [List.length_map]; omega), a3]
    rw [List.map_append, List.append_assoc] at ih
    exact ih
theorem ex_lc2P {α β γ : Type} (ys : List α) (u : α → D) (zs : α → List β) (u1 : β → D) (f : α → β → γ) (w : γ → D) {h h1 : GM} {it1 : LM} {e : EM} {vs vs1 : List Nat} {Q : List D × Env → Prop} {xs : List D} {ρ : Env} (ex : xs = ys.map u) (sub : ∀ j ∈ vs1, j ∈ vs)
    (hl : (ys.flatMap fun y => (zs y).map (f y)).length ≤ 16777216)
    (hz : ∀ y ∈ ys, Ex (h (u y) (wipeE ρ vs)) fun ρ1 => Ex (it1 ρ1) fun q => (q.1 = (zs y).map u1 ∧ wipeE q.2 vs = wipeE ρ vs) ∧ ∀ z ∈ zs y, Ex (h1 (u1 z) (wipeE q.2 vs1)) fun ρ4 => Ex (e ρ4) fun r => r.1 = w (f y z) ∧ wipeE r.2 vs1 = wipeE q.2 vs1)
    (fi : ∀ ρ', wipeE ρ' vs = wipeE ρ vs → Q ((ys.flatMap fun y => (zs y).map (f y)).map w, ρ')) : Ex (lcLoop2 h tYs it1 h1 tYs e vs vs1 xs [] ρ) Q := by
  subst ex
  suffices H : ∀ (ys : List α) (acc : List γ) (ρ' : Env), wipeE ρ' vs = wipeE ρ vs → acc.length + (ys.flatMap fun y => (zs y).map (f y)).length ≤ 16777216 →
      (∀ y ∈ ys, Ex (h (u y) (wipeE ρ vs)) fun ρ1 => Ex (it1 ρ1) fun q => (q.1 = (zs y).map u1 ∧ wipeE q.2 vs = wipeE ρ vs) ∧ ∀ z ∈ zs y, Ex (h1 (u1 z) (wipeE q.2 vs1)) fun ρ4 => Ex (e ρ4) fun r => r.1 = w (f y z) ∧ wipeE r.2 vs1 = wipeE q.2 vs1) →
      Ex (lcLoop2 h tYs it1 h1 tYs e vs vs1 (ys.map u) (acc.map w) ρ') fun r => r.1 = (acc ++ ys.flatMap fun y => (zs y).map (f y)).map w ∧ wipeE r.2 vs = wipeE ρ vs by
    refine (H ys [] ρ rfl (by simpa using hl) hz).mono fun r ⟨h1, h2⟩ => ?_
    obtain ⟨r1, r2⟩ := r
    dsimp only at h1 h2
    subst h1
    exact fi r2 h2
  intro ys
  induction ys with
  | nil => intro acc ρ' e1 _ _; exact ⟨_, rfl, by simp, e1⟩
  | cons y ys ih =>
    intro acc ρ' e1 hl hz
    obtain ⟨ρ1, a1, q, a2, ⟨a3, a4⟩, a5⟩ := hz y List.mem_cons_self
    rw [List.flatMap_cons, List.length_append, List.length_map] at hl
    obtain ⟨r, b1, b2, b3⟩ := ex_lcIn u1 (f y) w (zs y) acc q.2 rfl (by omega) a5
    have b4 : wipeE r.2 vs = wipeE ρ vs := by rw [← a4, ← wipeE_wipe (ρ := r.2) sub, b3, wipeE_wipe sub]
    have z := ih (acc ++ (zs y).map (f y)) r.2 b4 (by rw [List.length_append, List.length_map]; omega) fun y hy => hz y (List.mem_cons_of_mem _ hy)
    show Ex ((h (u y) (wipeE ρ' vs)).bind _) _
    rw [e1, a1, Option.bind_some]
    show Ex ((it1 ρ1).bind _) _
    rw [a2, Option.bind_some, a3, b1, Option.bind_some, b2]
    rw [List.append_assoc] at z
    rw [List.flatMap_cons]
    exact z

/-! ### small readings, by their cases -/
theorem tupItems_t {l : List D} : tupItems (.tup l) = some l := rfl
theorem tupItems_kt {l : List D} : tupItems (.ktp l) = some l := rfl
theorem lstItems_l {l : List D} : lstItems (.lst l) = some l := rfl
theorem lstItems_sc {l : List Int} : lstItems (.scr l) = some (l.map D.int) := rfl
theorem lstOnly_l {l : List D} : lstOnly (.lst l) = some l := rfl
theorem oneOpd_1 {o : Opd} : oneOpd [o] = some o := rfl
theorem resOf_rt {d : D} : resOf (.rt d) = some (.d d) := rfl
theorem resOf_rn {d : D} : resOf (.rn d) = some (.n d) := rfl
theorem resOf_nx : resOf .nx = some (.d .non) := rfl
theorem resL_n {d : D} : resL (.n d) = some d := rfl
theorem resL_d {d : D} : resL (.d d) = none := rfl
theorem isNon_d : L3.isNon (.d .non) = true := rfl
theorem isCls_c {C : Addr} : isCls C (.cls C) = true := by simp [isCls]
theorem insOf_i {C : Addr} {fs : List (Str × D)} : insOf C (some (.ins C fs)) = true := by simp [insOf]
theorem insOk_i {C : Addr} {m : Str} {fs : List (Str × D)} : insOk C m (some (.ins C fs)) = (fs.lookup m).isNone := by simp [insOk]
theorem conts_v {ρ : Env} {d : D} : conts ρ (.val d) = some d := rfl
theorem conts_r {ρ : Env} {i : Nat} : conts ρ (.ref i) = ownAny ρ i := rfl
theorem conts_i {ρ : Env} {i : Nat} : conts ρ (.io i) = ownAny ρ i := rfl
theorem lenOk_i {n : Int} (h0 : 0 ≤ n) (h1 : n < 2 ^ 63) : lenOk (.int n) = true := decide_eq_true ⟨h0, h1⟩
theorem strOk_s {s : Str} : strOk (.str s) = true := rfl
theorem blOk_b {b : Bool} : blOk (.bl b) = true := rfl
theorem lfo_l {l : List D} : lfo (.lst l) = lfs l := rfl
theorem lfo_k {l : List (Key × D)} : lfo (.dk l) = lfk l := rfl
theorem lfo_i {C : Addr} {l : List (Str × D)} : lfo (.ins C l) = lff l := rfl

def two : List D → Option (D × D)
  | [x, y] => some (x, y)
  | _ => none
theorem two_2 {x y : D} : two [x, y] = some (x, y) := rfl
theorem x_sPar2 {i j : Nat} {a : AM} {ρ : Env} {QS : Out × Env → Prop} : Ex (sPar i j a ρ) QS = Ex (a ρ) fun p => Ex (valsOf p.1) fun ds => Ex (two ds) fun z => QS (.nx, (p.2.set i (some (.d z.1))).set j (some (.d z.2))) := by
  rw [x_sPar]; simp only [ex_eq]
  congr 1; funext p
  congr 1; funext ds
  apply propext
  constructor
  · rintro ⟨x, y, rfl, h⟩
    exact ⟨_, rfl, h⟩
  · rintro ⟨z, e, h⟩
    unfold two at e
    split at e
    · cases e; exact ⟨_, _, rfl, h⟩
    · cases e

theorem x_lcLoop_n {h : GM} {t : TM} {e : EM} {vs : List Nat} {acc : List D} {ρ : Env} {Q : List D × Env → Prop} : Ex (lcLoop h t e vs [] acc ρ) Q = Q (acc, ρ) := ex_some
theorem x_lcLoop_c {h : GM} {t : TM} {e : EM} {vs : List Nat} {d : D} {r acc : List D} {ρ : Env} {Q : List D × Env → Prop} : Ex (lcLoop h t e vs (d :: r) acc ρ) Q = Ex (h d (wipeE ρ vs)) fun ρ1 => Ex (t ρ1) fun p =>
    (p.1 = true → Ex (e p.2) fun q => acc.length < 16777216 ∧ Ex (lcLoop h t e vs r (acc ++ [q.1]) q.2) Q) ∧ (p.1 = false → Ex (lcLoop h t e vs r acc p.2) Q) := by
  simp only [ex_eq]
  rw [show lcLoop h t e vs (d :: r) acc ρ = ((h d (wipeE ρ vs)).bind fun ρ1 => (t ρ1).bind fun p => if p.1 then (e p.2).bind fun q => if acc.length < 16777216 then lcLoop h t e vs r (acc ++ [q.1]) q.2 else none else lcLoop h t e vs r acc p.2) from rfl]
  simp only [ex0_bind, bt0, ex0_guard]

/-! ### a, b = .., one of them kept as an own thing -/
def sParN (i j : Nat) (fn : NM) (fe : EM) : SM := fun ρ => (fn ρ).bind fun p => (fe p.2).bind fun q => some (.nx, (q.2.set i (some (.own none p.1))).set j (some (.d q.1)))
def sParE (i j : Nat) (fe : EM) (fn : NM) : SM := fun ρ => (fe ρ).bind fun p => (fn p.2).bind fun q => some (.nx, (q.2.set i (some (.d p.1))).set j (some (.own none q.1)))
def sParB (i j : Nat) (fn fm : NM) : SM := fun ρ => (fn ρ).bind fun p => (fm p.2).bind fun q => some (.nx, (q.2.set i (some (.own none p.1))).set j (some (.own none q.1)))
def tNx (K : PySem.W.Frag) (f : NM) : TE := fun σ H Q => ∃ g, tN K g f σ H Q
theorem pnx {X : Cx} {ex : Expr} {f : NM} (h : ∀ g, DN X g ex f) : PE X ex (tNx X.K f) := ⟨fun pins s σ H Q I ⟨g, q⟩ => (h g).run pins s σ H Q I q⟩
section
variable {X : Cx} {g : Gx} {st : Stmt} {i j : Nat} {fn fm : NM} {fe : EM}
theorem ds_parN (h : PS X st (tPar i j (tCons (tN X.K g fn) (tCons (tEx X.K fe) tNil)))) : DS X g st (sParN i j fn fe) := weakPS h fun D σ H ⟨F, ρ, out, ρ', G, hf, q⟩ => by
  obtain ⟨p, e1, hf⟩ := bnd hf
  obtain ⟨p2, e2, hf⟩ := bnd hf
  cases hf
  refine ⟨F, ρ, p.1, p.2, G, e1, fun l o F1 H1 G1 s1 h1 h2 h3 h4 h5 h6 => ⟨g.also l o, F1, p.2, p2.1, p2.2, G1.pin h1 h2 h5, e2, fun w F2 H2 G2 s2 r2 => ?_⟩⟩
  obtain ⟨G3, l3, f3, n3⟩ := G2.unpin h4
  exact ⟨_, _, rfl, q _ F2 H2 ((G3.setOwn i l3 f3 h3 h4 n3 (h6.mono s2)).setD j r2) (s1.trans s2)⟩
theorem ds_parE (h : PS X st (tPar i j (tCons (tE X.K g fe) (tCons (tN X.K g fn) tNil)))) : DS X g st (sParE i j fe fn) := weakPS h fun D σ H ⟨F, ρ, out, ρ', G, hf, q⟩ => by
  obtain ⟨p, e1, hf⟩ := bnd hf
  obtain ⟨p2, e2, hf⟩ := bnd hf
  cases hf
  refine ⟨F, ρ, p.1, p.2, G, e1, fun v F1 H1 G1 s1 r1 => ⟨F1, p.2, p2.1, p2.2, G1, e2, fun l o F2 H2 G2 s2 h1 h2 h3 h4 h5 h6 => ?_⟩⟩
  have G3 := G2.setD i (r1.mono s2)
  exact ⟨_, _, rfl, q _ F2 H2 (G3.setOwn j h1 h2 h3 h4 (fun k hk => h5 k (hk.of_set (by simp))) h6) (s1.trans s2)⟩
theorem ds_parB (h : PS X st (tPar i j (tCons (tN X.K g fn) (tCons (tNx X.K fm) tNil)))) : DS X g st (sParB i j fn fm) := weakPS h fun D σ H ⟨F, ρ, out, ρ', G, hf, q⟩ => by
  obtain ⟨p, e1, hf⟩ := bnd hf
  obtain ⟨p2, e2, hf⟩ := bnd hf
  cases hf
  refine ⟨F, ρ, p.1, p.2, G, e1, fun l o F1 H1 G1 s1 h1 h2 h3 h4 h5 h6 => ⟨g.also l o, F1, p.2, p2.1, p2.2, G1.pin h1 h2 h5, e2, fun l' o' F2 H2 G2 s2 k1 k2 k3 k4 k5 k6 => ?_⟩⟩
  obtain ⟨G3, l3, f3, n3⟩ := G2.unpin h4
  have ne : l' ≠ l := fun z => by
    subst z
    have : upd g.pin l' o l' = none := k4
    rw [upd_same] at this
    cases this
  have k4' : g.pin l' = none := by
    have : upd g.pin l o l' = none := k4
    rw [upd_ne ne] at this
    exact this
  have G4 := G3.setOwn i l3 f3 h3 h4 n3 (h6.mono s2)
  refine ⟨_, _, rfl, q _ F2 H2 (G4.setOwn j k1 k2 k3 k4' (fun k hk => ?_) k6) (s1.trans s2)⟩
  by_cases c : k = i
  · subst c
    obtain ⟨l0, a1, ⟨⟨t, ys, a2⟩, ea⟩ | ⟨t, ys, u, a2, _, _⟩⟩ := hk
    · rcases get_set a2 with ⟨b1, b2, b3⟩ | ⟨b1, b2⟩
      · rw [List.getElem?_set_self (G3.lt b3)] at a1
        cases a1
        exact ne ea
      · exact b1 rfl
    · rcases get_set a2 with ⟨b1, b2, b3⟩ | ⟨b1, b2⟩
      · cases b2
      · exact b1 rfl
  · exact k5 k (hk.ne c)
end
section
variable {i j : Nat} {fn fm : NM} {fe : EM} {ρ : Env} {QS : Out × Env → Prop}
theorem x_sParN : Ex (sParN i j fn fe ρ) QS = Ex (fn ρ) fun p => Ex (fe p.2) fun q => QS (.nx, (q.2.set i (some (.own none p.1))).set j (some (.d q.1))) := by
  simp only [ex_eq]
  unfold sParN; simp only [ex0_bind, ex0_some]
theorem x_sParE : Ex (sParE i j fe fn ρ) QS = Ex (fe ρ) fun p => Ex (fn p.2) fun q => QS (.nx, (q.2.set i (some (.d p.1))).set j (some (.own none q.1))) := by
  simp only [ex_eq]
  unfold sParE; simp only [ex0_bind, ex0_some]
theorem x_sParB : Ex (sParB i j fn fm ρ) QS = Ex (fn ρ) fun p => Ex (fm p.2) fun q => QS (.nx, (q.2.set i (some (.own none p.1))).set j (some (.own none q.1))) := by
  simp only [ex_eq]
  unfold sParB; simp only [ex0_bind, ex0_some]
end

/-! ### x in a list of nested data -/
theorem units65 {k : Nat} {A : Around} (r : Room k A) : A.units + 65 < cLine := by
  have := r.un
  omega
def kInX (neg : Bool) (a b : D) : Option D := match b with
  | .lst l => if sh 64 a && sh 64 (.lst l) then some (.bl (if neg then !l.any (fun z => dEq z a) else l.any fun z => dEq z a)) else none
  | _ => none
theorem toPys_any {x : PyData} {a : D} (hx : toPy a = some x) : ∀ {l : List D} {zs : List PyData}, toPys l = some zs → (zs.any fun z => PyData.eqv z x) = l.any fun z => dEq z a
  | [], _, e => by cases e; rfl
  | d :: l, _, e => by
    obtain ⟨z, e1, e⟩ := bnd e
    obtain ⟨zs, e2, e⟩ := bnd e
    cases e
    rw [List.any_cons, List.any_cons, dEq_ok d a e1 hx, toPys_any hx e2]
theorem inX_ok {K : PySem.W.Frag} {F H : Hp} (s : Same F H) {v u : V} {a : D} {l : List D} (ra : Rep K F v a) (rb : Rep K F u (.lst l)) (h : (sh 64 a && sh 64 (.lst l)) = true) :
    ∃ d ds, Dp K H v d ∧ Dp K H u (.list ds) ∧ SeqAt.shaped d = true ∧ SeqAt.shaped (.list ds) = true ∧ (ds.any fun z => PyData.eqv z d) = l.any fun z => dEq z a := by
  obtain ⟨h1, h2⟩ := Bool.and_eq_true_iff.mp h
  obtain ⟨x, e1, e2, e3⟩ := sh_ok 64 a h1
  obtain ⟨y, f1, f2, f3⟩ := sh_ok 64 _ h2
  obtain ⟨zs, g1, g2⟩ := bnd f1
  cases g2
  exact ⟨x, zs, toPy_ok s ra e1, toPy_ok s rb f1, by unfold SeqAt.shaped; simp [e2, e3], by unfold SeqAt.shaped; simp [f2, f3], toPys_any e1 g1⟩
theorem ok_inX {K : PySem.W.Frag} : Op2 K (rInD K) (kInX false) := by
  intro F H v u a b c Q s ra rb e q
  unfold kInX at e
  split at e
  · split at e
    · rename_i h
      cases e
      obtain ⟨d, ds, h1, h2, h3, h4, h5⟩ := inX_ok s ra rb h
      exact ⟨d, ds, h1, h2, h3, h4, by rw [h5]; exact q _ F H (Ext.refl s) .bl⟩
    · cases e
  · cases e
theorem ok_notInX {K : PySem.W.Frag} : Op2 K (rNotInD K) (kInX true) := by
  intro F H v u a b c Q s ra rb e q
  unfold kInX at e
  split at e
  · split at e
    · rename_i h
      cases e
      obtain ⟨d, ds, h1, h2, h3, h4, h5⟩ := inX_ok s ra rb h
      exact ⟨d, ds, h1, h2, h3, h4, by rw [h5]; exact q _ F H (Ext.refl s) .bl⟩
    · cases e
  · cases e
theorem any_pairs (p : Int × Int) (ps : List (Int × Int)) : ((ps.map dPair).any fun z => dEq z (dPair p)) = decide (p ∈ ps) := by
  rw [List.any_map, Bool.eq_iff_iff, List.any_eq_true, decide_eq_true_eq]
  constructor
  · rintro ⟨x, h1, h2⟩
    rw [← (dPair_eq x p).mp h2]; exact h1
  · intro h
    exact ⟨p, h, (dPair_eq p p).mpr rfl⟩
theorem sh_pair64 (p : Int × Int) : sh 64 (dPair p) = true := by
  unfold dPair sh
  rfl
theorem kInX_p {p : Int × Int} {ps : List (Int × Int)} : kInX false (dPair p) (.lst (ps.map dPair)) = some (.bl (decide (p ∈ ps))) := by
  unfold kInX
  dsimp only
  rw [if_pos (by rw [sh_pair64, sh_pairs]; rfl), any_pairs]
  rfl
theorem kNotInX_p {p : Int × Int} {ps : List (Int × Int)} : kInX true (dPair p) (.lst (ps.map dPair)) = some (.bl (!decide (p ∈ ps))) := by
  unfold kInX
  dsimp only
  rw [if_pos (by rw [sh_pair64, sh_pairs]; rfl), any_pairs]
  rfl
theorem kEq_pd (p q : Int × Int) : kEq (dPair p) (dPair q) = some (.bl (decide (p = q))) := by
  rw [kEq_sh (sh_pair64 _) (sh_pair64 _)]
  congr 2
  rw [Bool.eq_iff_iff, dPair_eq, decide_eq_true_eq]
theorem kNe_pd (p q : Int × Int) : kNe (dPair p) (dPair q) = some (.bl (!decide (p = q))) := by
  rw [kNe_sh (sh_pair64 _) (sh_pair64 _)]
  congr 3
  rw [Bool.eq_iff_iff, dPair_eq, decide_eq_true_eq]
theorem kEq_pp (a b : List (Int × Int)) : kEq (.lst (a.map dPair)) (.lst (b.map dPair)) = some (.bl (decide (a = b))) := by
  rw [kEq_sh (sh_pairs _) (sh_pairs _)]
  have := dEqs_map dPair_eq a b
  congr 2
  show dEqs _ _ = _
  rw [Bool.eq_iff_iff, this, decide_eq_true_eq]
theorem kNe_pp (a b : List (Int × Int)) : kNe (.lst (a.map dPair)) (.lst (b.map dPair)) = some (.bl (!decide (a = b))) := by
  rw [kNe_sh (sh_pairs _) (sh_pairs _)]
  have := dEqs_map dPair_eq a b
  congr 3
  show dEqs _ _ = _
  rw [Bool.eq_iff_iff, this, decide_eq_true_eq]
theorem kInX_t {a b : Int} {ps : List (Int × Int)} : kInX false (.tup [.int a, .int b]) (.lst (ps.map dPair)) = some (.bl (decide ((a, b) ∈ ps))) := kInX_p (p := (a, b))
theorem kNotInX_t {a b : Int} {ps : List (Int × Int)} : kInX true (.tup [.int a, .int b]) (.lst (ps.map dPair)) = some (.bl (!decide ((a, b) ∈ ps))) := kNotInX_p (p := (a, b))
end L3

namespace L3
open PySem PySem.Spec PyProof.Rows L2
/-! ### xs[::-1] -/
def tRevS (K : PySem.W.Frag) (te : TE) (ts : TO) : TE := fun σ H Q => te σ H fun x H1 => ts σ H1 fun k H2 => k = some (-1) ∧ ∃ a xs, x = .ref a ∧ SqL K H2 a xs ∧ ∀ p, H2 p = none → Q (.ref p) (upd H2 p (.lst xs.reverse))
section
variable {X : Cx} {g : Gx} {e st : Expr} {te : TE} {ts : TO} {pos p2 : Pos} {f : OM}
theorem pe_revS (he : PE X e te) (hs : PO X (some st) ts) : PE X (.Subscript e (.Slice none none (some st) p2) pos) (tRevS X.K te ts) := by
  refine ⟨fun pins s σ H Q I h => ?_⟩
  refine Subscript_ (thn (he.run pins s σ H _ I h) fun v s1 ⟨x, H1, I1, r1, q1⟩ => ?_)
  refine wpAny_Slice ?_
  rw [evalPart_none]
  refine wpAny_pure ?_
  refine wpAny_pure ?_
  refine thn (hs.run pins s1 σ H1 _ I1 q1) fun vk s3 ⟨k, H3, I3, pk, ek, a, xs, ex, hx, q3⟩ => ?_
  subst ek; subst ex
  cases r1
  have I4 : Inv X pins σ H3 { s3 with heap := s3.heap.push { cls := .type "slice", data := .fields #[.none, .none, vk] } } := I3.kept (t' := s3.toks) fun b ob q => Heap.get?_push_of_some _ q
  obtain ⟨its, r, ht, hz⟩ := I4.list hx
  have hlen := r.length
  show wpAny (model X.prog X.w) X.A (subscriptTail e (.Slice none none (some st) p2) (.ref a) (.ref s3.heap.objs.size)) (EP X pins σ Q) X.xe { s3 with heap := s3.heap.push { cls := .type "slice", data := .fields #[.none, .none, vk] } }
  refine tail_any (ops := [.ref a, .ref s3.heap.objs.size]) ht.isList.typeIs slot_list_getitem.lookup ?_ (by with_unfolding_all rfl)
  refine wpAny_getItem_list_slice ht.isList (Heap.IsSliceOf.new ..) .none .none pk (by simp) ?_ (by rw [List.size_toArray] <;> omega)
  rw [PySem.W.krv_pick]
  refine ⟨.ref _, _, I4.laid (t' := s3.toks) (o := .lst xs.reverse) (fun b ob q => Heap.get?_push_of_some _ q) (Nat.le_refl _) ?_, rfl, q3 _ (I4.hok.fresh (Nat.le_refl _))⟩
  refine ⟨by rw [List.length_reverse]; exact hz, its.reverse, 0, r.reverse, ?_⟩
  have := Heap.get?_push_size { s3 with heap := s3.heap.push { cls := .type "slice", data := .fields #[.none, .none, vk] } }.heap (o := ({ cls := .type "list", data := .seq its.toArray.toList.reverse.toArray } : Obj)) rfl
  simpa using this
def rRevL (K : PySem.W.Frag) : List V → Hp → VK → Prop := fun vs H Q => ∃ a xs, vs = [.ref a] ∧ SqL K H a xs ∧ ∀ p, H p = none → Q (.ref p) (upd H p (.lst xs.reverse))
def kRev : List D → Option D
  | [.lst l] => some (.lst l.reverse)
  | _ => none
theorem ok_rev {K : PySem.W.Frag} : OpN K (rRevL K) kRev := by
  intro F H vs as c Q s r e q
  unfold kRev at e
  split at e
  · obtain ⟨v, rfl, h⟩ := reps_one r
    cases e
    cases h with
    | lst h1 h2 => exact ⟨_, _, rfl, SqL.of (s _ _ h1), fun p hp => q p _ hp (.lst h2.reverse)⟩
  · cases e
theorem dn_rev (h : DO X g e f) (hs : PO X (some st) (tPart (tEx X.K (e1 kNeg (oV (eC (.int 1))))))) : DN X g (.Subscript e (.Slice none none (some st) p2) pos) (nL kRev (aC f aN)) :=
  weakPE (pe_revS (te := tO X.K g f) h hs) fun σ H Q z => by
  obtain ⟨F, ρ, os, ρ', G, hf, q⟩ := opN_t (ok_rev (K := X.K)) z
  obtain ⟨p, e1', hf⟩ := bnd hf
  obtain ⟨p2, e2', hf⟩ := bnd hf
  cases e2'
  cases hf
  refine ⟨F, ρ, p.1, p.2, G, e1', fun v F1 H1 G1 s1 r1 => ?_⟩
  refine ⟨g, F1, p.2, .int (-1), p.2, G1, rfl, fun w F2 H2 G2 s2 r2 => ?_⟩
  cases r2
  refine ⟨-1, rfl, rfl, ?_⟩
  obtain ⟨a, xs, ev, hx, hq⟩ := q [v] F2 H2 G2 (s1.trans s2) (.cons (r1.mono s2) .nil)
  cases ev
  exact ⟨a, xs, rfl, hx, hq⟩
end
theorem kRev_l {l : List D} : kRev [.lst l] = some (.lst l.reverse) := rfl
end L3

namespace L3
open PySem PySem.Spec PyProof.Rows L2

/-! ### constants of the module -/
mutual
/-- the value u of the text stands for the data -/
def kd (K : PySem.W.Frag) : Value → D → Bool
  | .none, .non => true
  | .bool b, .bl c => b == c
  | .int i _, .int j => decide (i = j)
  | .str x _, .str y => decide (x = y)
  | .ref a, .ktp ds => match K.lookup a with
    | some ⟨.type c, _, .seq its _, _⟩ => decide (c = "tuple") && (decide (its.size ≤ 1000) && kds K its.toList ds)
    | _ => false
  | _, _ => false
def kds (K : PySem.W.Frag) : List Value → List D → Bool
  | [], [] => true
  | u :: us, d :: ds => kd K u d && kds K us ds
  | _, _ => false
end
mutual
theorem kd_ok {K : PySem.W.Frag} : ∀ {d : D} {u : Value}, kd K u d = true → ∃ v, RelV v u ∧ ∀ F, Rep K F v d
  | .non, .none, _ => ⟨.non, rfl, fun _ => .non⟩
  | .bl c, .bool b, h => by
    have : b = c := by unfold kd at h; exact beq_iff_eq.mp h
    subst this
    exact ⟨.bl b, rfl, fun _ => .bl⟩
  | .int j, .int i t, h => by
    have : i = j := by unfold kd at h; exact of_decide_eq_true h
    subst this
    exact ⟨.int i, ⟨t, rfl⟩, fun _ => .int⟩
  | .str y, .str x t, h => by
    have : x = y := by unfold kd at h; exact of_decide_eq_true h
    subst this
    exact ⟨.str x, ⟨t, rfl⟩, fun _ => .str⟩
  | .ktp ds, .ref a, h => by
    unfold kd at h
    split at h
    · rename_i c od its n osl e
      obtain ⟨h1, h2⟩ := He.ba h
      obtain ⟨h3, h4⟩ := He.ba h2
      have e1 := of_decide_eq_true h1
      subst e1
      have h3' := of_decide_eq_true h3
      obtain ⟨vs, r1, r2⟩ := kds_ok h4
      refine ⟨.ref a, rfl, fun F => .ktp (.inr ⟨_, its, n, e, rfl, rfl, ?_, r1⟩) (r2 F)⟩
      exact Nat.le_of_lt (small1000 h3')
    · cases h
theorem kds_ok {K : PySem.W.Frag} : ∀ {ds : List D} {us : List Value}, kds K us ds = true → ∃ vs, Vals vs us ∧ ∀ F, Reps K F vs ds
  | [], [], _ => ⟨[], .nil, fun _ => .nil⟩
  | d :: ds, u :: us, h => by
    unfold kds at h
    obtain ⟨h1, h2⟩ := He.ba h
    obtain ⟨v, r1, r2⟩ := kd_ok h1
    obtain ⟨vs, r3, r4⟩ := kds_ok h2
    exact ⟨v :: vs, .cons r1 r3, fun F => .cons (r2 F) (r4 F)⟩
end
def gcB (x : Str) (d : D) (K : PySem.W.Frag) : Bool := match PySem.W.nsIn K mainGlobals x with
  | some (some u) => kd K u d
  | _ => false
/-- the global x is the data -/
def GCon (K : PySem.W.Frag) (mg : Str → Option Value) (x : Str) (d : D) : Prop := ∃ v u, mg x = some u ∧ RelV v u ∧ ∀ F, Rep K F v d
theorem gcB_ok {K : PySem.W.Frag} {h : Heap} {mg : Str → Option Value} (X : K.In h) (G : h.Ns mainGlobals mg) {x : Str} {d : D} (c : gcB x d K = true) : GCon K mg x d := by
  unfold gcB at c
  split at c
  · rename_i u e
    obtain ⟨v, r1, r2⟩ := kd_ok c
    exact ⟨v, u, PySem.W.mg_of X G e, r1, r2⟩
  · cases c
theorem de_gc {X : Cx} {g : Gx} {x : Str} {pos : Pos} {d : D} (hg : Gl X x) (h : GCon X.K X.mg x d) (hdb : (x == ("__debug__" : Str)) = false := by decide) : DE X g (.Name x pos) (eC d) := by
  obtain ⟨v, u, e, r1, r2⟩ := h
  exact de_c (pe_glob hg e r1 (hd := hdb)) r2

/-! ### dicts of the module, by text keys -/
def tabB (tab : List (Str × D)) (K : PySem.W.Frag) : List DictEntry → Bool := fun es => match tab, es with
  | [], [] => true
  | (s, d) :: tab, e :: es => (match e.key with
    | .str x _ => decide (x = s)
    | _ => false) && (kd K e.val d && tabB tab K es)
  | _, _ => false
def ktB (x : Str) (tab : List (Str × D)) (K : PySem.W.Frag) : Bool := match K.lookup (He.ga K x) with
  | some ⟨_, _, .dict es _, _⟩ => tabB tab K es.toList
  | _ => false
def TabAt (K : PySem.W.Frag) (d : Addr) (tab : List (Str × D)) : Prop := ∀ s, (∀ e, tab.lookup s = some e → ∃ u v, PySem.W.nsIn K d s = some (some u) ∧ RelV v u ∧ ∀ F, Rep K F v e) ∧ (tab.lookup s = none → PySem.W.nsIn K d s = some none)
theorem tabB_ok {K : PySem.W.Frag} (s : Str) : ∀ {tab : List (Str × D)} {es : List DictEntry}, tabB tab K es = true → (∀ e, tab.lookup s = some e → ∃ en v, es.find? (·.key.isStr s) = some en ∧ RelV v en.val ∧ ∀ F, Rep K F v e) ∧ (tab.lookup s = none → es.find? (·.key.isStr s) = none) ∧ es.any (·.refKey) = false
  | [], [], _ => ⟨fun _ h => (nomatch h), fun _ => rfl, rfl⟩
  | (z, d) :: tab, e :: es, h => by
    unfold tabB at h
    obtain ⟨h1, h2⟩ := He.ba h
    obtain ⟨h3, h4⟩ := He.ba h2
    obtain ⟨i1, i2, i3⟩ := tabB_ok s h4
    split at h1
    · rename_i x t ek
      have ex := of_decide_eq_true h1
      subst ex
      have ik : e.key.isStr s = decide (x = s) := by rw [ek]; first | rfl | (unfold Value.isStr; first | rfl | (rw [Bool.eq_iff_iff]; simp))
      have rk : e.refKey = false := by unfold DictEntry.refKey; rw [ek]
      rw [List.find?_cons, List.any_cons, rk, i3, ik]
      by_cases q : s = x
      · subst q
        refine ⟨fun d' hd => ?_, fun hn => ?_, rfl⟩
        · rw [List.lookup_cons, beq_self_eq_true] at hd
          cases hd
          obtain ⟨v, r1, r2⟩ := kd_ok h3
          exact ⟨e, v, by simp, r1, r2⟩
        · rw [List.lookup_cons, beq_self_eq_true] at hn
          cases hn
      · have q1 : (s == x) = false := by rw [beq_eq_false_iff_ne]; exact q
        have q2 : decide (x = s) = false := decide_eq_false fun z => q z.symm
        rw [List.lookup_cons, q1, q2]
        exact ⟨i1, i2, rfl⟩
    · cases h1
theorem ktB_ok {K : PySem.W.Frag} {x : Str} {tab : List (Str × D)} (h : ktB x tab K = true) : TabAt K (He.ga K x) tab := by
  unfold ktB at h
  split at h
  · rename_i oc od es n osl e
    intro s
    obtain ⟨h1, h2, h3⟩ := tabB_ok s h
    refine ⟨fun d hd => ?_, fun hn => ?_⟩
    · obtain ⟨en, v, e1, r1, r2⟩ := h1 d hd
      refine ⟨en.val, v, ?_, r1, r2⟩
      unfold PySem.W.nsIn
      rw [e]
      dsimp only
      rw [e1]
    · unfold PySem.W.nsIn
      rw [e]
      dsimp only
      rw [h2 hn]
      dsimp only
      rw [h3]
      rfl
  · cases h
end L3

namespace L3
open PySem PySem.Spec PyProof.Rows L2

/-- the global x is a dict with these text keys -/
def KTab (K : PySem.W.Frag) (w : World) (mg : Str → Option Value) (x : Str) (tab : List (Str × D)) : Prop := ∃ d es n, mg x = some (.ref d) ∧ KDict K w d es n ∧ TabAt K d tab
def tKGet2 (K : PySem.W.Frag) (tab : List (Str × D)) (ty tx : TE) : TE := fun σ H Q => ty σ H fun y H1 => tx σ H1 fun z H2 => ∃ s, y = .str s ∧ (∀ e v, tab.lookup s = some e → (∀ F, Rep K F v e) → Q v H2) ∧ (tab.lookup s = none → Q z H2)
section
variable {X : Cx} {x : Str} {tab : List (Str × D)} {e f : Expr} {p apos cpos pos : Pos} {ty tx : TE}
theorem pe_kget2 (hg : Gl X x) (T : KTab X.K X.w X.mg x tab) (he : PE X e ty) (hf : PE X f tx) (m : M2 X (.Name x p) "get" apos e f cpos) (hdb : (x == ("__debug__" : Str)) = false := by decide) : PE X (.Call (.Attribute (.Name x p) "get" apos) [e, f] [] cpos) (tKGet2 X.K tab ty tx) := by
  obtain ⟨d, es, n, hm, D, ht⟩ := T
  refine ⟨fun pins s σ H Q I h => ?_⟩
  have ho : PE X (.Name x p) (tC (.ref d)) := pe_glob hg hm rfl (hd := hdb)
  refine wpAny_Call_method m.base m.few m.line PySem.F.plainAttrs_dict PySem.F.slot_dict_get PySem.F.type_dict_get (thn (ho.run pins s σ H (fun v H1 => v = .ref d ∧ H1 = H) I ⟨rfl, rfl⟩) fun u s1 ⟨v, H1, I1, rx, ex, eH⟩ => ?_)
  subst ex; subst eH
  obtain rfl : u = Value.ref d := rx
  have hk := I1.kIn _ _ D.at_
  refine ⟨kd_type D I1, fun b eb => by cases eb; exact ⟨_, hk, rfl⟩, ?_⟩
  rw [m.trees]
  refine Calls.callWith_builtin rfl (Calls.evalArgs_plain (Calls.spliced_cons (thn (he.run pins s1 σ H1 _ I1 h) fun iv s2 ⟨y, H2, I2, ry, q2⟩ =>
    Calls.spliced_cons (thn (hf.run pins s2 σ H2 _ I2 q2) fun fv s3 ⟨z, H3, I3, rz, st, ey, q3, q4⟩ => Calls.spliced_nil ?_))))
  subst ey
  obtain ⟨t, rfl⟩ := ry
  have hmap := PySem.W.mapOf_K (prog := X.prog) (w := X.w) I3.kIn D.at_ D.lit
  refine call_meetsIn PySem.F.slot_dict_get hmap.typeIs PySem.F.entry_dict_get (PySem.F.args_dict_get_3 _ _ _) (meets_dict_get_default (strKind X.prog X.w) d (strKind_is X.prog X.w st t) D.low fv) ⟨_, hmap, ?_⟩
  obtain ⟨h1, h2⟩ := ht st
  cases hl : tab.lookup st with
  | some e' =>
    obtain ⟨u, v, en, ru, rv⟩ := h1 e' hl
    rw [PySem.W.find_K D.at_ en]
    exact ⟨v, H3, I3.tok _, ru, q3 e' v hl rv⟩
  | none =>
    rw [PySem.W.find_K D.at_ (h2 hl)]
    exact ⟨z, H3, I3.tok _, rz, q4 hl⟩
end
def eKGet (tab : List (Str × D)) (fk fd : EM) : EM := fun ρ => (fk ρ).bind fun p => (fd p.2).bind fun q => match p.1 with
  | .str s => some ((tab.lookup s).getD q.1, q.2)
  | _ => none
def eKIn (tab : List (Str × D)) (neg : Bool) (fk : EM) : EM := fun ρ => (fk ρ).bind fun p => match p.1 with
  | .str s => some (.bl (if neg then !(tab.lookup s).isSome else (tab.lookup s).isSome), p.2)
  | _ => none
section
variable {X : Cx} {g : Gx} {x : Str} {tab : List (Str × D)} {e f ex : Expr} {p apos cpos pos : Pos} {fk fd : EM}
theorem de_kget2 (hg : Gl X x) (T : KTab X.K X.w X.mg x tab) (he : DE X g e fk) (hf : DE X g f fd) (m : M2 X (.Name x p) "get" apos e f cpos) (hdb : (x == ("__debug__" : Str)) = false := by decide) : DE X g (.Call (.Attribute (.Name x p) "get" apos) [e, f] [] cpos) (eKGet tab fk fd) :=
  weakPE (pe_kget2 hg T he hf m (hdb := hdb)) fun σ H Q ⟨F, ρ, d, ρ', G, hf, q⟩ => by
  obtain ⟨⟨a, ρ1⟩, e1, hf⟩ := bnd hf
  obtain ⟨⟨b, ρ2⟩, e2, hf⟩ := bnd hf
  dsimp only at hf
  refine ⟨F, ρ, a, ρ1, G, e1, fun v F1 H1 G1 s1 r1 => ⟨F1, ρ1, b, ρ2, G1, e2, fun w F2 H2 G2 s2 r2 => ?_⟩⟩
  cases a with
  | str s =>
    cases r1
    cases hf
    refine ⟨s, rfl, fun e' v' hl rv => ?_, fun hl => ?_⟩
    · rw [hl] at q
      exact q v' F2 H2 G2 (s1.trans s2) (rv F2)
    · rw [hl] at q
      exact q w F2 H2 G2 (s1.trans s2) r2
  | _ => cases hf
theorem kIn_t (hg : Gl X x) (T : KTab X.K X.w X.mg x tab) (he : DE X g e fk) (hdb : (x == ("__debug__" : Str)) = false := by decide) : DE X g (.Compare e [.In] [.Name x p] pos) (eKIn tab false fk) := by
  obtain ⟨d, es, n, hm, D, ht⟩ := T
  refine weakPE (pe_cmpR (op_in_kd D) he (pe_glob (v := .ref d) (pos := p) hg hm rfl (hd := hdb)) rfl) fun σ H Q ⟨F, ρ, d', ρ', G, hf, q⟩ => ?_
  obtain ⟨⟨a, ρ1⟩, e1, hf⟩ := bnd hf
  dsimp only at hf
  refine ⟨F, ρ, a, ρ1, G, e1, fun v F1 H1 G1 s1 r1 => ?_⟩
  cases a with
  | str s =>
    cases r1
    cases hf
    obtain ⟨h1, h2⟩ := ht s
    cases hl : tab.lookup s with
    | some e' =>
      obtain ⟨u, v, en, ru, rv⟩ := h1 e' hl
      rw [hl] at q
      exact ⟨s, _, rfl, rfl, en, q _ F1 H1 G1 s1 .bl⟩
    | none =>
      rw [hl] at q
      exact ⟨s, _, rfl, rfl, h2 hl, q _ F1 H1 G1 s1 .bl⟩
  | _ => cases hf
theorem kNotIn_t (hg : Gl X x) (T : KTab X.K X.w X.mg x tab) (he : DE X g e fk) (hdb : (x == ("__debug__" : Str)) = false := by decide) : DE X g (.Compare e [.NotIn] [.Name x p] pos) (eKIn tab true fk) := by
  obtain ⟨d, es, n, hm, D, ht⟩ := T
  refine weakPE (pe_cmpR (op_notIn_kd D) he (pe_glob (v := .ref d) (pos := p) hg hm rfl (hd := hdb)) rfl) fun σ H Q ⟨F, ρ, d', ρ', G, hf, q⟩ => ?_
  obtain ⟨⟨a, ρ1⟩, e1, hf⟩ := bnd hf
  dsimp only at hf
  refine ⟨F, ρ, a, ρ1, G, e1, fun v F1 H1 G1 s1 r1 => ?_⟩
  cases a with
  | str s =>
    cases r1
    cases hf
    obtain ⟨h1, h2⟩ := ht s
    cases hl : tab.lookup s with
    | some e' =>
      obtain ⟨u, v, en, ru, rv⟩ := h1 e' hl
      rw [hl] at q
      exact ⟨s, _, rfl, rfl, en, q _ F1 H1 G1 s1 .bl⟩
    | none =>
      rw [hl] at q
      exact ⟨s, _, rfl, rfl, h2 hl, q _ F1 H1 G1 s1 .bl⟩
  | _ => cases hf
end
/-! ### d.get(k, x) of a dict that is not changed any more -/
def eDGet2 (fd fk fx : EM) : EM := fun ρ => (fd ρ).bind fun p => match p.1 with
  | .dk kvs => (fk p.2).bind fun q => (keyOf q.1).bind fun k => (fx q.2).bind fun r => some ((valD kvs k).getD r.1, r.2)
  | _ => none
theorem RepK.valV {K : PySem.W.Frag} {F : Hp} {vs : List (Key × V)} {ds : List (Key × D)} (h : RepK K F vs ds) (k : Key) : (∀ d, valD ds k = some d → ∃ v, L2.valV vs k = some v ∧ Rep K F v d) ∧ (valD ds k = none → L2.valV vs k = none) := by
  induction vs generalizing ds with
  | nil => cases h; exact ⟨fun d e => (nomatch e), fun _ => rfl⟩
  | cons a vs ih =>
    cases h with
    | cons r rr =>
      rename_i n v d ds
      obtain ⟨h1, h2⟩ := ih rr
      unfold valD L2.valV at *
      rw [List.find?_cons, List.find?_cons]
      by_cases e : n = k
      · rw [decide_eq_true e]
        exact ⟨fun d' hd => by cases hd; exact ⟨v, rfl, r⟩, fun hn => (nomatch hn)⟩
      · rw [decide_eq_false e]
        exact ⟨h1, h2⟩
theorem keyOf_kV2 {K : PySem.W.Frag} {F : Hp} {v : V} {d : D} {k : Key} (r : Rep K F v d) (e : L3.keyOf d = some k) : v = kV k := by
  unfold L3.keyOf at e
  split at e
  · cases e; cases r; rfl
  · cases e; cases r; rfl
  · cases e
section
variable {X : Cx} {g : Gx} {o e f : Expr} {apos cpos : Pos} {fo fk fx : EM}
theorem de_dget2 (hu : X.A.units + 1 < cLine) (ho : DE X g o fo) (he : DE X g e fk) (hf : DE X g f fx) (m : M2 X o "get" apos e f cpos) : DE X g (.Call (.Attribute o "get" apos) [e, f] [] cpos) (eDGet2 fo fk fx) :=
  weakPE (pe_dget2 hu ho he hf m) fun σ H Q ⟨F, ρ, d, ρ', G, hf, q⟩ => by
  obtain ⟨⟨a, ρ1⟩, e1, hf⟩ := bnd hf
  dsimp only at hf
  refine ⟨F, ρ, a, ρ1, G, e1, fun v F1 H1 G1 s1 r1 => ?_⟩
  cases a with
  | dk kvs =>
    dsimp only at hf
    obtain ⟨⟨b, ρ2⟩, e2, hf⟩ := bnd hf
    obtain ⟨k, e3, hf⟩ := bnd hf
    obtain ⟨⟨c, ρ3⟩, e4, hf⟩ := bnd hf
    cases hf
    cases r1 with
    | dk h1 h2 =>
      refine ⟨_, rfl, .inl ⟨_, .inl (G1.sub _ _ h1)⟩, F1, ρ1, b, ρ2, G1, e2, fun w F2 H2 G2 s2 r2 => ⟨F2, ρ2, c, _, G2, e4, fun z F3 H3 G3 s3 r3 => ?_⟩⟩
      have h1' := s3 _ _ (s2 _ _ h1)
      have h2' := (h2.mono s2).mono s3
      have ew := keyOf_kV2 r2 e3
      subst ew
      refine ⟨_, DGet.k (G3.sub _ _ h1'), ?_⟩
      obtain ⟨k1, k2⟩ := RepK.valV h2' k
      cases hv : valD kvs k with
      | some d' =>
        obtain ⟨v', e5, r5⟩ := k1 d' hv
        rw [e5]
        rw [hv] at q
        exact q v' F3 H3 G3 ((s1.trans s2).trans s3) r5
      | none =>
        rw [k2 hv]
        rw [hv] at q
        exact q z F3 H3 G3 ((s1.trans s2).trans s3) r3
  | _ => cases hf
end
/-! ### *e among the items -/
def seqItems : D → Option (List D)
  | .tup l => some l
  | .ktp l => some l
  | .lst l => some l
  | _ => none
def aS (f : EM) (h : AM) : AM := fun ρ => (f ρ).bind fun p => (seqItems p.1).bind fun l => (h p.2).bind fun q => some (l.map Opd.val ++ q.1, q.2)
theorem OpdsOk.vals {K : PySem.W.Frag} {F : Hp} {σ : L2.St} {vs2 : List V} {os : List Opd} (h : OpdsOk K F σ vs2 os) : ∀ {vs : List V} {l : List D}, Reps K F vs l → OpdsOk K F σ (vs ++ vs2) (l.map Opd.val ++ os)
  | _, _, .nil => h
  | _, _, .cons r rr => .cons r (OpdsOk.vals h rr)
theorem seqItems_ok {K : PySem.W.Frag} {F H : Hp} (s : Same F H) {v : V} {d : D} {l : List D} (r : Rep K F v d) (e : seqItems d = some l) : ∃ p xs, v = .ref p ∧ (SqT K H p xs ∨ SqL K H p xs) ∧ Reps K F xs l := by
  unfold seqItems at e
  split at e
  · cases e; cases r with | tup h1 h2 => exact ⟨_, _, rfl, .inl (SqT.of (s _ _ h1)), h2⟩
  · cases e; cases r with | ktp h1 h2 => exact ⟨_, _, rfl, .inl (Same.sqt s h1), h2⟩
  · cases e; cases r with | lst h1 h2 => exact ⟨_, _, rfl, .inr (SqL.of (s _ _ h1)), h2⟩
  · cases e
section
variable {X : Cx} {g : Gx} {ex : Expr} {es : List Expr} {f : EM} {fa : AM} {p pos : Pos}
theorem da_s (h : DE X g ex f) (hr : DA X g es fa) (hs : starEach (.Starred ex p :: es) X.env = (true, eval ex X.env) :: starEach es X.env := by rfl) : DA X g (.Starred ex p :: es) (aS f fa) := weakPA (StX.pa_star h hr hs) fun σ H Q ⟨F, ρ, d, ρ', G, hf, q⟩ => by
  obtain ⟨⟨a, ρ1⟩, e1, hf⟩ := bnd hf
  obtain ⟨l, e2, hf⟩ := bnd hf
  obtain ⟨⟨os, ρ2⟩, e3, hf⟩ := bnd hf
  cases hf
  refine ⟨F, ρ, a, ρ1, G, e1, fun v F1 H1 G1 s1 r1 => ?_⟩
  obtain ⟨p', xs, ev, hx, rx⟩ := seqItems_ok G1.sub r1 e2
  exact ⟨p', xs, ev, hx, F1, ρ1, os, _, G1, e3, fun vs F2 H2 G2 s2 r2 => q _ F2 H2 G2 (s1.trans s2) (OpdsOk.vals r2 (rx.mono s2))⟩
def eTupS (f : AM) : EM := fun ρ => (f ρ).bind fun p => (valsOf p.1).bind fun ds => if ds.length ≤ 1000 then some (.tup ds, p.2) else none
def nLstS (f : AM) : NM := fun ρ => (f ρ).bind fun p => (valsOf p.1).bind fun ds => if ds.length ≤ 1000 then some (.lst ds, p.2) else none
theorem valsOf_len : ∀ {os : List Opd} {ds : List D}, valsOf os = some ds → os.length = ds.length
  | [], _, e => by cases e; rfl
  | .val d :: os, _, e => by
    obtain ⟨ds', e1, e2⟩ := bnd e
    cases e2
    simp [valsOf_len e1]
  | .ref _ :: _, _, e => by cases e
  | .io _ :: _, _, e => by cases e
theorem de_tupS {x1} (h : DA X g es fa) : DE X g (.Tuple es x1 pos) (eTupS fa) := weakPE (pe_tup h) fun σ H Q ⟨F, ρ, d, ρ', G, hf, q⟩ => by
  obtain ⟨p, e, hf⟩ := bnd hf
  obtain ⟨ds, e1, hf⟩ := bnd hf
  split at hf
  · rename_i hl
    cases hf
    refine ⟨F, ρ, p.1, p.2, G, e, fun vs F' H' G' s r => ⟨?_, fun a ha => ?_⟩⟩
    · rw [r.length, valsOf_len e1]; exact Nat.le_of_lt (small1000 hl)
    · have x := Ext.alloc G'.sub ha (.tup vs)
      exact q _ _ _ (G'.ext x) (s.trans x.ff) (.tup upd_same ((valsOk r e1).mono x.ff))
  · cases hf
theorem dn_lstS (h : DA X g es fa) : DN X g (.List es pos) (nLstS fa) := weakPE (pe_lst h) fun σ H Q ⟨F, ρ, d, ρ', G, hf, q⟩ => by
  obtain ⟨p, e, hf⟩ := bnd hf
  obtain ⟨ds, e1, hf⟩ := bnd hf
  split at hf
  · rename_i hl
    cases hf
    refine ⟨F, ρ, p.1, p.2, G, e, fun vs F' H' G' s r => ⟨?_, fun a ha => ?_⟩⟩
    · rw [r.length, valsOf_len e1]; exact Nat.le_of_lt (small1000 hl)
    · obtain ⟨G2, h1, h2, h3, h4⟩ := G'.fresh ha (.lst vs)
      exact q _ _ _ _ G2 s upd_same h1 h2 h3 h4 (.lst (valsOk r e1))
  · cases hf
end
/-! ### running them -/
def strO : D → Option Str
  | .str s => some s
  | _ => none
theorem strO_s {s : Str} : strO (.str s) = some s := rfl
def dkD : D → Option (List (Key × D))
  | .dk l => some l
  | _ => none
theorem dkD_k {l : List (Key × D)} : dkD (.dk l) = some l := rfl
theorem seqItems_t {l : List D} : seqItems (.tup l) = some l := rfl
theorem seqItems_kt {l : List D} : seqItems (.ktp l) = some l := rfl
theorem seqItems_l {l : List D} : seqItems (.lst l) = some l := rfl
section
variable {tab : List (Str × D)} {fk fd fx : EM} {fa : AM} {ρ : Env} {Q : D × Env → Prop} {QA : List Opd × Env → Prop} {neg : Bool}
theorem x_eKGet : Ex (eKGet tab fk fd ρ) Q = Ex (fk ρ) fun p => Ex (fd p.2) fun q => Ex (strO p.1) fun s => Q ((tab.lookup s).getD q.1, q.2) := by
  simp only [ex_eq]
  unfold eKGet
  simp only [ex0_bind]
  congr 1; funext p; congr 1; funext q
  obtain ⟨a, r⟩ := p
  cases a <;> simp only [strO, ex0_none, ex0_some]
theorem x_eKIn : Ex (eKIn tab neg fk ρ) Q = Ex (fk ρ) fun p => Ex (strO p.1) fun s => Q (.bl (if neg then !(tab.lookup s).isSome else (tab.lookup s).isSome), p.2) := by
  simp only [ex_eq]
  unfold eKIn
  simp only [ex0_bind]
  congr 1; funext p
  obtain ⟨a, r⟩ := p
  cases a <;> simp only [strO, ex0_none, ex0_some]
theorem x_eDGet2 : Ex (eDGet2 fd fk fx ρ) Q = Ex (fd ρ) fun p => Ex (dkD p.1) fun kvs => Ex (fk p.2) fun q => Ex (L3.keyOf q.1) fun k => Ex (fx q.2) fun r => Q ((valD kvs k).getD r.1, r.2) := by
  simp only [ex_eq]
  unfold eDGet2
  rw [ex0_bind]
  congr 1; funext p
  obtain ⟨a, r⟩ := p
  cases a <;> simp only [dkD, ex0_none, ex0_some, ex0_bind]
theorem x_aS : Ex (aS fk fa ρ) QA = Ex (fk ρ) fun p => Ex (seqItems p.1) fun l => Ex (fa p.2) fun q => QA (l.map Opd.val ++ q.1, q.2) := by
  simp only [ex_eq]
  unfold aS
  simp only [ex0_bind, ex0_some]
theorem x_eTupS : Ex (eTupS fa ρ) Q = Ex (fa ρ) fun p => Ex (valsOf p.1) fun ds => ds.length ≤ 1000 ∧ Q (.tup ds, p.2) := by
  simp only [ex_eq]
  unfold eTupS
  simp only [ex0_bind, ex0_guard, ex0_some]
theorem x_nLstS : Ex (nLstS fa ρ) Q = Ex (fa ρ) fun p => Ex (valsOf p.1) fun ds => ds.length ≤ 1000 ∧ Q (.lst ds, p.2) := by
  simp only [ex_eq]
  unfold nLstS
  simp only [ex0_bind, ex0_guard, ex0_some]
end
theorem valsOf_app : ∀ (l : List D) (os : List Opd), valsOf (l.map Opd.val ++ os) = (valsOf os).bind fun ds => some (l ++ ds)
  | [], os => by cases h : valsOf os <;> simp [h]
  | d :: l, os => by
    show (valsOf (l.map Opd.val ++ os)).bind (fun ds => some (d :: ds)) = _
    rw [valsOf_app l os]
    cases valsOf os <;> rfl
theorem x_valsApp {l : List D} {os : List Opd} {Q : List D → Prop} : Ex (valsOf (l.map Opd.val ++ os)) Q = Ex (valsOf os) fun ds => Q (l ++ ds) := by
  simp only [ex_eq]
  rw [valsOf_app, ex0_bind]
  simp only [ex0_some]
theorem ktab_of {K : PySem.W.Frag} {w : World} {mg : Str → Option Value} {x : Str} {tab : List (Str × D)} (h1 : mg x = some (.ref (He.ga K x))) (h2 : ∃ es n, KDict K w (He.ga K x) es n) (h3 : ktB x tab K = true) : KTab K w mg x tab := by
  obtain ⟨es, n, D⟩ := h2
  exact ⟨_, es, n, h1, D, ktB_ok h3⟩
end L3

namespace L3
open PySem L2
/-! ### lent things that a result cannot hold, told by the data -/
def kind : D → Nat
  | .non => 1
  | .bl _ => 2
  | .int _ => 3
  | .str _ => 4
  | .tup _ => 5
  | .lst _ => 6
  | .ins _ _ => 7
  | .dk _ => 8
  | _ => 0
def difK (a b : D) : Bool := !(kind a == 0) && (!(kind b == 0) && !(kind a == kind b))
theorem difK_no {K : PySem.W.Frag} {F : Hp} {v : V} {a b : D} (ra : Rep K F v a) (rb : Rep K F v b) : difK a b = false := by
  cases ra <;> cases rb <;> first | rfl | (exfalso; simp_all)
/-- the changeable thing x is not the thing d -/
def difT : D → D → Bool
  | .lst ds, .lst l => !(ds.length == l.length) || (match ds, l with
    | a :: _, b :: _ => difK a b
    | _, _ => false)
  | .lst _, .ins _ _ => true
  | .lst _, .dk _ => true
  | .dk _, .lst _ => true
  | .dk _, .ins _ _ => true
  | .ins _ _, .lst _ => true
  | .ins _ _, .dk _ => true
  | .ins _ a, .ins _ b => !(a.map (·.1) == b.map (·.1))
  | _, _ => false
mutual
def sep (x : D) : D → Bool
  | .lst l => difT x (.lst l) && seps x l
  | .dk l => difT x (.dk l) && sepk x l
  | .tup l => seps x l
  | .ktp l => seps x l
  | .ins C l => difT x (.ins C l) && sepf x l
  | .scr _ => false
  | _ => true
def seps (x : D) : List D → Bool
  | [] => true
  | d :: r => sep x d && seps x r
def sepf (x : D) : List (Str × D) → Bool
  | [] => true
  | (_, d) :: r => sep x d && sepf x r
def sepk (x : D) : List (Key × D) → Bool
  | [] => true
  | (_, d) :: r => sep x d && sepk x r
end
theorem Reps.len {K : PySem.W.Frag} {F : Hp} : ∀ {vs : List V} {ds : List D}, Reps K F vs ds → vs.length = ds.length
  | _, _, .nil => rfl
  | _, _, .cons _ r => by rw [List.length_cons, List.length_cons, Reps.len r]
theorem difT_lst {K : PySem.W.Frag} {F : Hp} {vs : List V} {l : List D} {o : HO} {x : D} (ho : o = .lst vs) (r : ORep K F o x) (rl : Reps K F vs l) : difT x (.lst l) = false := by
  cases r with
  | lst rd =>
    cases ho
    have e1 := rd.len
    have e2 := rl.len
    cases rd with
    | nil => cases rl; rfl
    | cons h1 _ => cases rl with
      | cons h2 _ =>
        show (!(List.length _ == List.length _) || difK _ _) = false
        rw [difK_no h1 h2, ← e1, ← e2]
        simp
  | dk _ => cases ho
  | ins _ => cases ho
theorem difT_dk {K : PySem.W.Frag} {F : Hp} {vs : List (Key × V)} {l : List (Key × D)} {o : HO} {x : D} (ho : o = .dK vs) (r : ORep K F o x) : difT x (.dk l) = false := by
  cases r with
  | lst rd => cases ho
  | dk _ => rfl
  | ins _ => cases ho
theorem RepF.names {K : PySem.W.Frag} {F : Hp} : ∀ {vs : List (Str × V)} {ds : List (Str × D)}, RepF K F vs ds → vs.map (·.1) = ds.map (·.1)
  | _, _, .nil => rfl
  | _, _, .cons _ r => by rw [List.map_cons, List.map_cons, RepF.names r]
theorem difT_ins {K : PySem.W.Frag} {F : Hp} {C dx : Addr} {vs : List (Str × V)} {C' : Addr} {l : List (Str × D)} {o : HO} {x : D} (ho : o = .ins C dx vs) (r : ORep K F o x) (rl : RepF K F vs l) : difT x (.ins C' l) = false := by
  cases r with
  | lst rd => cases ho
  | dk _ => cases ho
  | ins rd =>
    cases ho
    show (!(_ == _)) = false
    rw [← rd.names, rl.names]
    simp
/-- F' is F without some changeable things, each with data -/
structure CutS (K : PySem.W.Frag) (F F' : Hp) (xs : List D) : Prop where
  cut : ∀ p o, F p = some o → F' p = some o ∨ (isLst o = true ∧ ∃ x ∈ xs, ORep K F o x)
section
variable {K : PySem.W.Frag} {F F' : Hp} {xs : List D}
theorem CutS.keep (c : CutS K F F' xs) : ∀ p o, F p = some o → isLst o = false → F' p = some o := fun p o e q => (c.cut p o e).elim id fun z => by rw [z.1] at q; cases q
mutual
theorem Rep.cutS (c : CutS K F F' xs) : ∀ {v : V} {d : D}, xs.all (fun x => sep x d) = true → Rep K F v d → Rep K F' v d
  | _, _, _, .non => .non
  | _, _, _, .bl => .bl
  | _, _, _, .int => .int
  | _, _, _, .str => .str
  | _, _, e, .tup h r => .tup (c.keep _ _ h rfl) (Reps.cutS c (by simpa [sep] using e) r)
  | _, _, e, .ktp h r => .ktp (SqT.keep c.keep h) (Reps.cutS c (by simpa [sep] using e) r)
  | _, _, e, .lst h r => by
    simp only [sep, List.all_eq_true, Bool.and_eq_true] at e
    refine .lst ((c.cut _ _ h).elim id fun ⟨_, x, hx, z⟩ => ?_) (Reps.cutS c (List.all_eq_true.mpr fun x hx => (e x hx).2) r)
    have := (e x hx).1
    rw [difT_lst rfl z r] at this
    cases this
  | _, _, e, .ins h r => by
    simp only [sep, List.all_eq_true, Bool.and_eq_true] at e
    refine .ins ((c.cut _ _ h).elim id fun ⟨_, x, hx, z⟩ => ?_) (RepF.cutS c (List.all_eq_true.mpr fun x hx => (e x hx).2) r)
    have := (e x hx).1
    rw [difT_ins rfl z r] at this
    cases this
  | _, _, e, .dk h r => by
    simp only [sep, List.all_eq_true, Bool.and_eq_true] at e
    refine .dk ((c.cut _ _ h).elim id fun ⟨_, x, hx, z⟩ => ?_) (RepK.cutS c (List.all_eq_true.mpr fun x hx => (e x hx).2) r)
    have := (e x hx).1
    rw [difT_dk rfl z] at this
    cases this
  | _, _, _, .cls => .cls
  | _, _, _, .bty => .bty
  | _, _, e, .scr h => by
    cases xs with
    | nil => exact .scr (Same.seq (fun p o q => (c.cut p o q).elim id fun z => by simp at z) h)
    | cons x r => simp [sep] at e
theorem Reps.cutS (c : CutS K F F' xs) : ∀ {v : List V} {d : List D}, xs.all (fun x => seps x d) = true → Reps K F v d → Reps K F' v d
  | _, _, _, .nil => .nil
  | _, _, e, .cons h r => by
    simp only [seps, List.all_eq_true, Bool.and_eq_true] at e
    exact .cons (Rep.cutS c (List.all_eq_true.mpr fun x hx => (e x hx).1) h) (Reps.cutS c (List.all_eq_true.mpr fun x hx => (e x hx).2) r)
theorem RepF.cutS (c : CutS K F F' xs) : ∀ {v : List (Str × V)} {d : List (Str × D)}, xs.all (fun x => sepf x d) = true → RepF K F v d → RepF K F' v d
  | _, _, _, .nil => .nil
  | _, _, e, .cons h r => by
    simp only [sepf, List.all_eq_true, Bool.and_eq_true] at e
    exact .cons (Rep.cutS c (List.all_eq_true.mpr fun x hx => (e x hx).1) h) (RepF.cutS c (List.all_eq_true.mpr fun x hx => (e x hx).2) r)
theorem RepK.cutS (c : CutS K F F' xs) : ∀ {v : List (Key × V)} {d : List (Key × D)}, xs.all (fun x => sepk x d) = true → RepK K F v d → RepK K F' v d
  | _, _, _, .nil => .nil
  | _, _, e, .cons h r => by
    simp only [sepk, List.all_eq_true, Bool.and_eq_true] at e
    exact .cons (Rep.cutS c (List.all_eq_true.mpr fun x hx => (e x hx).1) h) (RepK.cutS c (List.all_eq_true.mpr fun x hx => (e x hx).2) r)
end
end
/-- the contents of boxes -/
def bxD : List D → List D
  | .box d :: ds => d :: bxD ds
  | _ :: ds => bxD ds
  | [] => []
def bxDo : D → List D
  | .lst ds => bxD ds
  | .ins _ gs => bxD (gs.map (·.2))
  | _ => []
theorem bxs_at {K : PySem.W.Frag} {F H : Hp} : ∀ {vs : List V} {ds : List D}, BReps K F H vs ds → ∀ a ∈ bxs vs ds, ∃ o d, d ∈ bxD ds ∧ H a = some o ∧ ORep K F o d
  | _, _, .nil, a, m => nomatch m
  | _, _, .cons (v := v) (d := d) (ds := ds) h r, a, m => by
    have keep : ∀ x ∈ bxD ds, x ∈ bxD (d :: ds) := fun x hx => by
      cases d with
      | box d => exact List.mem_cons_of_mem _ hx
      | _ => exact hx
    unfold bxs at m
    rcases List.mem_append.mp m with m | m
    · cases h with
      | d h => rw [h.nobox] at m; cases m
      | box h1 h2 h3 =>
        rw [List.mem_singleton.mp m]
        exact ⟨_, _, List.mem_cons_self, h2, h3⟩
    · obtain ⟨o, d', h1, h2, h3⟩ := bxs_at r a m
      exact ⟨o, d', keep d' h1, h2, h3⟩
theorem bx_at {K : PySem.W.Frag} {F H : Hp} {o : HO} {d : D} (h : TRep K F H o d) : ∀ a ∈ bx o d, ∃ u x, x ∈ bxDo d ∧ H a = some u ∧ ORep K F u x := by
  cases h with
  | lst r => exact bxs_at r
  | ins e r => exact bxs_at r
/-- the own things of a slot -/
def ownD : Option (Option S) → List D
  | some (some (.own _ x)) => [x]
  | some (some (.tre _ x)) => ub x :: bxDo x
  | _ => []
/-- the own things of a def but those at some slots -/
def ownsBut (is : List Nat) (ρ : Env) : List D := (List.range ρ.length).flatMap fun i => if i ∈ is then [] else ownD ρ[i]?
theorem owns_mem {is : List Nat} {ρ : Env} {i : Nat} {s : S} {x : D} (h : ρ[i]? = some (some s)) (n : i ∉ is) (m : x ∈ ownD (some (some s))) : x ∈ ownsBut is ρ :=
  List.mem_flatMap.mpr ⟨i, List.mem_range.mpr (List.getElem?_eq_some_iff.mp h).1, by rw [if_neg n, h]; exact m⟩
def datR : Res → Option D
  | .d x => some x
  | _ => none
/-- a call of a def with own lists, whose result has things of another kind -/
def eCallS (fm : FM) (dds : List D) (fa : AM) : EM := fun ρ => (fa ρ).bind fun p => if (ios p.1).Nodup ∧ okOs p.1 (ios p.1) = true then (argsOf p.2 p.1).bind fun as => (fm (as ++ dds.map A.v)).bind fun r =>
  (putOuts p.1 r.2 p.2).bind fun ρ2 => (datR r.1).bind fun x => if r.2.all lfo = true ∧ (ownsBut (ios p.1) p.2).all (fun y => sep y x) = true then some (x, ρ2) else none
  else none
section
variable {K : PySem.W.Frag} {g : Gx} {F H F' H' : Hp} {σ : St} {ρ : Env}
theorem cutS_back (G : Gd K g F H σ ρ) {os : List Opd} {vs : List V} {as : List A} (r : OpdsOk K F σ vs os) (ea : argsOf ρ os = some as) {c : Bool}
    (post : Post K (lentP (fun i => c = true ∧ i ∉ ios os) σ ρ F H) H F' H' (adL (fpL H vs as))) : CutS K F' (backP (fun i => c = true ∧ i ∉ ios os) H σ ρ F') (ownsBut (ios os) ρ) := by
  have mem := ios_args r ea G
  refine ⟨fun p o e => ?_⟩
  by_cases h : ∃ i, (c = true ∧ i ∉ ios os) ∧ OwnAt H σ ρ i p
  · obtain ⟨i, ⟨hc, hn⟩, h⟩ := h
    obtain ⟨fl, ws, hl, hw, _⟩ := G.own h
    have z := post.sub _ _ e
    have nio : p ∉ adL (fpL H vs as) := fun hm => by
      obtain ⟨j, hj, oj⟩ := (mem p).mp hm
      rw [G.dist i j p h oj] at hn
      exact hn hj
    rw [post.keep _ _ hl nio] at z
    cases z
    have sm : Same F F' := fun b o e => post.ff _ _ (G.lentPF _ _ e)
    refine .inr ⟨hw, ?_⟩
    obtain ⟨k, e1, ⟨⟨t, xs, hx⟩, ea2⟩ | ⟨t, xs, o2, hx, ho2, m⟩⟩ := h
    · obtain ⟨l, vs', hv, _, _, hl', ro⟩ := G.slot i _ hx
      rw [e1] at hv; cases hv
      subst ea2
      rw [hl] at hl'; cases hl'
      exact ⟨xs, owns_mem hx hn (by simp [ownD]), ro.mono sm⟩
    · obtain ⟨l, vs', hv, _, _, hl', ro, _, _⟩ := G.slot i _ hx
      rw [e1] at hv; cases hv
      rw [ho2] at hl'; cases hl'
      rcases List.mem_cons.mp m with rfl | m
      · rw [ho2] at hl; cases hl
        refine ⟨ub xs, owns_mem hx hn (by simp [ownD]), ro.orep sm fun a ma => ?_⟩
        obtain ⟨_, u, hu, _⟩ := ro.at_ a ma
        rw [hu]
        refine post.ff _ _ ?_
        rw [lentP_at (P := fun i => c = true ∧ i ∉ ios os) ⟨hc, hn⟩ (.ofT e1 hx ho2 (List.mem_cons_of_mem _ ma))]
        exact hu
      · obtain ⟨u, x, hx2, hu, ro2⟩ := bx_at ro p m
        rw [hl] at hu; cases hu
        exact ⟨x, owns_mem hx hn (by simp [ownD, hx2]), ro2.mono sm⟩
  · left
    rw [backP_no (P := fun i => c = true ∧ i ∉ ios os) h]
    exact e
end
section
variable {X : Cx} {g : Gx} {CX : CXT} {k : Nat} {f : Addr} {fd : FuncData} {ps : List Str} {fm : FM} {dds : List D} {fa : AM} {ds : List Value} {dvs : List V} {E : XK}
theorem call_eS (hdd : ∀ F, Reps X.K F dvs dds) {σ : St} {H : Hp} {Q : VK} (q : tE X.K g (eCallS fm dds fa) σ H Q) : tCall (spF X.K fm) dvs E (tA X.K g fa) σ H Q := by
  obtain ⟨F, ρ, d, ρ', G, hf, q⟩ := q
  obtain ⟨p, e0, hm⟩ := bnd hf
  split at hm
  · rename_i hc
    obtain ⟨as, e1, hm⟩ := bnd hm
    obtain ⟨rr, e2, hm⟩ := bnd hm
    obtain ⟨ρ2, e3, hm⟩ := bnd hm
    obtain ⟨x, e4, hm⟩ := bnd hm
    split at hm
    · rename_i hl
      cases hm
      refine ⟨F, ρ, p.1, p.2, G, e0, fun vs F' H' G' s' r' => ?_⟩
      have ha := args_ok G' (is := ios p.1) (c := true) r' e1 hc.2 (fun _ h => h) (fun _ => rfl)
      refine ⟨_, _, rr.1, rr.2, ha.append (hdd _), ?_, G'.lentPH, e2, fun v F1 H2 post io ndo rs => ?_⟩
      · rw [fpL_append dds ha]; exact ios_nodup r' e1 G' hc.1
      · rw [fpL_append dds ha] at post
        obtain ⟨io', eo⟩ := iosOk_append dds ha io
        rw [eo] at ndo rs
        obtain ⟨G2, sF, rep, reps, trep, none⟩ := call_end G' r' e1 hc.1 (c := true) post io' ndo e3 fun _ xs hx => List.all_eq_true.mp hl.1 xs hx
        have cs := cutS_back G' r' e1 (c := true) post
        cases e : rr.1 with
        | d y =>
          rw [e] at rs e4
          cases e4
          exact q v _ H2 G2 (s'.trans sF) (Rep.cutS cs hl.2 rs)
        | n y => rw [e] at e4; cases e4
        | r y => rw [e] at e4; cases e4
    · cases hm
  · cases hm
variable {x : Str} {e : Expr} {es : List Expr} {p pos : Pos}
theorem de_callS (Fk : FnOk X.prog X.w X.K X.mg X.base CX k f fd ps (spF X.K fm)) (hr : Room k X.A) (hg : Gl X x) (hm : X.mg x = some (.ref f)) (hk : PySem.W.keepIn X.K (.ref f) = true) (hb : Binds X.K fd ps ds) (hd : Vals dvs ds) (hdd : ∀ F, Reps X.K F dvs dds) (hx : Passes CX X E) (ha : DA X g (e :: es) fa) (hdb : (x == ("__debug__" : Str)) = false := by decide)
    (he : starEach (e :: es) X.env = (false, eval e X.env) :: starEach es X.env := by rfl) (hpl : (backTo pos (starEach es X.env)).any (·.1) = false := by rfl) : DE X g (.Call (.Name x p) (e :: es) [] pos) (eCallS fm dds fa) :=
  weakPE (pe_call Fk hr hg hm hk hb hd hx ha (hdb := hdb) (he := he) (hpl := hpl)) fun σ H Q q => call_eS hdd q
end
section
variable {fm : FM} {dds : List D} {a : AM} {ρ : Env} {Q : D × Env → Prop}
theorem x_eCallS : Ex (eCallS fm dds a ρ) Q = Ex (a ρ) fun p => ((ios p.1).Nodup ∧ okOs p.1 (ios p.1) = true) ∧ Ex (argsOf p.2 p.1) fun as => Ex (fm (as ++ dds.map A.v)) fun r => Ex (putOuts p.1 r.2 p.2) fun ρ2 => Ex (datR r.1) fun x =>
    (r.2.all lfo = true ∧ (ownsBut (ios p.1) p.2).all (fun y => sep y x) = true) ∧ Q (x, ρ2) := by
  simp only [ex_eq]
  unfold eCallS; simp only [ex0_bind, ex0_guard, ex0_some]
end
/-! ### a fresh list that is changed and dropped -/
def sDrop (f : NM) : SM := fun ρ => (f ρ).bind fun p => match p.1 with
  | .lst xs => if xs.length < 16777216 then some (.nx, p.2) else none
  | _ => none
/-- any value, the old things as they were -/
def tQ : TE := fun σ H Q => ∀ v H', Same H H' → Q v H'
section
variable {X : Cx} {g : Gx} {e ex a b : Expr} {fn : NM} {pos : Pos} {x1 : Nat}
theorem q_c {v : V} (h : PE X e (tC v)) : PE X e tQ := weakPE h fun σ H Q q => q v H (Same.refl _)
theorem q_tup2 (ha : PE X a tQ) (hb : PE X b tQ) (h1 : starEach [a, b] X.env = (false, eval a X.env) :: starEach [b] X.env := by rfl) (h2 : starEach [b] X.env = (false, eval b X.env) :: starEach [] X.env := by rfl) : PE X (.Tuple [a, b] x1 pos) tQ := weakPE (pe_tup (pa_cons ha (pa_cons hb pa_nil (hs := h2)) (hs := h1))) fun σ H Q q => by
  intro v H1 s1 u H2 s2
  refine ⟨by rw [sizeLine_eq]; simp, fun p hp => q _ _ ((s1.trans s2).trans fun b o e => by rw [upd_ne (ne_of_none e hp)]; exact e)⟩
theorem ds_drop0 {k : List V → List V} (h : PE X ex (tBM0 X.K "list" (rLst0 k) (tN X.K g fn))) (hs : swapsWith ex none pos.line X.env = pure false := by rfl) :
    DS X g (.Expr ex pos) (sDrop fn) := weakPS (ps_expr h hs) fun D σ H ⟨F, ρ, out, ρ', G, hf, q⟩ => by
  obtain ⟨p, e1, hf⟩ := bnd hf
  split at hf
  · rename_i xs hx
    split at hf
    · cases hf
      refine ⟨F, ρ, p.1, p.2, G, e1, fun l o F1 H1 G1 s1 hl hf hn hp no r => ?_⟩
      rw [hx] at r
      obtain ⟨vs, rfl, r2⟩ := ownLst r
      exact ⟨.inl ⟨rfl, _, SqL.of hl⟩, l, vs, rfl, rfl, hl, q σ F1 _ (G1.updFree hf hn hp no) s1⟩
    · cases hf
  · cases hf
theorem ds_dropA (h : PE X ex (tBM X.K "list" rAppend (tN X.K g fn) (tCons tQ tNil))) (hs : swapsWith ex none pos.line X.env = pure false := by rfl) :
    DS X g (.Expr ex pos) (sDrop fn) := weakPS (ps_expr h hs) fun D σ H ⟨F, ρ, out, ρ', G, hf, q⟩ => by
  obtain ⟨p, e1, hf⟩ := bnd hf
  split at hf
  · rename_i xs hx
    split at hf
    · rename_i hl'
      cases hf
      refine ⟨F, ρ, p.1, p.2, G, e1, fun l o F1 H1 G1 s1 hl hf hn hp no r => ?_⟩
      rw [hx] at r
      obtain ⟨vs, rfl, r2⟩ := ownLst r
      refine ⟨.inl ⟨rfl, _, SqL.of hl⟩, fun v H2 s2 => ?_⟩
      have G2 : Gd X.K g F1 H2 σ p.2 := G1.ext ⟨s2, Same.refl _, G1.sub.trans s2, fun _ _ z => .inl z⟩
      exact ⟨l, vs, v, rfl, rfl, s2 _ _ hl, by rw [r2.length, sizeLine_eq]; exact hl', q σ F1 _ (G2.updFree hf hn hp fun j z => no j (G1.ownExt s2 z)) s1⟩
    · cases hf
  · cases hf
end
section
variable {fn : NM} {ρ : Env} {Q : Out × Env → Prop}
theorem x_sDrop : Ex (sDrop fn ρ) Q = Ex (fn ρ) fun p => ∃ xs, p.1 = .lst xs ∧ xs.length < 16777216 ∧ Q (.nx, p.2) := by
  simp only [ex_eq]
  unfold sDrop
  rw [ex0_bind]
  congr 1
  funext p
  cases hp : p.1 <;> simp [ex0_guard, ex0_some, Ex0]
  exact ⟨fun ⟨_, _, ⟨h, e1, e2⟩, q⟩ => by subst e1 e2; exact ⟨h, q⟩, fun ⟨h, q⟩ => ⟨_, _, ⟨h, rfl, rfl⟩, q⟩⟩
end
/-! ### list * int -/
def kRep : D → D → Option D
  | .lst l, .int k => if -(2 ^ 63) ≤ k ∧ k < 2 ^ 63 ∧ l.length * k.toNat ≤ 16777216 then some (.lst (List.replicate k.toNat l).flatten) else none
  | _, _ => none
theorem Reps.rep {K : PySem.W.Frag} {F : Hp} {vs : List V} {ds : List D} (r : Reps K F vs ds) : ∀ n : Nat, Reps K F (List.replicate n vs).flatten (List.replicate n ds).flatten
  | 0 => .nil
  | n + 1 => by
    rw [List.replicate_succ, List.replicate_succ, List.flatten_cons, List.flatten_cons]
    exact r.append (Reps.rep r n)
theorem ok_rep {K : PySem.W.Frag} : Op2 K rRep kRep := by
  intro F H v u a b c Q s ra rb e q
  unfold kRep at e
  split at e
  · rename_i l k
    split at e
    · rename_i hc
      cases e
      cases ra with
      | @lst _ vs _ h r =>
        cases rb with
        | int =>
          refine ⟨_, _, _, rfl, rfl, s _ _ h, hc.1, hc.2.1, by rw [r.len, sizeLine_eq]; exact hc.2.2, fun p hp => ?_⟩
          have x := Ext.alloc s hp (.lst (List.replicate k.toNat vs).flatten)
          exact q _ _ _ x (.lst upd_same ((r.rep k.toNat).mono x.ff))
    · cases e
  · cases e
end L3

namespace L3
open PySem L2
def nT (m : Int) : PySem.Str := Str.ofString (toString m)
def pT (p : Int × Int) : PySem.Str := nT p.1 ++ Str.ofString "," ++ nT p.2
theorem nT_len {m : Int} (h : m.natAbs < 10 ^ 40) : (nT m).length ≤ 41 := by
  have e := int_text_length_le10 (k := 40) (by decide) h
  unfold nT
  rw [ofString_length]
  exact e
theorem smallI_of {m : Int} (h : m.natAbs < 10 ^ 40) : smallI m = true := by
  refine decide_eq_true ?_
  by_cases h0 : m.natAbs = 0
  · rw [h0]; decide
  · refine (Nat.log2_lt h0).mpr (Nat.lt_trans h ?_)
    decide +kernel
theorem x_jsN {acc : PySem.Str} {ρ : Env} {Q : D × Env → Prop} : Ex (jsLoop [] acc ρ) Q = Q (.str acc, ρ) := ex_some
theorem x_jsC {f : EM} {fs : List EM} {acc : PySem.Str} {ρ : Env} {Q : D × Env → Prop} : Ex (jsLoop (f :: fs) acc ρ) Q = Ex (f ρ) fun p => Ex (strD p.1) fun y => (acc ++ y).length ≤ 16777216 ∧ Ex (jsLoop fs (acc ++ y) p.2) Q := by
  simp only [ex_eq]
  rw [show jsLoop (f :: fs) acc ρ = (f ρ).bind fun p => (strD p.1).bind fun y => if (acc ++ y).length ≤ 16777216 then jsLoop fs (acc ++ y) p.2 else none from rfl]
  simp only [ex0_bind, ex0_guard]
theorem x_fmtI {i : Int} {Q : D → Prop} : Ex (kFmt (.int i)) Q = (smallI i = true ∧ Q (.str (nT i))) := by
  unfold kFmt
  simp only [ex_guard, ex_some]
  rfl
theorem x_fmtS {y : PySem.Str} {Q : D → Prop} : Ex (kFmt (.str y)) Q = (y.length ≤ 16777216 ∧ Q (.str y)) := by
  unfold kFmt
  simp only [ex_guard, ex_some]
theorem strD_s {y : PySem.Str} : strD (.str y) = some y := rfl
theorem lf_s {y : PySem.Str} : lf (.str y) = true := rfl
theorem strsOf_map {α : Type} {f : α → PySem.Str} : ∀ (l : List α), strsOf (l.map fun x => D.str (f x)) = some (l.map f)
  | [] => rfl
  | a :: l => by
    show (strsOf (l.map fun x => D.str (f x))).bind _ = _
    rw [strsOf_map l]
    rfl
theorem sum_le {α : Type} {f : α → Nat} {b : Nat} : ∀ {l : List α}, (∀ x ∈ l, f x ≤ b) → (l.map f).sum ≤ l.length * b
  | [], _ => by simp
  | a :: l, h => by
    have := sum_le (l := l) fun x hx => h x (List.mem_cons_of_mem _ hx)
    have := h a List.mem_cons_self
    rw [List.map_cons, List.sum_cons, List.length_cons, Nat.succ_mul]
    omega
theorem ofS_len {s : String} : (Str.ofString s).length = s.length := ofString_length s
theorem x_eJs {fs : List EM} {ρ : Env} {Q : D × Env → Prop} : Ex (eJs fs ρ) Q = Ex (jsLoop fs Str.empty ρ) Q := rfl
theorem okT_of (s : String) : PyData.strOk (Str.ofString s) = true := by
  rw [Str.ofString_eq_toList]
  unfold PyData.strOk
  rw [← Array.all_toList]
  show ((s.toList.map Char.toNat)).all _ = true
  rw [List.all_map, List.all_eq_true]
  intro c _
  refine decide_eq_true ?_
  have := c.valid
  show c.toNat < _
  unfold Char.toNat
  rcases this with h | h
  · have h' : c.val.toNat < 0xd800 := h
    omega
  · exact h.2
theorem okT_app {a b : PySem.Str} (ha : PyData.strOk a = true) (hb : PyData.strOk b = true) : PyData.strOk (a ++ b) = true := by
  unfold PyData.strOk at *
  rw [Str.cps_append, Array.all_append, ha, hb]; rfl
theorem okT_join {s : PySem.Str} (hs : PyData.strOk s = true) : ∀ {l : List PySem.Str}, (∀ x ∈ l, PyData.strOk x = true) → PyData.strOk (Str.join s l) = true
  | [], _ => by first | exact okT_of "" | (unfold Str.join; decide) | (unfold Str.join; exact okT_of "")
  | [x], h => h x List.mem_cons_self
  | x :: y :: r, h => okT_app (okT_app (h x List.mem_cons_self) hs) (okT_join hs fun z hz => h z (List.mem_cons_of_mem _ hz))
theorem okT_num (m : Int) : PyData.strOk (nT m) = true := okT_of _
theorem shS {k : Nat} {x : PySem.Str} (h : PyData.strOk x = true) : sh k (.str x) = true := by
  cases k <;> (unfold sh; unfold PyData.canLay0; exact h)
mutual
theorem dEq_refl : ∀ {k : Nat} {d : D}, sh k d = true → dEq d d = true
  | _, .non, _ => by simp only [dEq]
  | _, .bl _, _ => by simp only [dEq, beq_self_eq_true]
  | _, .int _, _ => by simp only [dEq, decide_true]
  | _, .str _, _ => by simp only [dEq, beq_self_eq_true]
  | k + 1, .tup l, h => by
    unfold sh at h
    simp only [dEq]
    exact dEqs_refl h
  | k + 1, .ktp l, h => by
    unfold sh at h
    simp only [dEq]
    exact dEqs_refl h
  | k + 1, .lst l, h => by
    unfold sh at h
    simp only [dEq]
    exact dEqs_refl h
  | 0, .tup _, h => by simp [sh] at h
  | 0, .ktp _, h => by simp [sh] at h
  | 0, .lst _, h => by simp [sh] at h
  | 0, .dk _, h => by simp [sh] at h
  | _ + 1, .dk _, h => by simp [sh] at h
  | 0, .box _, h => by simp [sh] at h
  | _ + 1, .box _, h => by simp [sh] at h
  | 0, .ins _ _, h => by simp [sh] at h
  | _ + 1, .ins _ _, h => by simp [sh] at h
  | 0, .cls _, h => by simp [sh] at h
  | _ + 1, .cls _, h => by simp [sh] at h
  | 0, .bty _, h => by simp [sh] at h
  | _ + 1, .bty _, h => by simp [sh] at h
  | 0, .scr _, h => by simp [sh] at h
  | _ + 1, .scr _, h => by simp [sh] at h
theorem dEqs_refl : ∀ {k : Nat} {l : List D}, l.all (sh k) = true → dEqs l l = true
  | _, [], _ => by simp only [dEqs]
  | k, d :: l, h => by
    rw [List.all_cons, Bool.and_eq_true] at h
    simp only [dEqs, dEq_refl h.1, dEqs_refl h.2, Bool.and_self]
end
theorem kNe_refl {d : D} (h : sh 64 d = true) : kNe d d = some (.bl false) := by rw [kNe_sh h h, dEq_refl h]; rfl
theorem kEq_refl {d : D} (h : sh 64 d = true) : kEq d d = some (.bl true) := by rw [kEq_sh h h, dEq_refl h]
theorem nodup_sub {α : Type} [DecidableEq α] : ∀ {l m : List α}, l.Nodup → (∀ x ∈ l, x ∈ m) → l.length ≤ m.length
  | [], _, _, _ => Nat.zero_le _
  | x :: l, m, nd, h => by
    have hx := h x List.mem_cons_self
    have nd' := List.nodup_cons.mp nd
    have e := List.length_erase_of_mem hx
    have := nodup_sub (l := l) (m := m.erase x) nd'.2 fun y hy => (List.mem_erase_of_ne (by intro c; subst c; exact nd'.1 hy)).mpr (h y (List.mem_cons_of_mem _ hy))
    have hp : 0 < m.length := List.length_pos_of_mem hx
    rw [List.length_cons]
    omega
end L3

namespace L3
open PySem L2
/-! ### an item of an own list, whatever it is -/
def intD : D → Option Int
  | .int k => some k
  | _ => none
def eIxO (i : Nat) (f : EM) : EM := fun ρ => if isOwn ρ i = true then (f ρ).bind fun p => (ownL p.2 i).bind fun w => (intD p.1).bind fun k => (atI w.2 k).bind fun x => some (x, p.2) else none
theorem ownL_own {ρ : Env} {i : Nat} {w : Option Nat × List D} (h : ownL ρ i = some w) : ρ[i]? = some (some (.own w.1 (.lst w.2))) := by
  unfold ownL at h
  split at h
  · rename_i t xs e
    cases h
    exact e
  · cases h
section
variable {X : Cx} {g : Gx} {a b : Expr} {f : EM} {i : Nat} {pos : Pos}
theorem de_ixO (ha : PE X a (tVar i)) (hb : DE X g b f) (hs : PlainIx b := by exact fun _ _ => rfl) : DE X g (.Subscript a b pos) (eIxO i f) :=
  weakPE (pe_ix ix_seq ha hb hs) fun σ H Q ⟨F, ρ, d, ρ', G, hf, q⟩ => by
  unfold eIxO at hf
  split at hf
  · rename_i ho
    obtain ⟨p, e1, hf⟩ := bnd hf
    obtain ⟨w, e2, hf⟩ := bnd hf
    obtain ⟨k, e3, hf⟩ := bnd hf
    obtain ⟨x, e4, hf⟩ := bnd hf
    cases hf
    obtain ⟨l, hv⟩ := isOwn_at G ho
    refine ⟨_, hv, F, ρ, p.1, p.2, G, e1, fun u F1 H1 G1 s1 r1 => ?_⟩
    obtain ⟨l', o, hv', _, _, hl, r2⟩ := G1.slot i _ (ownL_own e2)
    rw [hv] at hv'
    cases hv'
    obtain ⟨vs, rfl, r3⟩ := ownLst r2
    obtain ⟨y, e5, r4⟩ := atI_rep r3 e4
    have hk : p.1 = .int k := by
      unfold intD at e3
      split at e3
      · rename_i h; cases e3; exact h
      · cases e3
    rw [hk] at r1
    cases r1
    exact .inl ⟨_, _, _, _, rfl, rfl, SqL.of hl, e5, q _ F1 H1 G1 s1 r4⟩
  · cases hf
end
theorem intD_i {k : Int} : intD (.int k) = some k := rfl
theorem x_eIxO {i : Nat} {f : EM} {ρ : Env} {Q : D × Env → Prop} : Ex (eIxO i f ρ) Q = (isOwn ρ i = true ∧ Ex (f ρ) fun p => Ex (ownL p.2 i) fun w => Ex (intD p.1) fun k => Ex (atI w.2 k) fun x => Q (x, p.2)) := by
  simp only [ex_eq]
  unfold eIxO
  simp only [ex0_bind, ex0_guard, ex0_some]
theorem datR_d {x : D} : datR (.d x) = some x := rfl
end L3

/-! dicts merged: {.., **d}, f(.., **d), at the level of the heap -/
namespace KwX
open PySem PySem.Spec PyProof.Rows L2
section
variable {prog : Program} {w : World} {K : Type} [DecidableEq K] {knd : KeyKind prog w K} {A : Around} {E : Value → Shared → Prop} {s : Shared}
theorem wp_dictPut {d : Addr} {kvs : List (K × Value)} {k : K} {key v : Value} {Q : Unit → Shared → Prop} (hkey : knd.is k key = true) (hm : s.heap.DictOf knd d kvs)
    (hQ : ∀ h', h'.DictOf knd d (stored kvs k v) → Heap.SameBut d s.heap h' → Q () { s with heap := h' }) (hsz : kvs.length ≤ sizeLine) :
    wpAny (model prog w) A (dictPut d (knd.hash k) key v) Q E s := by
  obtain ⟨o, es, ep, ho, hc, hd, hk, hp, hn⟩ := hm
  have hes : es.size ≤ sizeLine := by have e1 := hp.length; have e2 : es.toList.length = es.size := by simp
                                      omega
  unfold dictPut
  refine wpAny_bind (wpAny_dictFind_of hkey ho hd hk ?_)
  have hidx : (es.findIdx? fun e => knd.is k e.key) = kvs.findIdx? fun kv => decide (kv.1 = k) := by
    rw [← hp.findIdx k]; obtain ⟨l⟩ := es; simp
  cases hi : es.findIdx? fun e => knd.is k e.key with
  | some i =>
    refine wpAny_updateDict ho hd (hQ _ ⟨_, _, ep, Heap.get?_update_self _ ho (Obj.isFreed_of_dict (Obj.data_mapDict hd _)),
      hc.mapDict _, Obj.data_mapDict hd _, hk.modify _ _, ?_, ?_⟩ (Heap.SameBut.update ..))
    · rw [stored, if_pos (any_of_findIdx_some (hidx ▸ hi))]
      have hl : (es.toList.findIdx? fun e => knd.is k e.key) = some i := by rw [← hi]; obtain ⟨l⟩ := es; simp
      have := hp.modify hn hl v
      obtain ⟨l⟩ := es
      simpa using this
    · rw [stored, if_pos (any_of_findIdx_some (hidx ▸ hi)), keys_map_store]; exact hn
  | none =>
    have hnot : k ∉ kvs.map (·.1) := not_mem_of_findIdx_none (hidx ▸ hi)
    have hany : ¬ (kvs.any fun kv => decide (kv.1 = k)) = true := by
      rw [List.any_eq_true]; rintro ⟨kv, hkv, he⟩
      exact hnot (List.mem_map.mpr ⟨kv, hkv, of_decide_eq_true he⟩)
    refine wpAny_updateDictKeys (hz := hes) ho hd (hQ _ ⟨_, _, ep + 1, Heap.get?_update_self _ ho (Obj.isFreed_of_dict (Obj.data_mapDictKeys hd _)),
      hc.mapDictKeys _, Obj.data_mapDictKeys hd _, hk.push hkey _, ?_, ?_⟩ (Heap.SameBut.update ..))
    · rw [stored, if_neg hany]
      have := hp.append hkey (knd.hash k) v
      obtain ⟨l⟩ := es
      simpa using this
    · rw [stored, if_neg hany, List.map_append, List.nodup_append]
      refine ⟨hn, by simp, ?_⟩
      intro a ha b hb
      simp only [List.map_cons, List.map_nil, List.mem_singleton] at hb
      subst hb
      exact fun e => hnot (e ▸ ha)
theorem wp_dictFind_no {d : Addr} {kvs : List (K × Value)} {k : K} {key : Value} {Q : Option Nat → Shared → Prop} (hkey : knd.is k key = true) (hm : s.heap.DictOf knd d kvs) (hn : k ∉ kvs.map (·.1)) (hQ : Q none s) : wpAny (model prog w) A (dictFind d key (knd.hash k)) Q E s := by
  obtain ⟨o, es, ep, ho, hc, hd, hk, hp, hnd⟩ := hm
  refine wpAny_dictFind_of hkey ho hd hk ?_
  have hidx : (es.findIdx? fun e => knd.is k e.key) = kvs.findIdx? fun kv => decide (kv.1 = k) := by
    rw [← hp.findIdx k]; obtain ⟨l⟩ := es; simp
  have : (kvs.findIdx? fun kv => decide (kv.1 = k)) = none := by
    rw [List.findIdx?_eq_none_iff]
    intro x hx
    refine decide_eq_false fun e => hn ?_
    exact List.mem_map.mpr ⟨x, hx, e⟩
  rw [hidx, this]
  exact hQ
end
section
variable {prog : Program} {w : World} {A : Around} {E : Value → Shared → Prop} {s : Shared}
theorem notRef {k : Key} {v : Value} (h : (mixKind prog w).is k v = true) : ∀ a, v ≠ .ref a := by
  intro a e
  rcases keyIs_shape h with ⟨i, t, _, rfl⟩ | ⟨x, t, _, rfl⟩ <;> cases e
theorem wp_merge {d o : Addr} {kvs more : List (Key × Value)} {u : Bool} {Q : Unit → Shared → Prop} (hdo : d ≠ o) (hoS : (o == sysModules) = false)
    (hd : s.heap.DictOf (mixKind prog w) d kvs) (ho : s.heap.DictOf (mixKind prog w) o more) (hu : u = true → kvs = [])
    (hQ : ∀ h', h'.DictOf (mixKind prog w) d (merged kvs more) → Heap.SameBut d s.heap h' → Q () { s with heap := h' }) (hsz : kvs.length + more.length ≤ sizeLine) :
    wpAny (model prog w) A (mergeMapping d (.ref o) u) Q E s := by
  have hT : s.TypeIs (.ref o) "dict" := ho.typeIs
  obtain ⟨od, esd, epd, hod, hcd, hdd, hkd, hpd, hnd⟩ := id hd
  obtain ⟨oo, eso, epo, hoo, hco, hdo', hko, hpo, hno⟩ := id ho
  have hlen : more.length = eso.size := by rw [← hpo.length]; simp
  unfold mergeMapping
  refine wpAny_bind (wpAny_isInstance (U := "dict") (b := true) hT (by rfl) ?_)
  dsimp only
  rw [if_pos rfl]
  refine wpAny_bind (wpAny_specialOf hT PySem.F.slot_dict_iter.lookup ?_)
  refine wpAny_bind (wpAny_pure ?_)
  rw [show ((some (Value.builtin "dict.__iter__") : Option Value) == some (.builtin "dict.__iter__")) = true from by rfl]
  dsimp only
  rw [if_neg (by rw [hoS]; exact Bool.false_ne_true)]
  have loop : wpAny (model prog w) A (do
      let l ← dictEntries o
      let epoch ← dictEpoch o
      forIn (List.range l.size) PUnit.unit fun i (_ : PUnit) => (do
          let l' ← dictEntries o
          match l'[i]? with
            | some e => do
              holding [e.key, e.val]
                  (if u = true then do
                    let f ← dictFind d e.key e.hash
                    if f.isSome = true then do
                        rule "dict.merge.duplicate-key"
                        let x ← newExc (Value.type "KeyError") [e.key]
                        raiseNew x
                        dictPut d e.hash e.key e.val
                      else dictPut d e.hash e.key e.val
                  else dictPut d e.hash e.key e.val)
              let ep' ← dictEpoch o
              if (ep' != epoch) = true then do
                  (unsupported "dict.changed-during-merge" : Sem PUnit)
                  pure (ForInStep.yield PUnit.unit)
                else pure (ForInStep.yield PUnit.unit)
            | _ => do
              (unsupported "dict.changed-during-merge" : Sem PUnit)
              pure (ForInStep.yield PUnit.unit) : Sem (ForInStep PUnit))
      pure ()) Q E s := by
    refine wpAny_bind (wpAny_dictEntries hoo hdo' ?_)
    refine wpAny_bind (wpAny_dictEpoch hoo hdo' ?_)
    refine wpAny_bind ?_
    rw [List.range_eq_range']
    refine wpAny_forIn_list _
      (fun rest _ s' => ∃ h' i, s' = { s with heap := h' } ∧ rest = List.range' i (eso.size - i) ∧ i ≤ eso.size ∧ h'.DictOf (mixKind prog w) d (merged kvs (more.take i)) ∧ h'.get? o = some oo ∧ Heap.SameBut d s.heap h')
      _ ?_ ?_ _ _ ⟨s.heap, 0, rfl, by simp, Nat.zero_le _, by simpa [merged] using hd, hoo, Heap.SameBut.refl _ _⟩
    · rintro x rest b s' ⟨h', i, rfl, hr, hi, hd', hoo', hs'⟩
      have hlt : i < eso.size := by
        rcases Nat.lt_or_ge i eso.size with h | h
        · exact h
        · rw [Nat.sub_eq_zero_of_le h] at hr; simp at hr
      obtain ⟨rfl, hrest⟩ : x = i ∧ rest = List.range' (i + 1) (eso.size - (i + 1)) := by
        have e : eso.size - i = (eso.size - (i + 1)) + 1 := by omega
        rw [e, List.range'_succ] at hr
        injection hr with h1 h2
        exact ⟨h1, h2⟩
      refine wpAny_bind (wpAny_dictEntries hoo' hdo' ?_)
      rw [Array.getElem?_eq_getElem hlt]
      obtain ⟨kv, hkv⟩ : ∃ kv, more[x]? = some kv := ⟨more[x]'(by rw [hlen]; exact hlt), List.getElem?_eq_getElem _⟩
      obtain ⟨k, v⟩ := kv
      obtain ⟨hkey, hval⟩ := hpo.get? (e := eso[x]) (by simp [hlt]) hkv
      obtain ⟨k', hkey', hhash⟩ := hko eso[x] (Array.getElem_mem hlt)
      obtain rfl : k' = k := (mixKind prog w).inj _ _ _ hkey' hkey
      dsimp only
      have hmx : (merged kvs (more.take x)).length ≤ sizeLine := by
        have e1 := merged_length_le kvs (more.take x)
        have e2 : (more.take x).length ≤ more.length := by rw [List.length_take]; omega
        omega
      have put : ∀ {Q' : Unit → Shared → Prop}, (∀ h'', h''.DictOf (mixKind prog w) d (merged kvs (more.take (x + 1))) → h''.get? o = some oo → Heap.SameBut d s.heap h'' → Q' () { s with heap := h'' }) → wpAny (model prog w) A (dictPut d eso[x].hash eso[x].key eso[x].val) Q' E { s with heap := h' } := by
        intro Q' q
        rw [hhash, hval]
        refine wp_dictPut (hsz := hmx) hkey hd' fun h'' hd'' hs'' => ?_
        exact q h'' (by rw [merged_take_succ kvs more x (k', v) hkv]; exact hd'') ((hs''.2 o (Ne.symm hdo)).trans hoo') (hs'.trans hs'')
      refine wpAny_bind (wpAny_holding ?_)
      by_cases hu' : u = true
      · rw [if_pos hu']
        have hk0 := hu hu'
        subst hk0
        rw [hhash]
        refine wpAny_bind (wp_dictFind_no hkey hd' ?_ ?_)
        · rw [merged_nil_of_nodup _ (by
            rw [List.map_take]
            exact hno.sublist (List.take_sublist _ _))]
          intro hm
          obtain ⟨y, hy, ey⟩ := List.mem_map.mp hm
          obtain ⟨j, hj, hyj⟩ := List.getElem_of_mem hy
          rw [List.getElem_take] at hyj
          rw [List.length_take] at hj
          have h1 : (more.map (·.1))[j]? = some k' := by rw [List.getElem?_map, List.getElem?_eq_getElem (by omega), hyj]; simp [ey]
          have h2 : (more.map (·.1))[x]? = some k' := by rw [List.getElem?_map, hkv]; rfl
          have := (List.getElem?_inj (l := more.map (·.1)) (i := j) (j := x) (by rw [List.length_map]; omega) hno).mp (h1.trans h2.symm)
          omega
        · rw [if_neg (by simp)]
          rw [← hhash]
          refine put fun h'' hd'' hoo'' hs'' => ?_
          refine wpAny_bind (wpAny_dictEpoch hoo'' hdo' ?_)
          rw [if_neg (by simp)]
          exact wpAny_pure ⟨h'', x + 1, rfl, hrest, hlt, hd'', hoo'', hs''⟩
      · rw [if_neg hu']
        refine put fun h'' hd'' hoo'' hs'' => ?_
        refine wpAny_bind (wpAny_dictEpoch hoo'' hdo' ?_)
        rw [if_neg (by simp)]
        exact wpAny_pure ⟨h'', x + 1, rfl, hrest, hlt, hd'', hoo'', hs''⟩
    · rintro b s' ⟨h', i, rfl, hr, hi, hd', hoo', hs'⟩
      have hin : i = eso.size := by
        rcases Nat.lt_or_ge i eso.size with h | h
        · have e : eso.size - i = (eso.size - (i + 1)) + 1 := by omega
          rw [e, List.range'_succ] at hr; exact nomatch hr
        · exact Nat.le_antisymm hi h
      refine wpAny_pure (hQ h' ?_ hs')
      rw [hin, ← hlen, List.take_length] at hd'; exact hd'
  refine wpAny_bind (wpAny_dictEntries hod hdd ?_)
  by_cases hemp : esd.isEmpty = true
  · rw [if_pos hemp]
    refine wpAny_bind (wpAny_dictEntries hoo hdo' ?_)
    refine wpAny_bind ?_
    rw [← Array.forIn_toList]
    refine wpAny_forIn_list _ (fun rest _ s' => s' = s ∧ ∀ e ∈ rest, ∀ a, e.key ≠ .ref a) _ ?_ ?_ _ _ ⟨rfl, fun e he a ha => ?_⟩
    · rintro e rest b s' ⟨rfl, hr⟩
      have hne := hr e List.mem_cons_self
      have : ∀ {t : Addr → Sem (ForInStep PUnit)} {Q' : ForInStep PUnit → Shared → Prop}, Q' (.yield PUnit.unit) s' → wpAny (model prog w) A (match e.key with | Value.ref a => t a | _ => pure (ForInStep.yield PUnit.unit)) Q' E s' := by
        intro t Q' q
        split
        · rename_i a ha
          exact absurd ha (hne a)
        · exact wpAny_pure q
      exact this ⟨rfl, fun e' he' => hr e' (List.mem_cons_of_mem _ he')⟩
    · rintro b s' ⟨rfl, _⟩
      exact loop
    · have he' : e ∈ eso := by simpa using he
      obtain ⟨k, hk, _⟩ := hko e he'
      exact notRef hk a ha
  · rw [if_neg hemp]
    exact loop
end
end KwX

/-! ** in calls: a dict of texts as keywords -/
namespace KwX
open PySem PySem.Calls PyProof.Rows L2 PySem.W
section
variable {prog : Program} {w : World} {A : Around} {E : Value → Shared → Prop} {s : Shared}
theorem wp_keywordsIn {f : Value} {d : Addr} {kvs : List (L2.Key × Value)} {ks : List Str} {Q : List (Str × Value) → Shared → Prop} (hd : s.heap.DictOf (mixKind prog w) d kvs) (hk : kvs.map (·.1) = ks.map .inr)
    (hQ : Q (ks.zip (kvs.map (·.2))) s) : wpAny (model prog w) A (keywordsIn f d) Q E s := by
  obtain ⟨od, esd, epd, hod, hcd, hdd, hkd, hpd, hnd⟩ := id hd
  unfold keywordsIn
  refine wpAny_bind (wpAny_dictEntries hod hdd ?_)
  refine wpAny_bind ?_
  rw [← Array.forIn_toList]
  have hlen : esd.toList.length = kvs.length := by simpa using hpd.length
  have hkl : ks.length = kvs.length := by
    have := congrArg List.length hk
    simpa using this.symm
  have htot : esd.toList.length = (ks.zip (kvs.map (·.2))).length := by
    rw [List.length_zip, List.length_map, hlen, hkl]; omega
  refine wpAny_forIn_list _ (fun rest b s' => s' = s ∧ ∃ i, i ≤ esd.toList.length ∧ rest = esd.toList.drop i ∧ b = (ks.zip (kvs.map (·.2))).take i) _ ?_ ?_ _ _ ⟨rfl, 0, Nat.zero_le _, by simp, by simp⟩
  · rintro e rest b s' ⟨rfl, i, hi, hr, rfl⟩
    have hlt : i < esd.toList.length := by
      rcases Nat.lt_or_ge i esd.toList.length with h | h
      · exact h
      · rw [List.drop_eq_nil_of_le h] at hr; cases hr
    rw [List.drop_eq_getElem_cons hlt] at hr
    obtain ⟨rfl, rfl⟩ := List.cons.inj hr
    have hlk : i < kvs.length := by omega
    have hlks : i < ks.length := by omega
    have hkv : kvs[i]? = some (kvs[i]) := List.getElem?_eq_getElem hlk
    obtain ⟨hkey, hval⟩ := hpd.get? (e := esd.toList[i]) (by simp) hkv
    have hki : (kvs[i]).1 = .inr ks[i] := by
      have h1 : (kvs.map (·.1))[i]? = (ks.map (Sum.inr : Str → L2.Key))[i]? := by rw [hk]
      rw [List.getElem?_map, List.getElem?_map, hkv, List.getElem?_eq_getElem hlks] at h1
      exact Option.some.inj h1
    have hsh : ∃ t, esd.toList[i].key = .str ks[i] t := by
      rcases keyIs_shape hkey with ⟨_, _, e1, _⟩ | ⟨x, t, e1, e2⟩
      · exact nomatch (hki.symm.trans e1)
      · have := Sum.inr.inj (hki.symm.trans e1); subst this; exact ⟨t, e2⟩
    obtain ⟨t, ht⟩ := hsh
    rw [ht]
    refine wpAny_pure ⟨rfl, i + 1, hlt, rfl, ?_⟩
    rw [show esd.toList[i].val = (kvs[i]).2 from hval]
    have hz : (ks.zip (kvs.map (·.2)))[i]? = some (ks[i], (kvs[i]).2) := by
      rw [List.getElem?_zip_eq_some]
      exact ⟨List.getElem?_eq_getElem hlks, by rw [List.getElem?_map, hkv]; rfl⟩
    rw [List.take_add_one, hz]
    rfl
  · rintro b s' ⟨rfl, i, hi, hr, rfl⟩
    have hin : i = esd.toList.length := by
      rcases Nat.lt_or_ge i esd.toList.length with h | h
      · rw [List.drop_eq_getElem_cons h] at hr; cases hr
      · omega
    subst hin
    rw [htot, List.take_length]
    exact wpAny_pure hQ
/-- {**x} made into keywords -/
theorem wp_mergedKw {f : Value} {x : Sem Value} {Q : Addr → Shared → Prop}
    (h : wpAny (model prog w) A x (fun m s2 => ∃ o more, m = .ref o ∧ s.heap.objs.size ≠ o ∧ (o == sysModules) = false ∧ s2.heap.DictOf (mixKind prog w) s.heap.objs.size [] ∧ s2.heap.DictOf (mixKind prog w) o more ∧ more.length ≤ sizeLine ∧
      ∀ h', h'.DictOf (mixKind prog w) s.heap.objs.size (merged [] more) → Heap.SameBut s.heap.objs.size s2.heap h' → Q s.heap.objs.size { s2 with heap := h' }) E { s with heap := s.heap.push { cls := .type "dict", data := .dict #[] } }) :
    wpAny (model prog w) A (mergedKeywords f [(none, x)]) Q E s := by
  unfold mergedKeywords
  refine wpAny_bind (wpAny_alloc ?_)
  refine wpAny_bind (wpAny_holding ?_)
  have key : wpAny (model prog w) A x (fun m s2 => ∀ E', wpAny (model prog w) A (mergeMapping s.heap.objs.size m true) (fun _ s3 => Q s.heap.objs.size s3) E' s2) E { s with heap := s.heap.push { cls := .type "dict", data := .dict #[] } } := by
    refine wpAny_mono h (fun m s2 ⟨o, more, em, ne, hs, hd, ho, hz, q⟩ E' => ?_) fun _ _ z => z
    rw [em]
    exact wp_merge ne hs hd ho (fun _ => rfl) q (by simpa using hz)
  refine wpAny_bind (wpAny_forIn_list _ (fun l b s' => (l = [(none, x)] ∧ b = [] ∧ s' = { s with heap := s.heap.push { cls := .type "dict", data := .dict #[] } }) ∨ (l = [] ∧ b = [] ∧ Q s.heap.objs.size s')) _ ?_ ?_ _ _ (.inl ⟨rfl, rfl, rfl⟩))
  · rintro y rest b s' (⟨e1, rfl, rfl⟩ | ⟨e1, _⟩)
    · obtain ⟨rfl, rfl⟩ := List.cons.inj e1
      refine wpAny_bind (wpAny_pure ?_)
      refine wpAny_bind (wpAny_mono key (fun m s2 q => ?_) fun _ _ z => z)
      refine wpAny_bind (wpAny_onRaise (wpAny_holding (wpAny_tryCatch (wpAny_onRaise (wpAny_mono (q (fun _ _ => False)) (fun u s3 q3 => ?_) fun _ _ z => z.elim)))))
      exact wpAny_pure (.inr ⟨rfl, rfl, q3⟩)
    · cases e1
  · rintro b s' (⟨e1, _⟩ | ⟨_, rfl, q⟩)
    · cases e1
    · exact wpAny_pure (wpAny_pure q)
/-- e1, .., en, **x -/
theorem wp_evalArgsKw {f : Value} {args : List (Bool × Sem Value)} {x : Sem Value} {Q : Args → Shared → Prop} (hl : ∀ y, args ≠ [(true, y)])
    (h : wpAny (model prog w) A (spliced args) (fun vs s => wpAny (model prog w) A x (fun m s2 => ∃ (o : Addr) (kvs : List (L2.Key × Value)) (ks : List Str), m = .ref o ∧ s.heap.objs.size ≠ o ∧ (o == sysModules) = false ∧ s2.heap.DictOf (mixKind prog w) s.heap.objs.size [] ∧ s2.heap.DictOf (mixKind prog w) o kvs ∧
        kvs.map (·.1) = ks.map .inr ∧ kvs.length ≤ sizeLine ∧
        ∀ h', Heap.SameBut s.heap.objs.size s2.heap h' → Q ⟨vs, ks.zip (kvs.map (·.2))⟩ { s2 with heap := h' }) E { s with heap := s.heap.push { cls := .type "dict", data := .dict #[] } }) E s) :
    wpAny (model prog w) A (evalArgs f true args [(none, x)]) Q E s := by
  unfold evalArgs
  have key : wpAny (model prog w) A (spliced args) (fun vs s => wpAny (model prog w) A (mergedKeywords f [(none, x)]) (fun d s2 => wpAny (model prog w) A (keywordsIn f d) (fun kw s3 => Q ⟨vs, kw⟩ s3) E s2) E s) E s := by
    refine wpAny_mono h (fun vs s1 h1 => ?_) fun _ _ z => z
    refine wp_mergedKw (wpAny_mono h1 (fun m s2 ⟨o, kvs, ks, em, ne, hs, hd, ho, hk, hz, q⟩ => ⟨o, kvs, em, ne, hs, hd, ho, hz, fun h' hd' sb => ?_⟩) fun _ _ z => z)
    have hnd : (kvs.map (·.1)).Nodup := by obtain ⟨_, _, _, _, _, _, _, _, hn⟩ := ho; exact hn
    rw [merged_nil_of_nodup _ hnd] at hd'
    exact wp_keywordsIn hd' hk (q h' sb)
  have tail : ∀ vs s1, wpAny (model prog w) A (mergedKeywords f [(none, x)]) (fun d s2 => wpAny (model prog w) A (keywordsIn f d) (fun kw s3 => Q ⟨vs, kw⟩ s3) E s2) E s1 → wpAny (model prog w) A (holding (vs ++ (none : Option Value).toList) (do
      let d ← mergedKeywords f [(none, x)]
      let pos ← (pure vs : Sem (List Value))
      return (⟨pos, ← holding (.ref d :: pos) (keywordsIn f d)⟩ : Args))) Q E s1 := fun vs s1 h1 =>
    wpAny_holding (wpAny_bind (wpAny_mono h1 (fun d s2 h2 => wpAny_bind (wpAny_pure (wpAny_bind (wpAny_holding (wpAny_mono h2 (fun kw s3 q => wpAny_pure q) fun _ _ z => z))))) fun _ _ z => z))
  rcases args with _ | ⟨⟨b, y⟩, r⟩
  · exact wpAny_bind (wpAny_mono key (fun vs s1 h1 => wpAny_bind (wpAny_pure (tail vs s1 h1))) fun _ _ z => z)
  · cases b with
    | false => exact wpAny_bind (wpAny_mono key (fun vs s1 h1 => wpAny_bind (wpAny_pure (tail vs s1 h1))) fun _ _ z => z)
    | true =>
      cases r with
      | nil => exact absurd rfl (hl y)
      | cons z r => exact wpAny_bind (wpAny_mono key (fun vs s1 h1 => wpAny_bind (wpAny_pure (tail vs s1 h1))) fun _ _ z => z)
theorem wp_callKw {f : Value} {first : List Value} {pos : Pos} {Q : Value → Shared → Prop} {P : Heap → Prop} {args : List (Bool × Sem Value)} {x : Sem Value}
    (hk : ∀ h, P h → ∃ k, (k = Keeper.frame ∨ k = Keeper.machine ∨ k = Keeper.boundFrame) ∧ Looks (model prog w) h (keeperOf f) k)
    (h : wpAny (model prog w) A (evalArgs f true args [(none, x)]) (fun a s₁ => P s₁.heap ∧ wpAny (model prog w) A (call f (first ++ a.pos) a.kw) Q E s₁) E s) : wpAny (model prog w) A (callWith pos f first args [(none, x)]) Q E s := by
  unfold callWith
  refine wpAny_bind (wpAny_holding (wpAny_mono h (fun a s₁ h₁ => wpAny_bind (wpAny_standAt ?_)) fun _ _ x => x))
  obtain ⟨k, hk', L⟩ := hk _ h₁.1
  have hst : (args.any (·.1) || [((none : Option Str), x)].any (·.1.isNone)) = true := by
    rw [show [((none : Option Str), x)].any (·.1.isNone) = true from rfl, Bool.or_true]
  simp only [hst]
  refine wpAny_bind (L.here ?_)
  have tail : ∀ {t : Sem Value}, wpAny (model prog w) A t Q E s₁ → wpAny (model prog w) A (t >>= fun r => holding [r] point >>= fun _ => pure r) Q E s₁ :=
    fun ht => wpAny_bind (wpAny_mono ht (fun r s₂ hr => wpAny_bind (wpAny_holding (wpAny_point (wpAny_pure hr)))) fun _ _ x => x)
  have marked (mk : Value) : wpAny (model prog w) A (callMarked mk f (first ++ a.pos) a.kw) Q E s₁ := by unfold callMarked; exact Calls.wpAny_keep h₁.2
  rcases hk' with rfl | rfl | rfl <;> dsimp only <;> first | exact tail (marked _) | exact tail (wpAny_operating h₁.2)
end
section
variable {X : Cx} {CX : CXT} {k n : Nat} {f C : Addr} {fd : FuncData} {ps ks : List Str} {sp : Sp} {E : XK} {x : Str} {p pos : Pos} {e ex : Expr} {es : List Expr} {kw : Keyword} {t : TA} {td : TE} {g : List Value → List Value → List Value} {gV : List V → List V → List V}
/-- C(e, .., **x): x a dict with the texts ks as keys, in this order -/
def tMakeD (C : Addr) (n : Nat) (ks : List Str) (sp : Sp) (gV : List V → List V → List V) (E : XK) (t : TA) (td : TE) : TE := fun σ H Q => t σ H fun vs H1 => td σ H1 fun y H2 => ∃ o kvs, y = .ref o ∧ Rd H2 o (.dK kvs) ∧ kvs.map (·.1) = ks.map .inr ∧ vs.length = n ∧
  ∀ x dx, H2 x = none → H2 dx = none → dx ≠ x → sp (gV (.ref x :: vs) (kvs.map (·.2))) (upd (upd H2 dx (.own x)) x (.ins C dx [])) (fun v H3 => v = .non ∧ Q (.ref x) H3) E
theorem kv_vals : ∀ {kvs : List (L2.Key × V)} {vs : List (L2.Key × Value)}, KV kvs vs → Vals (kvs.map (·.2)) (vs.map (·.2)) := by
  intro kvs vs r
  unfold KV at r
  induction r with
  | nil => exact .nil
  | cons h _ ih => exact .cons h.2 ih
theorem pe_makeD (M : Mk X.K C f) (F : FnOk X.prog X.w X.K X.mg X.base CX k f fd ps sp) (hr : Room (k + 1) X.A) (hg : Gl X x) (hm : X.mg x = some (.ref C)) (hb : KBn X.K fd ps (n + 1) ks g gV) (hx : Passes CX X E) (ha : PA X (e :: es) t) (hd : PE X ex td)
    (hkw : backToKw pos (keywordEach [kw] X.env) = [(none, do let v ← eval ex X.env; standAt pos; pure v)] := by rfl) (hdb : (x == ("__debug__" : Str)) = false := by decide)
    (he : starEach (e :: es) X.env = (false, eval e X.env) :: starEach es X.env := by rfl) :
    PE X (.Call (.Name x p) (e :: es) [kw] pos) (tMakeD C n ks sp gV E t td) := by
  refine ⟨fun pins s σ H Q I h => ?_⟩
  refine wpAny_Call_Name_kw (ld_glob I hg hm ?_ hdb)
  rw [hkw]
  refine wp_callKw (P := X.K.In) (keeps_K M.kp) (wp_evalArgsKw (fun y q => ?_) (thn (ha.run pos pins s σ H _ I h) fun us s1 ⟨vs, H1, I1, r, q⟩ => ?_))
  · rw [he] at q
    cases q
  · have hnew : (s1.heap.push { cls := .type "dict", data := .dict #[] }).get? s1.heap.objs.size = some { cls := .type "dict", data := .dict #[] } := Heap.get?_push_size _ rfl
    have hn := I1.hok.fresh (Nat.le_refl s1.heap.objs.size)
    have fp := I1.fpOk (H' := H1) (Nat.le_refl _) hn
    have I1' : Inv X ((s1.heap.objs.size, ({ cls := .type "dict", data := .dict #[] } : Obj)) :: pins) σ H1 { s1 with heap := s1.heap.push { cls := .type "dict", data := .dict #[] } } :=
      (I1.kept (t' := s1.toks) (h' := s1.heap.push { cls := .type "dict", data := .dict #[] }) fun _ _ z => Heap.get?_push_of_some _ z).pins_of fun p hp => by
        rcases List.mem_cons.mp hp with rfl | hp
        · exact ⟨hnew, hn, fp.2.1, fp.2.2.1, fun v => nofun⟩
        · obtain ⟨z1, z2, z3, z4, z5⟩ := I1.pin p (List.mem_append_right _ hp)
          exact ⟨Heap.get?_push_of_some _ z1, z2, z3, z4, z5⟩
    refine wpAny_bind (thn (hd.run _ _ σ H1 _ I1' q) fun m s2 ⟨y, H2, I2, ry, o, kvs, ey, rd, hk, hl, hsp⟩ => wpAny_bind (wpAny_standAt (wpAny_pure ?_)))
    subst ey
    cases (show m = Value.ref o from ry)
    obtain ⟨z, hsy, ws, rel, dd⟩ := dk_rd I2.hok rd
    obtain ⟨pg, pn, _, _, _⟩ := I2.pin (s1.heap.objs.size, _) (List.mem_append_right _ List.mem_cons_self)
    have hne : s1.heap.objs.size ≠ o := fun eo => by
      rw [eo] at pn
      rcases rd with q1 | ⟨_, q1⟩ <;> (rw [pn] at q1; cases q1)
    refine ⟨o, ws, ks, rfl, hne, hsy, ?_, dd, by rw [← rel.keys]; exact hk, by rw [← rel.length]; exact z, fun h' sb => ?_⟩
    · obtain ⟨o1, es1, ep1, h1, h2⟩ := Heap.DictOf.new (knd := mixKind X.prog X.w) s1.heap
      have : o1 = { cls := .type "dict", data := .dict #[] } := Option.some.inj (h1.symm.trans hnew)
      subst this
      exact ⟨_, es1, ep1, pg, h2⟩
    · have fp2 := I1.fpOk (H' := H2) (Nat.le_refl _) pn
      have I3 : Inv X pins σ H2 s2 := I2.pins_of fun p hp => I2.pin p (List.mem_append_right _ (List.mem_cons_of_mem _ hp))
      have I4 := I3.turned (t' := s2.toks) (h' := h') (it := s1.heap.objs.size) (fun b u hb e => (sb.2 b hb).trans e) pn fp2.2.1 fp2.2.2.2.1 fp2.2.2.2.2.1 fp2.2.2.2.2.2
      refine ⟨I4.kIn, ?_⟩
      exact run_makeK M F hr hb hx I4 r (kv_vals rel) hl (by simpa using congrArg List.length hk) hsp
end
end KwX

/-! f(k = v, ..) of a def with **changes -/
namespace KwX
open PySem PySem.Calls PyProof.Rows L2 PySem.W
section
variable {prog : Program} {w : World} {A : Around} {E : Value → Shared → Prop} {s : Shared}
theorem isStr_key {k : L2.Key} {v : Value} {x : Str} (h : (mixKind prog w).is k v = true) (hx : v.isStr x = true) : k = .inr x := by
  rcases keyIs_shape h with ⟨i, t, _, rfl⟩ | ⟨y, t, rfl, rfl⟩
  · cases hx
  · exact congrArg _ (by simpa [Value.isStr] using hx)
theorem wp_nsSetD {d : Addr} {kvs : List (L2.Key × Value)} {name : Str} {v : Value} {Q : Unit → Shared → Prop} (hm : s.heap.DictOf (mixKind prog w) d kvs) (hno : (.inr name : L2.Key) ∉ kvs.map (·.1))
    (hQ : ∀ h', h'.DictOf (mixKind prog w) d (kvs ++ [(.inr name, v)]) → Heap.SameBut d s.heap h' → Q () { s with heap := h', toks := s.toks + 1 }) : wpAny (model prog w) A (nsSet d name v) Q E s := fun Γ p hΓ => by
  obtain ⟨o, es, ep, ho, hc, hd, hk, hp, hn⟩ := hm
  simp only [nsSet, strHash, Sem.wp_bind', Sem.wp_cmd_ask, Sem.wp_pure', Sem.wp_cmd_mkText]
  rw [Sem.wp_loadPart_of (model prog w) Γ _ p { s with toks := s.toks + 1 } (o := o) _ ho]
  have hany : es.any (·.refKey) = false := by
    rw [Array.any_eq_false']
    intro e he
    obtain ⟨k, hk1, _⟩ := hk e he
    rcases keyIs_shape hk1 with ⟨i, t, _, h⟩ | ⟨y, t, _, h⟩ <;> simp [DictEntry.refKey, h]
  simp only [hd, aRefKeyMayBeTheName_eq, aRefKeyMayBeTheNameByArray, hany, Bool.and_false, Bool.false_eq_true, if_false, Sem.wp_cmd_updatePart]
  refine ⟨by rw [ho]; rfl, hQ _ ?_ (Heap.SameBut.update ..)⟩
  obtain ⟨c, d', dt, sl⟩ := o
  subst hd
  have hi : es.findIdx? (·.key.isStr name) = none := by
    rw [Array.findIdx?_eq_none_iff]
    intro e he
    cases hx : e.key.isStr name with
    | false => rfl
    | true =>
      obtain ⟨k, hk1, _⟩ := hk e he
      have := isStr_key hk1 hx
      subst this
      have h1 := hp.findIdx (.inr name)
      have h2 : (kvs.findIdx? fun kv => decide (kv.1 = (.inr name : L2.Key))) = none := by
        rw [List.findIdx?_eq_none_iff]
        intro x hx
        refine decide_eq_false fun e => hno ?_
        exact List.mem_map.mpr ⟨x, hx, e⟩
      rw [h2, List.findIdx?_eq_none_iff] at h1
      rw [h1 e (by simpa using he)] at hk1
      cases hk1
  have key : (mixKind prog w).is (.inr name) (.str name s.toks) = true := by
    show Value.isStrOf name (.str name s.toks) = true
    simp [Value.isStrOf]
  refine ⟨_, _, ep + 1, Heap.get?_update_self _ ho (by simp only [Obj.putName_eq, Obj.putNameByArray, hi]; rfl), ?_, by simp only [Obj.putName_eq, Obj.putNameByArray, hi]; rfl, hk.push key _, ?_, ?_⟩
  · simp only [Obj.putName_eq, Obj.putNameByArray, hi]
    exact hc
  · have := hp.append key ((mixKind prog w).hash (.inr name)) v
    obtain ⟨l⟩ := es
    simpa using this
  · rw [List.map_append, List.nodup_append]
    refine ⟨hn, by simp, ?_⟩
    intro a ha b hb
    simp only [List.map_cons, List.map_nil, List.mem_singleton] at hb
    subst hb
    exact fun e => hno (e ▸ ha)
theorem wp_bindKw {fd : FuncData} {p1 pd : Arg} {a : Value} {ks : List Str} {ws : List Value} {Q : List (Str × Value) → Shared → Prop} (h1 : fd.params.posonlyargs = []) (h2 : fd.params.args = [p1]) (h3 : fd.params.vararg = none) (h4 : fd.params.kwonlyargs = []) (h5 : fd.params.kwarg = some pd) (h6 : fd.defaults = .none)
    (hl : ws.length = ks.length) (hz : ks.length ≤ sizeLine) (hnd : ks.Nodup) (hp : p1.arg ∉ ks)
    (hQ : ∀ h' t', h'.DictOf (mixKind prog w) s.heap.objs.size ((ks.map (Sum.inr : Str → L2.Key)).zip ws) → (∀ b, b ≠ s.heap.objs.size → h'.get? b = (s.heap.push { cls := .type "dict", data := .dict #[] }).get? b) → Q [(p1.arg, a), (pd.arg, .ref s.heap.objs.size)] { s with heap := h', toks := t' }) :
    wpAny (model prog w) A (bindArgs fd ⟨[a], ks.zip ws⟩) Q E s := by
  unfold bindArgs
  simp only [h1, h2, h3, h4, h5, h6, List.map_nil, List.map_cons, List.nil_append]
  refine wpAny_bind (wpAny_forIn_list _ (fun l b s' => s' = s ∧ (∃ pre, pre ++ l = ks.zip ws ∧ b = ([(p1.arg, a)], pre))) _ ?_ ?_ _ _ ⟨rfl, [], rfl, rfl⟩)
  · rintro ⟨k, v⟩ rest b s' ⟨rfl, pre, e, rfl⟩
    have hk : k ∈ ks := (List.of_mem_zip (show (k, v) ∈ ks.zip ws by rw [← e]; simp)).1
    have hc : ([p1.arg].contains k || ([] : List Str).contains k) = false := by
      have : k ≠ p1.arg := fun q => hp (q ▸ hk)
      simpa using this
    simp only [hc]
    exact wpAny_pure ⟨rfl, pre ++ [(k, v)], by simpa using e, rfl⟩
  · rintro b s' ⟨rfl, pre, e, rfl⟩
    rw [List.append_nil] at e
    subst e
    refine wpAny_bind (wpAny_of_eq (a := none) rfl ?_)
    have hl1 : List.lookup p1.arg [(p1.arg, a)] = some a := by simp [List.lookup]
    simp only [Option.getD_none, List.length_cons, List.length_nil]
    rw [if_neg (by simp)]
    simp only [List.drop_nil, List.length_nil, Nat.sub_zero, Nat.zero_add, List.take_succ_cons, List.take_zero, List.filter_cons, List.filter_nil, hl1, Option.isNone_some, Bool.false_eq_true, if_false, List.isEmpty_nil, Bool.not_true, List.drop_succ_cons, List.drop_zero, List.zip_nil_left, List.forIn_nil, pure_bind, List.append_nil, List.filterMap_cons, List.filterMap_nil, Option.map_some]
    rw [if_neg (by rw [List.length_zip, hl]; omega)]
    refine wpAny_bind (wpAny_alloc ?_)
    refine wpAny_bind (wpAny_forIn_list _ (fun l b s2 => ∃ pre h' t', pre ++ l = ks.zip ws ∧ s2 = { s' with heap := h', toks := t' } ∧ h'.DictOf (mixKind prog w) s'.heap.objs.size (pre.map fun kv => ((.inr kv.1 : L2.Key), kv.2)) ∧
      (∀ b, b ≠ s'.heap.objs.size → h'.get? b = (s'.heap.push { cls := .type "dict", data := .dict #[] }).get? b)) _ ?_ ?_ _ _ ⟨[], s'.heap.push { cls := .type "dict", data := .dict #[] }, s'.toks, rfl, rfl, Heap.DictOf.new s'.heap, fun _ _ => rfl⟩)
    · rintro ⟨k, v⟩ rest b s2 ⟨pre, h', t', e, rfl, dd, same⟩
      have hno : (.inr k : L2.Key) ∉ (pre.map fun kv => ((.inr kv.1 : L2.Key), kv.2)).map (·.1) := by
        intro hm
        rw [List.map_map] at hm
        obtain ⟨y, hy, ey⟩ := List.mem_map.mp hm
        have e2 : (ks.zip ws).map (·.1) = ks := by rw [List.map_fst_zip]; omega
        rw [← e, List.map_append, List.map_cons] at e2
        rw [← e2] at hnd
        have := (List.nodup_append.mp hnd).2.2 y.1 (List.mem_map.mpr ⟨y, hy, rfl⟩) k List.mem_cons_self
        exact this (Sum.inr.inj ey)
      refine wpAny_bind (wp_nsSetD dd hno fun h'' dd' sb => wpAny_pure ⟨pre ++ [(k, v)], h'', t' + 1, by simpa using e, rfl, ?_, fun b hb => (sb.2 b hb).trans (same b hb)⟩)
      rw [List.map_append]
      exact dd'
    · rintro b s2 ⟨pre, h', t', e, rfl, dd, same⟩
      rw [List.append_nil] at e
      subst e
      refine wpAny_pure (hQ h' t' ?_ same)
      have : ((ks.zip ws).map fun kv => ((.inr kv.1 : L2.Key), kv.2)) = (ks.map (Sum.inr : Str → L2.Key)).zip ws := by
        rw [List.zip_map_left]
        rfl
      rw [← this]
      exact dd
end
end KwX

namespace L3
open PySem PySem.Spec PyProof.Rows L2
/-- o.m(k = v, ..) of a def (self, **d) -/
def FnKw (P : Program) (w : World) (K : PySem.W.Frag) (mg : Str → Option Value) (base : Heap) (k : Nat) (p1 : Str) (f : Addr) (sp : Sp) : Prop :=
  ∀ (A : Around) (outer : List PySem.Env) (s : Shared) (H : Hp) (u : Value) (v : V) (ks : List Str) (ws : List Value) (zs : List V) (Q : VK) (E : XK), Room k A → Env0 P w K mg base A outer s H → RelV v u → Vals zs ws → zs.length = ks.length → ks.length ≤ 100 → ks.Nodup → p1 ∉ ks →
    (∀ d, H d = none → sp [v, .ref d] (upd H d (.dK ((ks.map .inr).zip zs))) Q E) → codeAny (model P w) A (.call (.ref f) ⟨[u], ks.zip ws⟩) (CR CX0 outer P w H s Q E) s
section
variable {P : Program} {w : World} {K : PySem.W.Frag} {mg : Str → Option Value} {base : Heap}
theorem env0_dict {A : Around} {outer : List PySem.Env} {s : Shared} {H : Hp} {h' : Heap} {t' : Nat} {u : HO} (e0 : Env0 P w K mg base A outer s H) (same : ∀ b, b ≠ s.heap.objs.size → h'.get? b = (s.heap.push { cls := .type "dict", data := .dict #[] }).get? b) (new : ObjOk P w (upd H s.heap.objs.size u) h' s.heap.objs.size u) :
    Env0 P w K mg base A outer { s with heap := h', toks := t' } (upd H s.heap.objs.size u) := by
  have kp : ∀ b x, s.heap.get? b = some x → h'.get? b = some x := fun b x e => by
    rw [same b (Nat.ne_of_lt (Heap.lt_size e))]
    exact Heap.get?_push_of_some _ e
  refine ⟨e0.frames, e0.mod, fun b x e => ⟨kp b x (e0.bs b x e).1, ?_⟩, ?_, Heap.FunFrames.of_keeps (fun b x e _ => ⟨x, kp b x e, rfl⟩) e0.funs, fun b hb => ?_, e0.hok.laid kp (Nat.le_refl _) new, e0.bare⟩
  · rw [upd_ne (Nat.ne_of_lt (Heap.lt_size (e0.bs b x e).1))]
    exact (e0.bs b x e).2
  · exact Nat.le_trans e0.bsz (Nat.le_of_lt new.lt)
  · obtain ⟨_, x, hx, _⟩ := e0.funs.mem hb
    rw [upd_ne (Nat.ne_of_lt (Heap.lt_size hx))]
    exact e0.frf b hb
theorem kv_zip : ∀ {ks : List Str} {zs : List V} {ws : List Value}, Vals zs ws → KV ((ks.map (Sum.inr : Str → L2.Key)).zip zs) ((ks.map (Sum.inr : Str → L2.Key)).zip ws)
  | [], _, _, _ => by simp only [List.map_nil, List.zip_nil_left]; exact .nil
  | _ :: _, _, _, .nil => by simp only [List.zip_nil_right]; exact .nil
  | k :: ks, _, _, .cons h r => by
    simp only [List.map_cons, List.zip_cons_cons]
    exact .cons ⟨rfl, h⟩ (kv_zip r)
theorem fn_kw {f : Addr} {name qual : Str} {params : Arguments} {body : List Stmt} {scope : Scope} {fd : FuncData} {N : List Str} {kws : List (Str × V)} {p1 pd : Arg} {k : Nat} {sp : Sp} (W : FunD K name qual params body scope [] kws f fd) (S : FnScope N [p1.arg, pd.arg] scope)
    (h1 : params.posonlyargs = []) (h2 : params.args = [p1]) (h3 : params.vararg = none) (h4 : params.kwonlyargs = []) (h5 : params.kwarg = some pd)
    (hbody : ∀ (cdv : Value) (A : Around) (outer : List PySem.Env) (s : Shared) (H : Hp) (vs : List V) (Q : VK) (E : XK), Room k (A.deeper (envOfC qual scope s.heap.objs.size f cdv)) → sp vs H Q E →
      ∃ t, PSs (cxOf CX0 P w K mg base N qual scope f cdv A outer s H E) body t ∧ t { nx := fun _ H' => Q .non H', rt := Q } (start N vs) H) : FnKw P w K mg base (k + 1) p1.arg f sp := by
  intro A outer s H u v ks ws zs Q E hr e0 ru rz hl hz hnd hp hsp
  obtain ⟨oc, od, dV, kV, doc, pm, an, cdv, ct, osl, rfl, lk, hcd, hD, hK⟩ := W.ex
  have hdV : dV = .none := by
    rcases hD with ⟨_, h⟩ | ⟨e, _⟩
    · exact h
    · exact absurd rfl e
  subst hdV
  have hn : H s.heap.objs.size = none := e0.hok.fresh (Nat.le_refl _)
  have hlw : ws.length = ks.length := by rw [← rz.length]; exact hl
  have hz' : ks.length ≤ sizeLine := by rw [sizeLine_eq]; omega
  refine StX.run_bnd lk hcd S hr e0 (G := fun xs H2 => ∃ d, H d = none ∧ xs = [v, V.ref d] ∧ H2 = upd H d (.dK ((ks.map .inr).zip zs))) (fun A' Ex Q' h => ?_) fun s2 H2 xs ⟨d, hd, ex, eH⟩ hr' => ?_
  · refine KwX.wp_bindKw (fd := PySem.W.fnOf name qual params body scope .none kV doc pm an cdv ct) h1 h2 h3 h4 h5 rfl hlw hz' hnd hp fun h' t' dd same => ?_
    have big : sysModules < s.heap.objs.size := StX.env0_big e0
    have new : ObjOk P w (upd H s.heap.objs.size (.dK ((ks.map .inr).zip zs))) h' s.heap.objs.size (.dK ((ks.map .inr).zip zs)) := dk_new (by
        rw [List.length_zip, List.length_map, hl, Nat.min_self]; exact hz') (by
        rw [beq_eq_false_iff_ne]; exact Nat.ne_of_gt big) (kv_zip rz) dd
    have kp : ∀ b x, s.heap.get? b = some x → h'.get? b = some x := fun b x e => by
      rw [same b (Nat.ne_of_lt (Heap.lt_size e))]
      exact Heap.get?_push_of_some _ e
    exact h { s with heap := h', toks := t' } _ [v, V.ref s.heap.objs.size] [u, Value.ref s.heap.objs.size] (env0_dict e0 same new) (Un.laid kp (Nat.le_refl _) hn) rfl (fun e s' z => z) (.cons ru (.cons rfl .nil)) rfl ⟨_, hn, rfl, rfl⟩
  · subst ex eH
    exact hbody cdv A outer s2 _ _ Q E hr' (hsp d hd)
/-- a def of the text, its body read as B -/
theorem bodyD {x qual : Str} {st : Stmt} {f : Addr} {N : List Str} {n k : Nat} {B : SM} (hn : n ≤ N.length)
    (hb : ∀ (cdv : Value) (A : Around) (outer : List PySem.Env) (s : Shared) (H : Hp) (E : XK) (g : Gx), Room k (A.deeper (PyProof.Rows.envOfC qual (defScope st) s.heap.objs.size f cdv)) → DSs (cxOf CX0 P w K mg base N qual (defScope st) f cdv A outer s H E).nox g (defBody st) B)
    (cdv : Value) (A : Around) (outer : List PySem.Env) (s : Shared) (H : Hp) (vs : List V) (Q : VK) (E : XK) (hr : Room k (A.deeper (envOfC qual (defScope st) s.heap.objs.size f cdv))) (h : spF K (mkF n N.length B) vs H Q E) :
      ∃ t, PSs (cxOf CX0 P w K mg base N qual (defScope st) f cdv A outer s H E) (defBody st) t ∧ t { nx := fun _ H' => Q .non H', rt := Q } (start N vs) H := by
  obtain ⟨F0, as, r, os, h, nd, sm, hf, q⟩ := h
  refine ⟨_, PSs.nox (hb cdv A outer s H E ⟨H, F0, fpL H vs as, fun _ => none⟩ hr), ?_⟩
  unfold mkF at hf
  split at hf
  · rename_i hl
    obtain ⟨p, e1, hf⟩ := bnd hf
    obtain ⟨r', e2, hf⟩ := bnd hf
    obtain ⟨os', e3, hf⟩ := bnd hf
    cases hf
    obtain ⟨o, ρ'⟩ := p
    have G := entry_gd N h nd sm (by rw [hl]; exact hn)
    rw [hl] at G
    refine ⟨F0, _, o, ρ', G, e1, fun σ' F' H' G' s' => ?_⟩
    have post : Post K F0 H F' H' (adL (fpL H vs as)) := ⟨s', G'.sub, G'.keep, G'.new, G'.grow⟩
    obtain ⟨ios, ndo, par⟩ := collect_ok G' rfl (pre := []) h rfl rfl e3
    cases o with
    | nx => cases e2; exact q _ F' H' post ios ndo .non
    | rt d => cases e2; exact fun v r => q v F' H' post ios ndo r
    | rn xs =>
      cases e2
      exact fun l ws h1 h2 h3 h4 h5 => q _ F' H' post ios ndo ⟨l, ws, rfl, h3, h2, fun m => by
        obtain ⟨j, _, q2, q3⟩ := par l m
        exact h4 j q2 q3, h1, h5⟩
    | rr xs =>
      cases e2
      exact fun l ws h1 h2 h3 h4 => q _ F' H' post ios ndo ⟨l, ws, rfl, h1, h2, h3, fun a m => ⟨(h4 a m).2.1, (h4 a m).1, fun m2 => by
        obtain ⟨j, _, q2, q3⟩ := par a m2
        exact (h4 a m).2.2 j q2 q3⟩⟩
    | br => cases e2
    | ct => cases e2
  · cases hf
end
/-! ### o.m(k = v, ..) -/
def tMethK (C : Addr) (m : Str) (ks : List Str) (sp : Sp) (E : XK) (ta : TE) (tk : TA) : TE := fun σ H Q => ta σ H fun x H1 => ∃ a dx fs, x = .ref a ∧ H1 a = some (.ins C dx fs) ∧ fs.lookup m = none ∧
  tk σ H1 fun zs H2 => zs.length = ks.length ∧ ∀ d, H2 d = none → sp [.ref a, .ref d] (upd H2 d (.dK ((ks.map .inr).zip zs))) Q E
abbrev DK (X : Cx) (g : Gx) (kws : List Keyword) (f : AM) : Prop := PK X kws (tA X.K g f)
section
variable {X : Cx} {g : Gx} {k : Nat} {f C : Addr} {sp : Sp} {E : XK} {m p1 : Str} {pos apos kpos : Pos} {e o : Expr} {kws : List Keyword} {ta : TE} {tk : TA} {ks : List Str} {nm : Option Str} {fm : FM} {fo : EM} {fv : OM} {fa : AM}
theorem weakPK {t t' : TA} (h : PK X kws t) (w : ∀ σ H Q, t' σ H Q → t σ H Q) : PK X kws t' := ⟨fun p pins s σ H Q I q => h.run p pins s σ H Q I (w σ H Q q)⟩
theorem dk_n : DK X g [] aN := weakPK pk_nil fun σ H Q ⟨F, ρ, d, ρ', G, hf, q⟩ => by
  cases hf
  exact q _ F H G (Same.refl _) .nil
theorem dk_c (h : DO X g e fv) (hr : DK X g kws fa) : DK X g (⟨nm, e, kpos⟩ :: kws) (aC fv fa) := weakPK (pk_cons h hr) fun σ H Q ⟨F, ρ, d, ρ', G, hf, q⟩ => by
  obtain ⟨p, e1, hf⟩ := bnd hf
  obtain ⟨p', e2, hf⟩ := bnd hf
  cases hf
  exact ⟨F, ρ, p.1, p.2, G, e1, fun v F1 H1 G1 s1 r1 => ⟨F1, p.2, p'.1, p'.2, G1, e2, fun vs F2 H2 G2 s2 r2 => q _ F2 H2 G2 (s1.trans s2) (.cons (r1.mono s2) r2)⟩⟩
theorem run_fnKw {pins : List (Addr × Obj)} {σ : L2.St} {H : Hp} {s : Shared} {u : Value} {v : V} {ws : List Value} {zs : List V} {Q : VK} (F : FnKw X.prog X.w X.K X.mg X.base k p1 f sp) (hr : Room k X.A) (I : Inv X pins σ H s) (ru : RelV v u) (rz : Vals zs ws) (hl : zs.length = ks.length) (h100 : ks.length ≤ 100) (hnd : ks.Nodup) (hp : p1 ∉ ks)
    (h : ∀ d, H d = none → sp [v, .ref d] (upd H d (.dK ((ks.map .inr).zip zs))) Q E) : wpAny (model X.prog X.w) X.A (call (.ref f) [u] (ks.zip ws)) (EP X pins σ Q) X.xe s := by
  refine wpAny_call (codeAny_mono (F X.A X.stack s H u v ks ws zs Q E hr I.env0 ru rz hl h100 hnd hp h) fun r s' hq => ?_)
  cases r with
  | error e => exact False.elim hq
  | ok fl =>
    cases fl with
    | ret u => exact I.after hq
    | next => exact False.elim hq
    | brk => exact False.elim hq
    | cont => exact False.elim hq
theorem pe_methK {pl : Sem Bool} (he : PE X o ta) (c : Cls X.K C) (hm : Meth X.K C m f) (F : FnKw X.prog X.w X.K X.mg X.base k p1 f sp) (hr : Room k X.A) (hkw : PK X kws tk) (hnd : ks.Nodup := by decide) (hp : p1 ∉ ks := by decide) (h100 : ks.length ≤ 100 := by decide)
    (hall : (backToKw pos (keywordEach kws X.env)).all (·.1.isSome) = true := by rfl) (hks : (backToKw pos (keywordEach kws X.env)).filterMap (·.1) = ks := by rfl)
    (hpl : ((backTo pos (starEach [] X.env)).any (·.1) || (backToKw pos (keywordEach kws X.env)).any (·.1.isNone)) = false := by rfl)
    (ht : eval (.Call (.Attribute o m apos) [] kws pos) X.env = (do
      let ov ← eval o X.env
      standAt apos.atName
      let (f, first) ← holding [ov] (getMethod ov m pl)
      callWith pos f first (backTo pos (starEach [] X.env)) (backToKw pos (keywordEach kws X.env))) := by rfl) :
    PE X (.Call (.Attribute o m apos) [] kws pos) (tMethK C m ks sp E ta tk) := by
  refine ⟨fun pins s σ H Q I h => ?_⟩
  refine PySem.W.methodCall_KW (pl := pl) (thn (he.run pins s σ H _ I h) fun u s1 ⟨x, H1, I1, rx, a, dx, fs, ex, ea, l, q⟩ => ?_) ht
  subst ex
  obtain rfl : u = Value.ref a := rx
  refine getmeth_ok I1 ea c hm l ?_
  refine PySem.W.callWith_KW0 (first := [.ref a]) (h₀ := X.base) I.ok.mod.kin hm.kp hall (thn (hkw.run pos pins s1 σ H1 _ I1 q) fun us s2 ⟨vs, H2, I2, r, hl, q2⟩ => ⟨I2.kIn, ?_⟩) hpl
  rw [hks]
  exact run_fnKw (v := V.ref a) F hr I2 rfl r hl h100 hnd hp q2
def eKw (C : Addr) (m : Str) (ks : List Str) (fm : FM) (fo : EM) (fa : AM) : EM := fun ρ => (fo ρ).bind fun p => if insOk C m (some p.1) then (fa p.2).bind fun q => (valsOf q.1).bind fun ds => if ds.length = ks.length then
  (callO fm [] [.val p.1, .val (.dk ((ks.map .inr).zip ds))] q.2).bind fun r => finR r else none else none
theorem repk_zip {K : PySem.W.Frag} {F : Hp} : ∀ {ks : List L2.Key} {vs : List V} {ds : List D}, Reps K F vs ds → RepK K F (ks.zip vs) (ks.zip ds)
  | [], _, _, _ => by simp only [List.zip_nil_left]; exact .nil
  | _ :: _, _, _, .nil => by simp only [List.zip_nil_right]; exact .nil
  | k :: ks, _, _, .cons h r => by
    simp only [List.zip_cons_cons]
    exact .cons h (repk_zip r)
theorem de_kw (h : PE X e (tMethK C m ks (spF X.K fm) E (tE X.K g fo) (tA X.K g fa))) : DE X g e (eKw C m ks fm fo fa) := weakPE h fun σ H Q ⟨F, ρ, d, ρ', G, hf, q⟩ => by
  obtain ⟨p, e1, hf⟩ := bnd hf
  split at hf
  · rename_i hi
    obtain ⟨p2, e2, hf⟩ := bnd hf
    obtain ⟨ds, e3, hf⟩ := bnd hf
    split at hf
    · rename_i hl
      refine ⟨F, ρ, p.1, p.2, G, e1, fun v F1 H1 G1 s1 r1 => ?_⟩
      unfold insOk at hi
      split at hi
      · rename_i C' gs hc
        have hi := Bool.and_eq_true_iff.mp hi
        cases (of_decide_eq_true hi.1)
        have hc' := Option.some.inj hc
        rw [hc'] at r1
        cases r1 with
        | @ins a _ dx fs _ h1 h2 =>
        refine ⟨a, dx, fs, rfl, G1.sub _ _ h1, h2.sameN.none (Option.isNone_iff_eq_none.mp hi.2), F1, p.2, p2.1, p2.2, G1, e2, fun vs F2 H2 G2 s2 r2 => ?_⟩
        have rv := valsOk r2 e3
        refine ⟨by rw [rv.length]; exact hl, fun dd hd => ?_⟩
        obtain ⟨G3, n1, n2, n3, n4⟩ := G2.fresh hd (.dK ((ks.map .inr).zip vs))
        have sm : Same F2 (upd F2 dd (.dK ((ks.map .inr).zip vs))) := fun b u e => by rw [upd_ne (ne_of_none e n1)]; exact e
        have G4 := G3.freeze upd_same n1 n2 n3 n4
        have rp : Rep X.K (upd F2 dd (.dK ((ks.map .inr).zip vs))) (.ref a) p.1 := by
          rw [hc']
          exact (Rep.mono (s2.trans sm) (.ins h1 h2))
        exact callO_e (dvs := []) (vs := [V.ref a, V.ref dd]) (fun _ => .nil) G4 (.cons (o := .val p.1) rp (.cons (o := .val (.dk ((ks.map .inr).zip ds))) (show Rep _ _ _ _ from .dk upd_same (repk_zip (rv.mono sm))) .nil)) hf fun w F3 H3 G5 s3 r3 => q w F3 H3 G5 (((s1.trans s2).trans sm).trans s3) r3
      · cases hi
    · cases hf
  · cases hf
end
end L3

/-! {k: v, .., **x} -/
namespace KwX
open PySem PySem.Calls PyProof.Rows L2 PySem.W
section
variable {prog : Program} {w : World} {A : Around} {E : Value → Shared → Prop} {s : Shared}
theorem wp_dispMerge {pairs : List (Sem Value × Sem Value)} {x : Sem Value} {Q : Value → Shared → Prop} (h0 : pairs ≠ []) (hlen : pairs.length ≤ 15)
    (h : wpAny (model prog w) A (evalPairs pairs) (fun vs s1 => ∃ kvs, Carries (mixKind prog w) vs kvs ∧ s1.heap.DictOf (mixKind prog w) s.heap.objs.size [] ∧
      ∀ h', h'.DictOf (mixKind prog w) s.heap.objs.size (merged [] kvs) → Heap.SameBut s.heap.objs.size s1.heap h' →
        wpAny (model prog w) A x (fun m s2 => ∃ (o : Addr) (as more : List (L2.Key × Value)), m = .ref o ∧ s.heap.objs.size ≠ o ∧ (o == sysModules) = false ∧ s2.heap.DictOf (mixKind prog w) s.heap.objs.size as ∧ s2.heap.DictOf (mixKind prog w) o more ∧
          as.length + more.length ≤ sizeLine ∧ ∀ h'', h''.DictOf (mixKind prog w) s.heap.objs.size (merged as more) → Heap.SameBut s.heap.objs.size s2.heap h'' → Q (.ref s.heap.objs.size) { s2 with heap := h'' }) E { s1 with heap := h', toks := s1.toks + vs.length }) E
      { s with heap := s.heap.push { cls := .type "dict", data := .dict #[] } }) :
    wpAny (model prog w) A (dictDisplay (pairs.map (fun p => (some p.1, p.2)) ++ [(none, x)])) Q E s := by
  unfold dictDisplay
  refine wpAny_bind (wpAny_forIn_list _ (fun l b s' => (∃ pre rest, pre ++ rest = pairs ∧ l = rest.map (fun p => (some p.1, p.2)) ++ [(none, x)] ∧ b = (none, pre) ∧ s' = s) ∨ (l = [] ∧ b = (some s.heap.objs.size, []) ∧ Q (.ref s.heap.objs.size) s')) _ ?_ ?_ _ _ (.inl ⟨[], pairs, rfl, rfl, rfl, rfl⟩))
  · rintro ⟨k, v⟩ l b s' (⟨pre, rest, e, el, rfl, rfl⟩ | ⟨el, _⟩)
    · cases rest with
      | nil =>
        obtain ⟨e1, rfl⟩ := List.cons.inj el
        cases e1
        rw [List.append_nil] at e
        subst e
        have hne : pre.isEmpty = false := by cases pre with
          | nil => exact absurd rfl h0
          | cons _ _ => rfl
        simp only [hne]
        rw [if_neg (by simp)]
        refine wpAny_bind (wpAny_bind (wpAny_subDict (knd := mixKind prog w) (Q := fun d s3 => _) hlen (wpAny_mono h (fun vs s1 ⟨kvs, hc, hm, hq⟩ => ⟨kvs, hc, hm, fun h' dd sb => wpAny_pure ?_⟩) fun _ _ z => z)))
        refine wpAny_bind (wpAny_pure ?_)
        refine wpAny_bind (wpAny_holding (wpAny_mono (hq h' dd sb) (fun m s2 ⟨o, as, more, em, ne, hs, hd, ho, hz, q⟩ => ?_) fun _ _ z => z))
        subst em
        refine wpAny_bind (wpAny_onRaise (wpAny_tryCatch (wpAny_onRaise (wpAny_holding (wp_merge ne hs hd ho (fun u => nomatch u) (fun h'' d2 sb2 => ?_) hz)))))
        exact wpAny_pure (.inr ⟨trivial, rfl, q h'' d2 sb2⟩)
      | cons p rest =>
        obtain ⟨e1, rfl⟩ := List.cons.inj el
        cases e1
        have hne : ((pre ++ [(p.1, p.2)]).length == 17) = false := by
          have := congrArg List.length e
          simp at this
          simp; omega
        simp only [hne]
        exact wpAny_pure (.inl ⟨pre ++ [p], rest, by simpa using e, rfl, rfl, rfl⟩)
    · cases el
  · rintro b s' (⟨pre, rest, e, el, rfl, rfl⟩ | ⟨_, rfl, q⟩)
    · cases rest <;> cases el
    · exact wpAny_bind (wpAny_pure (wpAny_pure q))
end
section
/-- {k: v, .., **x}: the pairs, then a dict on top -/
def tDispM (trs : List (TE × TE)) (td : TE) : TE := fun σ H Q => ∀ p, H p = none → tPairs trs σ (upd H p (.dK [])) fun ps H2 => H2 p = some (.dK []) ∧ ∃ kvs : List (L2.Key × V), ps = kvs.map (fun kv => (kV kv.1, kv.2)) ∧ kvs.length ≤ 15 ∧
  td σ (upd H2 p (.dK (mergeK [] kvs))) fun y H4 => ∃ o more, y = .ref o ∧ p ≠ o ∧ H4 p = some (.dK (mergeK [] kvs)) ∧ Rd H4 o (.dK more) ∧ more.length ≤ 100 ∧ Q (.ref p) (upd H4 p (.dK (mergeK (mergeK [] kvs) more)))
theorem pe_dispM {X : Cx} {pos : Pos} {keys : List (Option Expr)} {values : List Expr} {ex : Expr} {trs : List (TE × TE)} {td : TE} (h : PPs X pos keys values trs) (hx : PE X ex td) (hall : keys.all (·.isSome) = true) (hl : keys.length = values.length) (h0 : keys ≠ [])
    (h15 : keys.length ≤ 15) (he : (evalEachOpt (keys ++ [none]) X.env).zip ((evalEach (values ++ [ex]) X.env).map fun v => do let x ← v; standAt pos; pure x) = (pairTrees keys values X.env pos).map (fun p => (some p.1, p.2)) ++ [(none, do let x ← eval ex X.env; standAt pos; pure x)] := by rfl) :
    PE X (.Dict (keys ++ [none]) (values ++ [ex]) pos) (tDispM trs td) := by
  refine ⟨fun pins s σ H Q I q => ?_⟩
  have hn := I.hok.fresh (Nat.le_refl s.heap.objs.size)
  have I1 := I.laid (a := s.heap.objs.size) (o := .dK []) (h' := s.heap.push { cls := .type "dict", data := .dict #[] }) (t' := s.toks) (fun _ _ q => Heap.get?_push_of_some _ q) (Nat.le_refl _) (dk_empty s.heap I.big)
  have hpl := pairTrees_length keys values X.env pos hall hl
  rw [arm_eval_Dict, he]
  refine wpAny_bind (wpAny_standAt (wp_dispMerge (fun e => ?_) (by rw [hpl]; exact h15) (thn (h.run pins _ σ _ _ I1 (q _ hn)) fun ws s2 ⟨ps, H2, I2, rel, e, kvs, ep, lk, q2⟩ => ?_)))
  · rw [e] at hpl
    exact h0 (List.length_eq_zero_iff.mp hpl.symm)
  subst ep
  obtain ⟨rs, c, rk⟩ := carries_of (P := X.prog) (w := X.w) rel
  obtain ⟨z, hd, vs0, r0, dd⟩ := dk_of I2.hok e
  cases r0
  refine ⟨rs, c, dd, fun h' dd' hs => ?_⟩
  have lm : (mergeK [] kvs).length ≤ 15 := by
    have h1 := length_mergeK kvs []
    rw [List.length_nil] at h1
    omega
  have hz : (mergeK [] kvs).length ≤ sizeLine := by rw [sizeLine_eq]; omega
  have he' : ∃ q, h'.get? s.heap.objs.size = some q := let ⟨q, _, _, hq, _⟩ := dd'; ⟨q, hq⟩
  have rm : KV (mergeK [] kvs) (merged [] rs) := rk.merge .nil
  have I3 := d_write (t' := s2.toks + ws.length) I2 (by rw [e]; exact True.intro) hs he' (dk_new hz hd rm dd')
  refine wpAny_bind (thn (hx.run pins _ σ _ _ I3 q2) fun m s4 ⟨y, H4, I4, ry, o, more, ey, ne, e4, rd, l100, q4⟩ => wpAny_bind (wpAny_standAt (wpAny_pure ?_)))
  subst ey
  cases (show m = Value.ref o from ry)
  obtain ⟨z4, hd4, ms, rel4, dd4⟩ := dk_rd I4.hok rd
  obtain ⟨_, _, as, ra, da⟩ := dk_of I4.hok e4
  have hz4 : (mergeK (mergeK [] kvs) more).length ≤ sizeLine := by
    have h1 := length_mergeK more (mergeK [] kvs)
    rw [sizeLine_eq]; omega
  refine ⟨o, as, ms, rfl, ne, hd4, da, dd4, by rw [← ra.length, ← rel4.length, sizeLine_eq]; omega, fun h'' d2 sb2 => ⟨V.ref s.heap.objs.size, _, ?_, rfl, q4⟩⟩
  exact d_write I4 (by rw [e4]; exact True.intro) sb2 (let ⟨q, _, _, hq, _⟩ := d2; ⟨q, hq⟩) (dk_new hz4 hd (KV.merge rel4 ra) d2)
end
end KwX

namespace L3
open PySem PySem.Spec PyProof.Rows L2
def dkOf : D → Option (List (L2.Key × D))
  | .dk l => some l
  | _ => none
def mergeD (acc more : List (L2.Key × D)) : List (L2.Key × D) := more.foldl (fun a kv => putD a kv.1 kv.2) acc
theorem RepK.mergeR {K : PySem.W.Frag} {F : Hp} : ∀ {more : List (L2.Key × V)} {ms : List (L2.Key × D)} {acc : List (L2.Key × V)} {as : List (L2.Key × D)}, RepK K F more ms → RepK K F acc as → RepK K F (mergeK acc more) (mergeD as ms)
  | _, _, _, _, .nil, r => r
  | _, _, _, _, .cons (n := n) h t, r => by
    have := RepK.mergeR t (r.put n h)
    exact this
/-- {k: e, .., **d} -/
def nDspM (l : List (EM × EM)) (fd : EM) : NM := fun ρ => (dspLoop l [] ρ).bind fun p => (dkOf p.1).bind fun acc => (fd p.2).bind fun q => (dkOf q.1).bind fun more => if more.length ≤ 100 then some (.dk (mergeD acc more), q.2) else none
section
variable {X : Cx} {g : Gx} {keys : List (Option Expr)} {values : List Expr} {ex : Expr} {l : List (EM × EM)} {fd : EM} {pos : Pos}
theorem dn_dspM (h : PPs X pos keys values (l.map fun p => (tEx X.K p.1, tEx X.K p.2))) (hx : PE X ex (tEx X.K fd)) (hall : keys.all (·.isSome) = true) (hl : keys.length = values.length) (h0 : keys ≠ []) (h15 : keys.length ≤ 15) (hk : l.length ≤ 15)
    (he : (evalEachOpt (keys ++ [none]) X.env).zip ((evalEach (values ++ [ex]) X.env).map fun v => do let x ← v; standAt pos; pure x) = (pairTrees keys values X.env pos).map (fun p => (some p.1, p.2)) ++ [(none, do let x ← eval ex X.env; standAt pos; pure x)] := by rfl) :
    DN X g (.Dict (keys ++ [none]) (values ++ [ex]) pos) (nDspM l fd) := weakPE (KwX.pe_dispM h hx hall hl h0 h15 he) fun σ H Q ⟨F, ρ, d, ρ', G, hf, q⟩ => by
  intro a ha
  obtain ⟨p, e1, hf⟩ := bnd hf
  obtain ⟨acc, e2, hf⟩ := bnd hf
  obtain ⟨p2, e3, hf⟩ := bnd hf
  obtain ⟨more, e4, hf⟩ := bnd hf
  split at hf
  · rename_i h100
    cases hf
    obtain ⟨G1, f1, n1, p1, no1⟩ := G.fresh ha (.dK [])
    refine dsp_t (g := g) (vs := []) (G1.pin upd_same f1 no1) .nil e1 fun kvs ws F' H' G' s' rr ⟨z, hz⟩ hw hlen => ?_
    rw [hz] at e2 rr
    cases e2
    obtain ⟨G2, l2, f2, no2⟩ := G'.unpin p1
    refine ⟨l2, kvs, rfl, by rw [hlen]; exact hk, ?_⟩
    rw [← hw]
    have G3 := G2.updFree (o := .dK ws) f2 n1 p1 no2
    have no3 : ∀ i, ¬ OwnAt (upd H' a (.dK ws)) σ p.2 i a := fun j z => no2 j (G2.ownUpd no2 z)
    refine ⟨_, F', p.2, p2.1, p2.2, G3.pin upd_same f2 no3, e3, fun v F4 H4 G4 s4 r4 => ?_⟩
    obtain ⟨G5, l5, f5, no5⟩ := G4.unpin p1
    unfold dkOf at e4
    split at e4
    · rename_i mm em
      cases e4
      rw [em] at r4
      cases r4 with
      | @dk o vs _ h1 h2 =>
      have ne : a ≠ o := fun e => by rw [e] at f5; rw [f5] at h1; cases h1
      refine ⟨o, vs, rfl, ne, l5, Rd.of (G5.sub _ _ h1), by rw [h2.length]; exact h100, ?_⟩
      exact q a _ F4 _ (G5.updFree f5 n1 p1 no5) (s'.trans s4) upd_same f5 n1 p1 (fun j z => no5 j (G5.ownUpd no5 z)) (.dk (RepK.mergeR h2 (rr.mono s4)))
    · cases e4
  · cases hf
end
/-! ### C(e, .., **d) -/
def kwO (ρ : Env) : Opd → Option (List (L2.Key × D))
  | .val d => dkOf d
  | .ref i => match ρ[i]? with
    | some (some (.own _ d)) => dkOf d
    | _ => none
  | .io _ => none
def nMakeD (C : Addr) (ks : List Str) (fm : FM) (fa : AM) (fo : OM) : NM := fun ρ => (fa ρ).bind fun p => (fo p.2).bind fun q => (kwO q.2 q.1).bind fun l => if l.map (·.1) = ks.map .inr then
  (callO fm [] (.io q.2.length :: (p.1 ++ (l.map (·.2)).map Opd.val)) (q.2 ++ [some (.own none (.ins C []))])).bind (makK q.2.length) else none
theorem OpdsOk.app {K : PySem.W.Frag} {F : Hp} {σ : L2.St} : ∀ {vs : List V} {os : List Opd} {vs2 : List V} {os2 : List Opd}, OpdsOk K F σ vs os → OpdsOk K F σ vs2 os2 → OpdsOk K F σ (vs ++ vs2) (os ++ os2)
  | _, _, _, _, .nil, r => r
  | _, _, _, _, .cons h t, r => .cons h (OpdsOk.app t r)
theorem opds_vals {K : PySem.W.Frag} {F : Hp} {σ : L2.St} : ∀ {vs : List (L2.Key × V)} {ds : List (L2.Key × D)}, RepK K F vs ds → OpdsOk K F σ (vs.map (·.2)) ((ds.map (·.2)).map Opd.val)
  | _, _, .nil => .nil
  | _, _, .cons h t => .cons (o := .val _) h (opds_vals t)
theorem RepK.keysEq {K : PySem.W.Frag} {F : Hp} : ∀ {vs : List (L2.Key × V)} {ds : List (L2.Key × D)}, RepK K F vs ds → vs.map (·.1) = ds.map (·.1)
  | _, _, .nil => rfl
  | _, _, .cons (n := n) _ t => by
    show n :: _ = n :: _
    rw [RepK.keysEq t]
section
variable {X : Cx} {g : Gx} {ex : Expr} {C : Addr} {ks : List Str} {fm : FM} {fa : AM} {fo : OM} {n : Nat} {E : XK}
theorem kwO_ok {K : PySem.W.Frag} {F H : Hp} {σ : L2.St} {ρ : Env} (G : Gd K g F H σ ρ) {v : V} {o : Opd} (r : OpdOk K F σ v o) {l : List (L2.Key × D)} (e : kwO ρ o = some l) : ∃ a kvs, v = .ref a ∧ H a = some (.dK kvs) ∧ RepK K F kvs l := by
  cases o with
  | val d =>
    have e' : dkOf d = some l := e
    cases d <;> first | (cases e'; cases (show Rep K F v (.dk l) from r) with | dk h1 h2 => exact ⟨_, _, rfl, G.sub _ _ h1, h2⟩) | cases e'
  | ref i =>
    have hv : σ[i]? = some (some v) := r
    simp only [kwO] at e
    split at e
    · rename_i t d hx
      obtain ⟨a, o, hv2, _, _, hl, r3⟩ := G.slot i _ hx
      rw [hv] at hv2
      cases hv2
      cases d <;> first | (cases e; cases r3 with | dk h2 => exact ⟨_, _, rfl, hl, h2⟩) | cases e
    · cases e
  | io i => cases e
theorem dn_makeD (h : PE X ex (KwX.tMakeD C n ks (spF X.K fm) (fun vs zs => vs ++ zs) E (tA X.K g fa) (tO X.K g fo))) (hn : LenA fa n) : DN X g ex (nMakeD C ks fm fa fo) := weakPE h fun σ H Q ⟨F, ρ, d, ρ', G, hf, q⟩ => by
  obtain ⟨p, e1, hf⟩ := bnd hf
  obtain ⟨p2, e2, hf⟩ := bnd hf
  obtain ⟨l, e3, hf⟩ := bnd hf
  split at hf
  · rename_i hk
    refine ⟨F, ρ, p.1, p.2, G, e1, fun vs F1 H1 G1 s1 r1 => ⟨F1, p.2, p2.1, p2.2, G1, e2, fun v F2 H2 G2 s2 r2 => ?_⟩⟩
    obtain ⟨a, kvs, rfl, ha, rk⟩ := kwO_ok G2 r2 e3
    refine ⟨a, kvs, rfl, Rd.of ha, rk.keysEq.trans hk, by rw [r1.length, hn _ _ _ e1], fun x dx hx hd ne => ?_⟩
    have h1 := make_h (C := C) (E := E) (dvs := []) (dds := []) (fun _ => .nil) G2 (OpdsOk.app (r1.mono s2) (opds_vals rk)) hf (fun l o F' H' G' s' => q l o F' H' G' ((s1.trans s2).trans s')) hx hd ne
    rw [List.append_nil] at h1
    exact h1
  · cases hf
end
/-! ### running these mirrors -/
section
variable {ρ : Env} {Q : D × Env → Prop} {C : Addr} {ks : List Str} {fm : FM} {fa : AM} {fo : OM} {fe fd : EM} {m : Str} {l : List (EM × EM)}
theorem dkOf_k {l : List (L2.Key × D)} : dkOf (.dk l) = some l := rfl
theorem kwO_v {d : D} : kwO ρ (.val d) = dkOf d := rfl
theorem kwO_r {i : Nat} : kwO ρ (.ref i) = (match ρ[i]? with
    | some (some (.own _ d)) => dkOf d
    | _ => none) := rfl
theorem x_makK {n : Nat} {r : Res × Bool × Env} : Ex (makK n r) Q = (isNon r.1 = true ∧ Ex (ownNew r.2.2 n) fun x => (r.2.1 = true ∨ lfo x = true) ∧ Q (x, r.2.2.take n)) := by
  simp only [ex_eq]
  obtain ⟨r1, r2, ρ2⟩ := r
  unfold makK ownNew
  dsimp only
  cases r1 with
  | n x => simp [isNon, ex0_none]
  | r x => simp [isNon, ex0_none]
  | d x =>
    cases x <;> simp only [isNon, Bool.false_eq_true, false_and, ex0_none, true_and]
    generalize ρ2[n]? = z; rcases z with _ | _ | x | ⟨_ | t, x⟩ | ⟨_ | t, x⟩ <;> simp only [ex0_some, ex0_none, ex0_guard, Bool.or_eq_true]
theorem x_eKw : Ex (eKw C m ks fm fe fa ρ) Q = Ex (fe ρ) fun p => insOk C m (some p.1) = true ∧ Ex (fa p.2) fun q => Ex (valsOf q.1) fun ds => ds.length = ks.length ∧
    Ex (callO fm [] [.val p.1, .val (.dk ((ks.map .inr).zip ds))] q.2) fun r => Ex (finR r) Q := by
  simp only [ex_eq]
  unfold eKw
  simp only [ex0_bind, ex0_guard]
theorem x_nDspM : Ex (nDspM l fd ρ) Q = Ex (dspLoop l [] ρ) fun p => Ex (dkOf p.1) fun acc => Ex (fd p.2) fun q => Ex (dkOf q.1) fun more => more.length ≤ 100 ∧ Q (.dk (mergeD acc more), q.2) := by
  simp only [ex_eq]
  unfold nDspM
  simp only [ex0_bind, ex0_guard, ex0_some]
theorem x_nMakeD : Ex (nMakeD C ks fm fa fo ρ) Q = Ex (fa ρ) fun p => Ex (fo p.2) fun q => Ex (kwO q.2 q.1) fun l => l.map (·.1) = ks.map .inr ∧
    Ex (callO fm [] (.io q.2.length :: (p.1 ++ (l.map (·.2)).map Opd.val)) (q.2 ++ [some (.own none (.ins C []))])) fun r => isNon r.1 = true ∧ Ex (ownNew r.2.2 q.2.length) fun x => (r.2.1 = true ∨ lfo x = true) ∧ Q (x, r.2.2.take q.2.length) := by
  simp only [ex_eq]
  unfold nMakeD
  simp only [ex0_bind, ex0_guard]
  congr 1; funext p; congr 1; funext q; congr 1; funext l; congr 1; congr 1; funext r
  have := @x_makK Q q.2.length r
  simp only [ex_eq] at this
  exact this
end
/-! ### defaults that are constants of the text; keyword-only ones -/
theorem kdR_ok {K : PySem.W.Frag} {a : Addr} {d : D} (h : kd K (.ref a) d = true) (F : Hp) : Rep K F (.ref a) d := by
  obtain ⟨v, r1, r2⟩ := kd_ok h
  have : v = .ref a := by
    cases v <;> first | (cases (show Value.ref a = Value.ref _ from r1); rfl) | (obtain ⟨_, h⟩ := r1; cases h) | cases r1
  subst this
  exact r2 F
/-- a proved def with keyword-only parameters: n written ones, then the names ks -/
structure DoneK (P : Program) (w : World) (K : PySem.W.Frag) (mg : Str → Option Value) (base : Heap) (k : Nat) (f : Addr) (ps : List Str) (n : Nat) (ks : List Str) (fm : FM) (dvs : List V) (fd : FuncData) : Prop where
  ok : FnOk P w K mg base CX0 k f fd ps (spF K fm)
  kp : PySem.W.keepIn K (.ref f) = true
  dd : ∃ ds, Vals dvs ds ∧ Binds K fd ps ds
  kb : KBn K fd ps n ks (fun us ws => us ++ ws) (fun vs zs => vs ++ zs)
/-- a proved def (self, **d) -/
structure DoneD (P : Program) (w : World) (K : PySem.W.Frag) (mg : Str → Option Value) (base : Heap) (k : Nat) (p1 : Str) (f : Addr) (fm : FM) : Prop where
  ok : FnKw P w K mg base k p1 f (spF K fm)
  kp : PySem.W.keepIn K (.ref f) = true
section
variable {K : PySem.W.Frag} {x qual : Str} {params : Arguments} {body : List Stmt} {scope : Scope} {kws : List (Str × V)} {f : Addr} {fd : FuncData} {ps : List Str}
theorem kbAll (F : FunD K x qual params body scope [] kws f fd) (n : Nat) (ks : List Str) (hk : kws ≠ [])
    (h : ∀ (D : Addr) (doc pm : Value) (an : Option Addr) (cdv ct : Value) (us ws : List Value), us.length = n → ws.length = ks.length → bindArgs (PySem.W.fnOf x qual params body scope .none (.ref D) doc pm an cdv ct) ⟨us, ks.zip ws⟩ = pure (ps.zip (us ++ ws))) :
    KBn K fd ps n ks (fun us ws => us ++ ws) (fun vs zs => vs ++ zs) := by
  obtain ⟨_, b⟩ := FunD.kbinds0 (ps := ps) F n ks [] (fun us _ ws => us ++ ws) hk (fun q hq => nomatch hq) (fun r1 _ r3 => r1.append r3) fun D doc pm an cdv ct us mv ws l1 _ l3 => h D doc pm an cdv ct us ws l1 l3
  exact b
end
end L3

/-! things with boxes: an own object or list in which other changeable things lie -/
namespace L3
open PySem PySem.Spec PyProof.Rows L2
section
variable {K : PySem.W.Frag} {F H H' : Hp}
theorem getB (f : Str) : ∀ {vs : List (Str × V)} {ds : List (Str × D)}, vs.map (·.1) = ds.map (·.1) → BReps K F H (vs.map (·.2)) (ds.map (·.2)) → ∀ {d : D}, ds.lookup f = some d →
    ∃ v, vs.lookup f = some v ∧ BRep K F H v d ∧ ∀ a ∈ bx1 v d, a ∈ bxs (vs.map (·.2)) (ds.map (·.2))
  | [], [], _, _, _, e => by cases e
  | [], _ :: _, h, _, _, _ => by cases h
  | _ :: _, [], h, _, _, _ => by cases h
  | (n, v) :: vs, (m, d) :: ds, h, r, d', e => by
    obtain ⟨e1, e2⟩ := List.cons.inj h
    have e1' : n = m := e1
    subst e1'
    cases r with
    | cons h1 h2 =>
      simp only [List.lookup] at e ⊢
      split at e
      · rename_i q
        cases e
        exact ⟨v, rfl, h1, fun a m => List.mem_append_left _ m⟩
      · rename_i q
        obtain ⟨w, a1, a2, a3⟩ := getB f e2 h2 e
        exact ⟨w, a1, a2, fun a m => List.mem_append_right _ (a3 a m)⟩
theorem bx1_nodup (v : V) (d : D) : (bx1 v d).Nodup := by unfold bx1; split <;> simp
theorem putB {f : Str} {v : V} {d : D} (hb : BRep K F H v d) : ∀ {vs : List (Str × V)} {ds : List (Str × D)}, vs.map (·.1) = ds.map (·.1) → BReps K F H (vs.map (·.2)) (ds.map (·.2)) →
    (putF f v vs).map (·.1) = (putFD f d ds).map (·.1) ∧ BReps K F H ((putF f v vs).map (·.2)) ((putFD f d ds).map (·.2)) ∧ (∀ a ∈ bxs ((putF f v vs).map (·.2)) ((putFD f d ds).map (·.2)), a ∈ bx1 v d ∨ a ∈ bxs (vs.map (·.2)) (ds.map (·.2))) ∧
      ((bxs (vs.map (·.2)) (ds.map (·.2))).Nodup → (∀ a ∈ bx1 v d, a ∉ bxs (vs.map (·.2)) (ds.map (·.2))) → (bxs ((putF f v vs).map (·.2)) ((putFD f d ds).map (·.2))).Nodup)
  | [], [], _, _ => ⟨rfl, .cons hb .nil, fun a m => .inl (by simpa [putF, putFD, bxs] using m), fun _ _ => by simpa [putF, putFD, bxs] using bx1_nodup v d⟩
  | [], _ :: _, h, _ => by cases h
  | _ :: _, [], h, _ => by cases h
  | (n, w) :: vs, (m, e) :: ds, h, r => by
    obtain ⟨e1, e2⟩ := List.cons.inj h
    have e1' : n = m := e1
    subst e1'
    cases r with
    | cons h1 h2 =>
      obtain ⟨a1, a2, a3, a4⟩ := putB hb e2 h2
      unfold putF putFD
      by_cases q : n = f
      · rw [if_pos q, if_pos q]
        refine ⟨by simpa using e2, .cons hb h2, fun a m => ?_, fun nd no => ?_⟩
        · rcases List.mem_append.mp (show a ∈ bx1 v d ++ bxs (vs.map (·.2)) (ds.map (·.2)) from m) with m | m
          · exact .inl m
          · exact .inr (List.mem_append_right _ m)
        · have nd' : (bx1 w e ++ bxs (vs.map (·.2)) (ds.map (·.2))).Nodup := nd
          show (bx1 v d ++ bxs (vs.map (·.2)) (ds.map (·.2))).Nodup
          rw [List.nodup_append] at nd' ⊢
          exact ⟨bx1_nodup v d, nd'.2.1, fun a ha b hb2 e => no a ha (by subst e; exact List.mem_append_right _ hb2)⟩
      · rw [if_neg q, if_neg q]
        refine ⟨by simpa using a1, .cons h1 a2, fun a m => ?_, fun nd no => ?_⟩
        · rcases List.mem_append.mp (show a ∈ bx1 w e ++ bxs ((putF f v vs).map (·.2)) ((putFD f d ds).map (·.2)) from m) with m | m
          · exact .inr (List.mem_append_left _ m)
          · rcases a3 a m with m | m
            · exact .inl m
            · exact .inr (List.mem_append_right _ m)
        · have nd' : (bx1 w e ++ bxs (vs.map (·.2)) (ds.map (·.2))).Nodup := nd
          show (bx1 w e ++ bxs ((putF f v vs).map (·.2)) ((putFD f d ds).map (·.2))).Nodup
          rw [List.nodup_append] at nd' ⊢
          refine ⟨nd'.1, a4 nd'.2.1 fun a ha hb2 => no a ha (List.mem_append_right _ hb2), fun a ha b hb2 e => ?_⟩
          subst e
          rcases a3 a hb2 with m | m
          · exact no a m (List.mem_append_left _ ha)
          · exact nd'.2.2 a ha a m rfl
theorem treIns {o : HO} {C : Addr} {ds : List (Str × D)} (h : TRep K F H o (.ins C ds)) : ∃ dx vs, o = .ins C dx vs ∧ vs.map (·.1) = ds.map (·.1) ∧ BReps K F H (vs.map (·.2)) (ds.map (·.2)) := by
  cases h with | ins e r => exact ⟨_, _, rfl, e, r⟩
end
def isBox : D → Bool
  | .box _ => true
  | _ => false
/-- a field of an own object with boxes, that is no box -/
def eFldT (i : Nat) (C : Addr) (f : Str) : EM := fun ρ => match ρ[i]? with
  | some (some (.tre _ (.ins C' gs))) => if C' = C then (gs.lookup f).bind fun x => if isBox x = false then some (x, ρ) else none else none
  | _ => none
theorem de_fldT {X : Cx} {g : Gx} {ex : Expr} {i : Nat} {C : Addr} {f : Str} (c : Cls X.K C) (n : NoAttr X.K C f) (h : PE X ex (tFld X.K (tVar i) f)) : DE X g ex (eFldT i C f) := weakPE h fun σ H Q ⟨F, ρ, d, ρ', G, hf, q⟩ => by
  unfold eFldT at hf
  split at hf
  · rename_i t C' gs hx
    split at hf
    · rename_i hC
      obtain ⟨x, e1, hf⟩ := bnd hf
      split at hf
      · rename_i hb
        cases hf
        subst hC
        obtain ⟨l, o, hv, _, _, hl, r, _, _⟩ := G.slot i _ hx
        obtain ⟨dx, vs, rfl, en, rb⟩ := treIns r
        obtain ⟨v, e2, r2, _⟩ := getB f en rb e1
        cases r2 with
        | d r2 => exact ⟨_, hv, l, C', dx, vs, v, rfl, hl, c, n, e2, q v F H G (Same.refl _) r2⟩
        | box _ _ _ => cases hb
      · cases hf
    · cases hf
  · cases hf
/-- slot.f = e, e data -/
def sFldT (i : Nat) (C : Addr) (f : Str) (fv : EM) : SM := fun ρ => (fv ρ).bind fun p => match p.2[i]? with
  | some (some (.tre t (.ins C' gs))) => if C' = C ∧ gs.length < 1000 ∧ isBox p.1 = false then some (.nx, p.2.set i (some (.tre t (.ins C' (putFD f p.1 gs))))) else none
  | _ => none
/-- slot.f = a fresh thing -/
def sFldB (i : Nat) (C : Addr) (f : Str) (fn : NM) : SM := fun ρ => (fn ρ).bind fun p => match p.2[i]? with
  | some (some (.tre t (.ins C' gs))) => if C' = C ∧ gs.length < 1000 then some (.nx, p.2.set i (some (.tre t (.ins C' (putFD f (.box p.1) gs))))) else none
  | _ => none
section
variable {X : Cx} {g : Gx} {st : Stmt} {fv : EM} {fn : NM} {i : Nat} {C : Addr} {f : Str}
theorem putGd {K : PySem.W.Frag} {F H : Hp} {σ : L2.St} {ρ : Env} (G : Gd K g F H σ ρ) {t : Option Nat} {gs : List (Str × D)} (hx : ρ[i]? = some (some (.tre t (.ins C gs)))) {v : V} {d : D} (hb : BRep K F H v d) (fr : ∀ a ∈ bx1 v d, F a = none ∧ g.H0 a = none ∧ g.pin a = none ∧ ∀ j, ¬ OwnAt H σ ρ j a) :
    ∃ l dx vs, σ[i]? = some (some (.ref l)) ∧ H l = some (.ins C dx vs) ∧ vs.length = gs.length ∧ Gd K g F (upd H l (.ins C dx (putF f v vs))) σ (ρ.set i (some (.tre t (.ins C (putFD f d gs))))) := by
  obtain ⟨l, o, hv, _, fl, hl, r, nd, _⟩ := G.slot i _ hx
  obtain ⟨dx, vs, rfl, en, rb⟩ := treIns r
  have ownl : OwnAt H σ ρ i l := .ofT hv hx hl List.mem_cons_self
  have own : ∀ a ∈ bxs (vs.map (·.2)) (gs.map (·.2)), OwnAt H σ ρ i a := fun a m => .ofT hv hx hl (List.mem_cons_of_mem _ m)
  obtain ⟨a1, a2, a3, a4⟩ := putB (f := f) hb en rb
  have nd' := List.nodup_cons.mp nd
  have hne : ∀ a ∈ bxs ((putF f v vs).map (·.2)) ((putFD f d gs).map (·.2)), a ≠ l := fun a m e => by
    rcases a3 a m with m | m
    · exact (fr a m).2.2.2 i (e ▸ ownl)
    · exact nd'.1 (e ▸ m)
  refine ⟨l, dx, vs, hv, hl, by simpa using congrArg List.length en, ?_⟩
  refine G.updTre hx hv hl (ws := .ins C dx (putF f v vs)) (fun a m => upd_ne fun e => m (e ▸ List.mem_cons_self)) (fun a m => ?_) upd_same (.ins a1 (a2.move (Same.refl _) fun a m => ⟨(a2.at_ a m).1, upd_ne (hne a m)⟩)) ?_ fun a m => ?_
  · by_cases e : a = l
    · subst e; rw [upd_same]; simp
    · rw [upd_ne e]
      rcases List.mem_cons.mp m with m | m
      · exact absurd m e
      · obtain ⟨_, u, hu, _⟩ := rb.at_ a m
        rw [hu]; simp
  · exact List.nodup_cons.mpr ⟨fun m => hne l m rfl, a4 nd'.2 fun a m m2 => (fr a m).2.2.2 i (own a m2)⟩
  · rcases a3 a m with m | m
    · exact .inr ⟨(fr a m).2.1, (fr a m).2.2.1, (fr a m).2.2.2⟩
    · exact .inl m
theorem ds_fldT (c : Cls X.K C) (n : NoAttr X.K C f) (h : PS X st (sFld X.K (tVar i) (tE X.K g fv) f)) : DS X g st (sFldT i C f fv) :=
  weakPS h fun D σ H ⟨F, ρ, out, ρ', G, hf, q⟩ => by
  obtain ⟨p, e1, hf⟩ := bnd hf
  split at hf
  · rename_i t C' gs hx
    split at hf
    · rename_i hc
      obtain ⟨hcc, hl, hb⟩ := hc
      cases hf
      subst hcc
      refine ⟨F, ρ, p.1, p.2, G, e1, fun w F1 H1 G1 s1 r1 => ?_⟩
      obtain ⟨l, dx, vs, hv, hl1, ln, G2⟩ := putGd (f := f) G1 hx (.d r1) (fun a m => by rw [r1.nobox] at m; cases m)
      exact ⟨_, hv, l, _, dx, vs, rfl, hl1, c, n, by rw [ln]; exact hl, q σ F1 _ G2 s1⟩
    · cases hf
  · cases hf
theorem ds_fldB (c : Cls X.K C) (n : NoAttr X.K C f) (h : PS X st (sFld X.K (tVar i) (tN X.K g fn) f)) : DS X g st (sFldB i C f fn) :=
  weakPS h fun D σ H ⟨F, ρ, out, ρ', G, hf, q⟩ => by
  obtain ⟨p, e1, hf⟩ := bnd hf
  split at hf
  · rename_i t C' gs hx
    split at hf
    · rename_i hc
      obtain ⟨hcc, hl⟩ := hc
      cases hf
      subst hcc
      refine ⟨F, ρ, p.1, p.2, G, e1, fun l2 o2 F1 H1 G1 s1 h2 f2 n2 p2 no2 r2 => ?_⟩
      obtain ⟨l, dx, vs, hv, hl1, ln, G2⟩ := putGd (f := f) G1 hx (v := .ref l2) (d := .box p.1) (.box f2 h2 r2) (fun a m => by
        have : a = l2 := by simpa [bx1] using m
        subst this
        exact ⟨f2, n2, p2, no2⟩)
      exact ⟨_, hv, l, _, dx, vs, rfl, hl1, c, n, by rw [ln]; exact hl, q σ F1 _ G2 s1⟩
    · cases hf
  · cases hf
end
/-! ### quiet expressions: the old things stay as they are -/
def tEQ (K : PySem.W.Frag) (g : Gx) (f : EM) : TE := fun σ H Q => ∃ F ρ d ρ', Gd K g F H σ ρ ∧ f ρ = some (d, ρ') ∧ ∀ v F' H', Gd K g F' H' σ ρ' → Same F F' → Rep K F' v d → Same H H' → Q v H'
def tAQ (K : PySem.W.Frag) (g : Gx) (f : AM) : TA := fun σ H Q => ∃ F ρ os ρ', Gd K g F H σ ρ ∧ f ρ = some (os, ρ') ∧ ∀ vs F' H', Gd K g F' H' σ ρ' → Same F F' → OpdsOk K F' σ vs os → Same H H' → Q vs H'
abbrev DQ (X : Cx) (g : Gx) (e : Expr) (f : EM) : Prop := PE X e (tEQ X.K g f)
abbrev QA (X : Cx) (g : Gx) (es : List Expr) (f : AM) : Prop := PA X es (tAQ X.K g f)
section
variable {X : Cx} {g : Gx} {ex : Expr} {es : List Expr} {i : Nat} {v : V} {d : D} {f : EM} {fa : AM} {n : Nat} {pos : Pos}
theorem dq_v (h : PE X ex (tVar i)) : DQ X g ex (eV i) := weakPE h fun σ H Q ⟨F, ρ, d, ρ', G, hf, q⟩ => by
  unfold eV at hf
  split at hf
  · rename_i x hx
    cases hf
    obtain ⟨v, e, r⟩ := G.slot i _ hx
    exact ⟨v, e, q v F H G (Same.refl _) r (Same.refl _)⟩
  · cases hf
theorem dq_c (h : PE X ex (tC v)) (r : ∀ F, Rep X.K F v d) : DQ X g ex (eC d) := weakPE h fun σ H Q ⟨F, ρ, d, ρ', G, hf, q⟩ => by
  cases hf
  exact q v F H G (Same.refl _) (r F) (Same.refl _)
theorem qa_n : QA X g [] aN := weakPA pa_nil fun σ H Q ⟨F, ρ, d, ρ', G, hf, q⟩ => by
  cases hf
  exact q _ F H G (Same.refl _) .nil (Same.refl _)
theorem qa_c (h : DQ X g ex f) (hr : QA X g es fa) (hs : starEach (ex :: es) X.env = (false, eval ex X.env) :: starEach es X.env := by rfl) : QA X g (ex :: es) (aC (oV f) fa) := weakPA (pa_cons h hr hs) fun σ H Q ⟨F, ρ, d, ρ', G, hf, q⟩ => by
  obtain ⟨p, e1, hf⟩ := bnd hf
  obtain ⟨p0, e0, e1⟩ := bnd e1
  cases e1
  obtain ⟨p', e2, hf⟩ := bnd hf
  cases hf
  exact ⟨F, ρ, p0.1, p0.2, G, e0, fun v F1 H1 G1 s1 r1 k1 => ⟨F1, p0.2, p'.1, p'.2, G1, e2, fun vs F2 H2 G2 s2 r2 k2 => q _ F2 H2 G2 (s1.trans s2) (.cons (o := .val p0.1) (Rep.mono s2 r1) r2) (k1.trans k2)⟩⟩
theorem dq_tup {x1} (h : QA X g es fa) (l : LenA fa n) (hn : n ≤ 1000 := by decide) : DQ X g (.Tuple es x1 pos) (eTup fa) := weakPE (pe_tup h) fun σ H Q ⟨F, ρ, d, ρ', G, hf, q⟩ => by
  obtain ⟨p, e, hf⟩ := bnd hf
  obtain ⟨ds, e1, hf⟩ := bnd hf
  cases hf
  refine ⟨F, ρ, p.1, p.2, G, e, fun vs F' H' G' s r k => ⟨?_, fun a ha => ?_⟩⟩
  · rw [r.length, l _ _ _ e]; exact Nat.le_of_lt (small1000 hn)
  · have x := Ext.alloc G'.sub ha (.tup vs)
    exact q _ _ _ (G'.ext x) (s.trans x.ff) (.tup upd_same ((valsOk r e1).mono x.ff)) (k.trans fun b o e => by rw [upd_ne (ne_of_none e ha)]; exact e)
end
/-! ### slot.f.append(e) -/
theorem setB {K : PySem.W.Frag} {F H : Hp} {f : Str} {l2 : Addr} {o' : HO} {d' : D} (r' : ORep K F o' d') (f2 : F l2 = none) : ∀ {vs : List (Str × V)} {ds : List (Str × D)} {d0 : D}, vs.map (·.1) = ds.map (·.1) → BReps K F H (vs.map (·.2)) (ds.map (·.2)) → (bxs (vs.map (·.2)) (ds.map (·.2))).Nodup →
    ds.lookup f = some (.box d0) → vs.lookup f = some (.ref l2) → (putFD f (.box d') ds).map (·.1) = ds.map (·.1) ∧ BReps K F (upd H l2 o') (vs.map (·.2)) ((putFD f (.box d') ds).map (·.2)) ∧ bxs (vs.map (·.2)) ((putFD f (.box d') ds).map (·.2)) = bxs (vs.map (·.2)) (ds.map (·.2)) ∧ l2 ∈ bxs (vs.map (·.2)) (ds.map (·.2))
  | [], [], _, _, _, _, e, _ => by cases e
  | [], _ :: _, _, h, _, _, _, _ => by cases h
  | _ :: _, [], _, h, _, _, _, _ => by cases h
  | (n, v) :: vs, (m, d) :: ds, d0, h, r, nd, e, e' => by
    obtain ⟨e1, e2⟩ := List.cons.inj h
    have e1' : n = m := e1
    subst e1'
    cases r with
    | cons h1 h2 =>
      have nd' : (bx1 v d ++ bxs (vs.map (·.2)) (ds.map (·.2))).Nodup := nd
      rw [List.nodup_append] at nd'
      simp only [List.lookup] at e e'
      by_cases q : f = n
      · subst q
        rw [beq_self_eq_true] at e e'
        cases e
        cases e'
        unfold putFD
        rw [if_pos rfl]
        refine ⟨rfl, .cons (.box f2 upd_same r') (h2.move (Same.refl _) fun a m => ⟨(h2.at_ a m).1, upd_ne fun z => ?_⟩), rfl, List.mem_append_left _ (by simp [bx1])⟩
        exact nd'.2.2 l2 (by simp [bx1]) a m z.symm
      · have qb : (f == n) = false := by rw [beq_eq_false_iff_ne]; exact q
        rw [qb] at e e'
        obtain ⟨b1, b2, b3, b4⟩ := setB r' f2 e2 h2 nd'.2.1 e e'
        unfold putFD
        rw [if_neg (Ne.symm q)]
        refine ⟨by simpa using b1, .cons (h1.move (Same.refl _) fun a m => ⟨?_, upd_ne fun z => ?_⟩) b2, ?_, List.mem_append_right _ b4⟩
        · have : a ∈ bxs (v :: vs.map (·.2)) (d :: ds.map (·.2)) := List.mem_append_left _ m
          exact ((BReps.cons h1 h2).at_ a this).1
        · subst z
          exact nd'.2.2 a m a b4 rfl
        · show bx1 v d ++ _ = bx1 v d ++ _
          rw [b3]
def boxL : Option D → Option (List D)
  | some (.box (.lst xs)) => some xs
  | _ => none
theorem boxL_ok {x : Option D} {xs : List D} (h : boxL x = some xs) : x = some (.box (.lst xs)) := by
  unfold boxL at h
  split at h
  · cases h; rfl
  · cases h
def sAppF (i : Nat) (C : Addr) (f : Str) (fe : EM) : SM := fun ρ => match ρ[i]? with
  | some (some (.tre _ (.ins C0 gs0))) => if C0 = C then (boxL (gs0.lookup f)).bind fun _ => (fe ρ).bind fun p => match p.2[i]? with
    | some (some (.tre t (.ins C' gs))) => if C' = C then (boxL (gs.lookup f)).bind fun xs => if xs.length < 16777216 then some (.nx, p.2.set i (some (.tre t (.ins C' (putFD f (.box (.lst (xs ++ [p.1]))) gs))))) else none else none
    | _ => none
    else none
  | _ => none
theorem ds_appF {X : Cx} {g : Gx} {ex : Expr} {fe : EM} {i : Nat} {C : Addr} {f : Str} {pos : Pos} (c : Cls X.K C) (n : NoAttr X.K C f) (h : PE X ex (tBM X.K "list" rAppend (tFld X.K (tVar i) f) (tCons (tEQ X.K g fe) tNil))) (hs : swapsWith ex none pos.line X.env = pure false := by rfl) :
    DS X g (.Expr ex pos) (sAppF i C f fe) := weakPS (ps_expr h hs) fun D σ H ⟨F, ρ, out, ρ', G, hf, q⟩ => by
  unfold sAppF at hf
  split at hf
  · rename_i t0 C0 gs0 hx0
    split at hf
    · rename_i hC0
      obtain ⟨xs0, e0, hf⟩ := bnd hf
      obtain ⟨p, e1, hf⟩ := bnd hf
      split at hf
      · rename_i t C' gs hx
        split at hf
        · rename_i hC
          obtain ⟨xs, e2, hf⟩ := bnd hf
          split at hf
          · rename_i hlen
            cases hf
            subst hC
            subst hC0
            obtain ⟨l, o, hv, _, fl, hl, r, nd, _⟩ := G.slot i _ hx0
            obtain ⟨dx, vs, rfl, en, rb⟩ := treIns r
            obtain ⟨v, ev, rv, mem0⟩ := getB f en rb (boxL_ok e0)
            cases rv with
            | d z => cases z
            | @box l2 o2 _ f2 h2 r2 =>
              obtain ⟨ws0, rfl, _⟩ := ownLst r2
              refine ⟨_, hv, l, _, dx, vs, _, rfl, hl, c, n, ev, .inl ⟨rfl, _, SqL.of h2⟩, F, ρ, p.1, p.2, G, e1, fun w F1 H1 G1 s1 r1 k1 => ?_⟩
              obtain ⟨l', o', hv', _, fl1, hl1, rr, nd1, _⟩ := G1.slot i _ hx
              rw [hv] at hv'
              cases hv'
              rw [k1 _ _ hl] at hl1
              cases hl1
              obtain ⟨dx', vs', eo, en1, rb1⟩ := treIns rr
              cases eo
              obtain ⟨v', ev', rv', mem1⟩ := getB f en1 rb1 (boxL_ok e2)
              rw [ev] at ev'
              cases ev'
              cases rv' with
              | d z => cases z
              | @box _ o3 _ f3 h3 r3 =>
                obtain ⟨ws, rfl, r4⟩ := ownLst r3
                have nd2 := List.nodup_cons.mp nd1
                obtain ⟨b1, b2, b3, b4⟩ := setB (f := f) (H := H1) (ORep.lst (r4.append (.cons r1 .nil))) f3 en1 rb1 nd2.2 (boxL_ok e2) ev
                have ne : l ≠ l2 := fun z => nd2.1 (z ▸ b4)
                refine ⟨l2, ws, w, rfl, rfl, h3, by rw [r4.length, sizeLine_eq]; exact hlen, q σ F1 _ ?_ s1⟩
                refine G1.updTre hx hv (k1 _ _ hl) (fun a m => upd_ne fun z => m (z ▸ List.mem_cons_of_mem _ b4)) (fun a m => ?_) (by rw [upd_ne ne]; exact k1 _ _ hl) (.ins (en1.trans b1.symm) b2) ?_ fun a m => .inl ?_
                · by_cases e : a = l2
                  · subst e; rw [upd_same]; simp
                  · rw [upd_ne e]
                    rcases List.mem_cons.mp m with m | m
                    · subst m; rw [k1 _ _ hl]; simp
                    · obtain ⟨_, u, hu, _⟩ := rb1.at_ a m
                      rw [hu]; simp
                · show (l :: bxs _ _).Nodup
                  rw [b3]; exact nd1
                · have m' : a ∈ bxs (vs.map (·.2)) ((putFD f (.box (.lst (xs ++ [p.1]))) gs).map (·.2)) := m
                  rw [b3] at m'
                  exact m'
          · cases hf
        · cases hf
      · cases hf
    · cases hf
  · cases hf
/-! ### a new instance with boxes; calls that hand one back -/
def makT (n : Nat) : Res × Bool × Env → Option (D × Env) := fun r => match r.1 with
  | .d .non => match r.2.2[n]? with
    | some (some (.tre none x)) => if r.2.1 || lfo x then some (x, r.2.2.take n) else none
    | _ => none
  | _ => none
def nMakeT (C : Addr) (fm : FM) (dds : List D) (fa : AM) : NM := fun ρ => (fa ρ).bind fun p => (callO fm dds (.io p.2.length :: p.1) (p.2 ++ [some (.tre none (.ins C []))])).bind (makT p.2.length)
/-- a result with boxes -/
def finT (r : Res × Bool × Env) : Option (D × Env) := (resT r.1).bind fun x => if (r.2.1 || lfo x) = true then some (x, r.2.2) else none
def nCallT (fm : FM) (dds : List D) (fa : AM) : NM := fun ρ => (fa ρ).bind fun p => (callO fm dds p.1 p.2).bind finT
def nMethT (C : Addr) (m : Str) (fm : FM) (dds : List D) (fo : OM) (fa : AM) : NM := fun ρ => (fo ρ).bind fun p => if insOk C m (conts p.2 p.1) = true then (fa p.2).bind fun q => (callO fm dds (p.1 :: q.1) q.2).bind finT else none
section
variable {K : PySem.W.Frag} {g : Gx} {fm : FM} {dds : List D} {dvs : List V} {E : XK} {C : Addr}
theorem make_hT {F1 H1 : Hp} {σ : L2.St} {ρ ρ' : Env} {os : List Opd} {vs : List V} {d : D} {Q : VK} (hdd : ∀ F, Reps K F dvs dds) (G1 : Gd K g F1 H1 σ ρ) (r1 : OpdsOk K F1 σ vs os)
    (hf : ((callO fm dds (.io ρ.length :: os) (ρ ++ [some (.tre none (.ins C []))])).bind (makT ρ.length)) = some (d, ρ'))
    (q : ∀ l o F' H', Gd K g F' H' σ ρ' → Same F1 F' → FrT K g F' H' σ ρ' l o d → Q (.ref l) H') {x dx : Addr} (hx : H1 x = none) (hd : H1 dx = none) (ne : dx ≠ x) :
    spF K fm (.ref x :: (vs ++ dvs)) (upd (upd H1 dx (.own x)) x (.ins C dx [])) (fun v H2 => v = .non ∧ Q (.ref x) H2) E := by
  obtain ⟨⟨rr, nr, ρ2⟩, e2, hf⟩ := bnd hf
  have Gm := G1.moreS (C := C) hx hd ne (.inr rfl)
  have hs : σ.length = ρ.length := G1.len
  have r2 : OpdsOk K F1 (σ ++ [some (.ref x)]) (V.ref x :: vs) (.io ρ.length :: os) := .cons (show (σ ++ [some (.ref x)])[ρ.length]? = some (some (.ref x)) by rw [← hs]; simp) r1.more
  unfold makT at hf
  dsimp only at hf
  cases rr with
  | n y => cases hf
  | r y => cases hf
  | d y =>
    cases y with
    | non =>
      dsimp only at hf
      split at hf
      · rename_i z hz
        split at hf
        · rename_i hg
          cases hf
          have len2 : ρ2.length = ρ.length + 1 := by rw [callO_len e2]; simp
          refine callO_t (vs := V.ref x :: vs) hdd Gm r2 e2 fun v F2 F3 H3 ad rep reps trep none G3 sF rs => ?_
          have rs' : Rep K F2 v .non := rs
          cases rs'
          refine ⟨rfl, ?_⟩
          obtain ⟨l, o, hv, tg, fl, hl, ro, nd, tx⟩ := G3.slot ρ.length _ hz
          have hv' : (σ ++ [some (.ref x)])[ρ.length]? = some (some (.ref x)) := by rw [← hs]; simp
          rw [hv'] at hv
          cases hv
          have ox : ∀ a ∈ x :: bx o d, OwnAt H3 (σ ++ [some (.ref x)]) ρ2 ρ.length a := fun a m => .ofT hv' hz hl m
          have G4 : Gd K g F3 H3 σ (ρ2.take ρ.length) := G3.fewer hs (fun i hi => List.getElem?_append_left (by rw [hs]; exact hi)) (by omega)
          refine q x o F3 H3 G4 sF ⟨hl, ro, nd, fun a m => ⟨?_, ?_, ?_, fun i hi => ?_⟩⟩
          · rcases List.mem_cons.mp m with m | m
            · subst m; exact fl
            · exact (ro.at_ a m).1
          · rcases List.mem_cons.mp m with m | m
            · subst m; exact tg
            · exact tx a m
          · cases e : g.pin a with
            | none => rfl
            | some u => exact absurd (ox a m) ((G3.pinned a u e).2.2 _)
          · obtain ⟨s, hs2⟩ := hi.slot
            have hlt : i < ρ.length := by
              have := (List.getElem?_eq_some_iff.mp hs2).1
              simp at this; omega
            have := G3.dist i ρ.length a (hi.to (List.getElem?_append_left (by rw [hs]; exact hlt)) (List.getElem?_take_of_lt hlt).symm fun _ _ _ _ _ => rfl) (ox a m)
            omega
        · cases hf
      · cases hf
    | _ => cases hf
end
section
variable {X : Cx} {g : Gx} {ex : Expr} {fm : FM} {dds : List D} {dvs : List V} {E : XK} {C : Addr} {fa : AM} {fo : OM} {m : Str}
theorem dr_make (hdd : ∀ F, Reps X.K F dvs dds) (h : PE X ex (tMake C (spF X.K fm) dvs E (tA X.K g fa))) : DR X g ex (nMakeT C fm dds fa) := weakPE h fun σ H Q ⟨F, ρ, d, ρ', G, hf, q⟩ => by
  obtain ⟨p, e1, hf⟩ := bnd hf
  exact ⟨F, ρ, p.1, p.2, G, e1, fun vs F1 H1 G1 s1 r1 x dx hx hd ne => make_hT hdd G1 r1 hf (fun l o F' H' G' s' => q l o F' H' G' (s1.trans s')) hx hd ne⟩
/-- with boxes, from a call -/
theorem callO_r {K : PySem.W.Frag} (hdd : ∀ F, Reps K F dvs dds) {F H : Hp} {σ : L2.St} {ρ ρ' : Env} {os : List Opd} {vs : List V} (G : Gd K g F H σ ρ) (r : OpdsOk K F σ vs os) {d : D} {Q : VK} (hm : ((callO fm dds os ρ).bind finT) = some (d, ρ'))
    (q : ∀ l o F' H', Gd K g F' H' σ ρ' → Same F F' → FrT K g F' H' σ ρ' l o d → Q (.ref l) H') : spF K fm (vs ++ dvs) H Q E := by
  obtain ⟨⟨rr, nr, ρ2⟩, e1, hf⟩ := bnd hm
  refine callO_t hdd G r e1 fun v F1 F2 H2 ad rep reps trep none G2 sF rs => ?_
  unfold finT at hf
  dsimp only at hf
  obtain ⟨x, e4, hf⟩ := bnd hf
  split at hf
  · rename_i hx
    cases hf
    cases rr with
    | d y => cases e4
    | n y => cases e4
    | r y =>
      cases e4
      obtain ⟨l, ws, rfl, h1, h2, h3, h4⟩ := rs
      exact q l ws F2 H2 G2 sF ⟨h1, trep (fun h => by rw [h] at hx; simpa using hx) h2, h3, fun a m => none a (h4 a m).1 (h4 a m).2.1 (h4 a m).2.2⟩
  · cases hf
theorem dr_call (hdd : ∀ F, Reps X.K F dvs dds) (h : PE X ex (tCall (spF X.K fm) dvs E (tA X.K g fa))) : DR X g ex (nCallT fm dds fa) := weakPE h fun σ H Q ⟨F, ρ, d, ρ', G, hf, q⟩ => by
  obtain ⟨p, e1, hf⟩ := bnd hf
  exact ⟨F, ρ, p.1, p.2, G, e1, fun vs F1 H1 G1 s1 r1 => callO_r hdd G1 r1 hf fun l o F' H' G' s' => q l o F' H' G' (s1.trans s')⟩
theorem dr_meth (hdd : ∀ F, Reps X.K F dvs dds) (h : PE X ex (tMeth C m (spF X.K fm) dvs E (tO X.K g fo) (tA X.K g fa))) : DR X g ex (nMethT C m fm dds fo fa) := weakPE h fun σ H Q ⟨F, ρ, d, ρ', G, hf, q⟩ => by
  obtain ⟨p, e1, hf⟩ := bnd hf
  split at hf
  · rename_i hi
    obtain ⟨p2, e2, hf⟩ := bnd hf
    refine ⟨F, ρ, p.1, p.2, G, e1, fun v F1 H1 G1 s1 r1 => ?_⟩
    unfold insOk at hi
    split at hi
    · rename_i C' gs hc
      have hi := Bool.and_eq_true_iff.mp hi
      cases (of_decide_eq_true hi.1)
      obtain ⟨a, dx, fs, rfl, ha, rf⟩ := conts_ins G1 r1 hc
      refine ⟨a, dx, fs, rfl, ha, rf.none (Option.isNone_iff_eq_none.mp hi.2), F1, p.2, p2.1, p2.2, G1, e2, fun vs F2 H2 G2 s2 r2 => ?_⟩
      exact callO_r (vs := V.ref a :: vs) hdd G2 (.cons (r1.mono s2) r2) hf fun l o F3 H3 G3 s3 => q l o F3 H3 G3 ((s1.trans s2).trans s3)
    · cases hi
  · cases hf
end
/-! ### running these mirrors -/
def treNew (ρ : Env) (i : Nat) : Option D := match ρ[i]? with
  | some (some (.tre none x)) => some x
  | _ => none
def treIn (C : Addr) (ρ : Env) (i : Nat) : Option (Option Nat × List (Str × D)) := match ρ[i]? with
  | some (some (.tre t (.ins C' gs))) => if C' = C then some (t, gs) else none
  | _ => none
section
variable {ρ : Env} {Q : D × Env → Prop} {QS : Out × Env → Prop} {C : Addr} {fm : FM} {dds : List D} {fa : AM} {fo : OM} {fe : EM} {fn : NM} {m fl : Str} {i : Nat}
theorem x_makT {n : Nat} {r : Res × Bool × Env} : Ex (makT n r) Q = (isNon r.1 = true ∧ Ex (treNew r.2.2 n) fun x => (r.2.1 = true ∨ lfo x = true) ∧ Q (x, r.2.2.take n)) := by
  simp only [ex_eq]
  obtain ⟨r1, r2, ρ2⟩ := r
  unfold makT treNew
  dsimp only
  cases r1 with
  | n x => simp [isNon, ex0_none]
  | r x => simp [isNon, ex0_none]
  | d x =>
    cases x <;> simp only [isNon, Bool.false_eq_true, false_and, ex0_none, true_and]
    generalize ρ2[n]? = z; rcases z with _ | _ | x | ⟨_ | t, x⟩ | ⟨_ | t, x⟩ <;> simp only [ex0_some, ex0_none, ex0_guard, Bool.or_eq_true]
theorem x_nMakeT : Ex (nMakeT C fm dds fa ρ) Q = Ex (fa ρ) fun p => Ex (callO fm dds (.io p.2.length :: p.1) (p.2 ++ [some (.tre none (.ins C []))])) fun r => isNon r.1 = true ∧ Ex (treNew r.2.2 p.2.length) fun x => (r.2.1 = true ∨ lfo x = true) ∧ Q (x, r.2.2.take p.2.length) := by
  simp only [ex_eq]
  unfold nMakeT
  simp only [ex0_bind]
  congr 1; funext p; congr 1; funext r
  have := @x_makT Q p.2.length r
  simp only [ex_eq] at this
  exact this
theorem x_finT {r : Res × Bool × Env} : Ex (finT r) Q = Ex (resT r.1) fun x => (r.2.1 = true ∨ lfo x = true) ∧ Q (x, r.2.2) := by
  simp only [ex_eq]
  unfold finT
  simp only [ex0_bind, ex0_guard, ex0_some, Bool.or_eq_true]
theorem x_nCallT : Ex (nCallT fm dds fa ρ) Q = Ex (fa ρ) fun p => Ex (callO fm dds p.1 p.2) fun r => Ex (resT r.1) fun x => (r.2.1 = true ∨ lfo x = true) ∧ Q (x, r.2.2) := by
  simp only [ex_eq]
  unfold nCallT finT
  simp only [ex0_bind, ex0_guard, ex0_some, Bool.or_eq_true]
theorem x_nMethT : Ex (nMethT C m fm dds fo fa ρ) Q = Ex (fo ρ) fun p => insOk C m (conts p.2 p.1) = true ∧ Ex (fa p.2) fun q => Ex (callO fm dds (p.1 :: q.1) q.2) fun r => Ex (resT r.1) fun x => (r.2.1 = true ∨ lfo x = true) ∧ Q (x, r.2.2) := by
  simp only [ex_eq]
  unfold nMethT finT
  simp only [ex0_bind, ex0_guard, ex0_some, Bool.or_eq_true]
theorem x_sTre : Ex (sTre i fn ρ) QS = Ex (fn ρ) fun p => QS (.nx, p.2.set i (some (.tre none p.1))) := by
  simp only [ex_eq]
  unfold sTre
  simp only [ex0_bind, ex0_some]
theorem x_sRetR : Ex (sRetR fn ρ) QS = Ex (fn ρ) fun p => QS (.rr p.1, p.2) := by
  simp only [ex_eq]
  unfold sRetR
  simp only [ex0_bind, ex0_some]
theorem x_eFldT : Ex (eFldT i C fl ρ) Q = Ex (treIn C ρ i) fun w => Ex (w.2.lookup fl) fun x => isBox x = false ∧ Q (x, ρ) := by
  simp only [ex_eq]
  unfold eFldT treIn
  generalize ρ[i]? = z; rcases z with _ | _ | x | ⟨t, x⟩ | ⟨t, x⟩ <;> try simp only [ex0_some, ex0_none]
  cases x <;> simp only [ex0_some, ex0_none]
  rename_i C' gs
  by_cases h : C' = C
  · subst h; simp only [if_true, ex0_some, ex0_bind, ex0_guard]
  · simp only [if_neg h, ex0_none]
theorem x_sFldT : Ex (sFldT i C fl fe ρ) QS = Ex (fe ρ) fun p => Ex (treIn C p.2 i) fun w => (w.2.length < 1000 ∧ isBox p.1 = false) ∧ QS (.nx, p.2.set i (some (.tre w.1 (.ins C (putFD fl p.1 w.2))))) := by
  simp only [ex_eq]
  unfold sFldT treIn
  rw [ex0_bind]
  congr 1; funext p
  generalize p.2[i]? = z; rcases z with _ | _ | x | ⟨t, x⟩ | ⟨t, x⟩ <;> try simp only [ex0_some, ex0_none]
  cases x <;> simp only [ex0_some, ex0_none]
  rename_i C' gs
  by_cases h : C' = C
  · subst h; simp only [if_true, ex0_some, ex0_guard, true_and]
  · simp only [if_neg h, h, false_and, if_false, ex0_none]
theorem x_sFldB : Ex (sFldB i C fl fn ρ) QS = Ex (fn ρ) fun p => Ex (treIn C p.2 i) fun w => w.2.length < 1000 ∧ QS (.nx, p.2.set i (some (.tre w.1 (.ins C (putFD fl (.box p.1) w.2))))) := by
  simp only [ex_eq]
  unfold sFldB treIn
  rw [ex0_bind]
  congr 1; funext p
  generalize p.2[i]? = z; rcases z with _ | _ | x | ⟨t, x⟩ | ⟨t, x⟩ <;> try simp only [ex0_some, ex0_none]
  cases x <;> simp only [ex0_some, ex0_none]
  rename_i C' gs
  by_cases h : C' = C
  · subst h; simp only [if_true, ex0_some, ex0_guard, true_and]
  · simp only [if_neg h, h, false_and, if_false, ex0_none]
theorem x_sAppF : Ex (sAppF i C fl fe ρ) QS = Ex (treIn C ρ i) fun w0 => Ex (boxL (w0.2.lookup fl)) fun _ => Ex (fe ρ) fun p => Ex (treIn C p.2 i) fun w => Ex (boxL (w.2.lookup fl)) fun xs => xs.length < 16777216 ∧
    QS (.nx, p.2.set i (some (.tre w.1 (.ins C (putFD fl (.box (.lst (xs ++ [p.1]))) w.2))))) := by
  simp only [ex_eq]
  unfold sAppF treIn
  generalize ρ[i]? = z; rcases z with _ | _ | x | ⟨t, x⟩ | ⟨t, x⟩ <;> try simp only [ex0_some, ex0_none]
  cases x <;> simp only [ex0_some, ex0_none]
  rename_i C' gs
  by_cases h : C' = C
  · subst h
    simp only [if_true, ex0_some, ex0_bind]
    congr 1; funext xs; congr 1; funext p
    generalize p.2[i]? = z; rcases z with _ | _ | x | ⟨t, x⟩ | ⟨t, x⟩ <;> try simp only [ex0_some, ex0_none]
    cases x <;> simp only [ex0_some, ex0_none]
    rename_i C2 gs2
    by_cases h : C2 = C'
    · subst h; simp only [if_true, ex0_some, ex0_bind, ex0_guard]
    · simp only [if_neg h, ex0_none]
  · simp only [if_neg h, ex0_none]
end
end L3

/-! a, b, c = ..; a += .. -/
namespace L3
open PySem PySem.Spec PyProof.Rows L2
theorem noSet {K : PySem.W.Frag} {g : Gx} {F H : Hp} {σ : St} {ρ : Env} (G : Gd K g F H σ ρ) {i : Nat} {l l' : Addr} {x : D} (n : ∀ k, ¬ OwnAt H σ ρ k l') (ne : l' ≠ l) : ∀ k, ¬ OwnAt H (σ.set i (some (.ref l))) (ρ.set i (some (.own none x))) k l' := fun k hk => by
  by_cases c : k = i
  · subst c
    obtain ⟨l0, a1, ⟨⟨t, ys, a2⟩, ea⟩ | ⟨t, ys, u, a2, _, _⟩⟩ := hk
    · rcases get_set a2 with ⟨b1, b2, b3⟩ | ⟨b1, b2⟩
      · rw [List.getElem?_set_self (G.lt b3)] at a1
        cases a1
        exact ne ea
      · exact b1 rfl
    · rcases get_set a2 with ⟨b1, b2, b3⟩ | ⟨b1, b2⟩
      · cases b2
      · exact b1 rfl
  · exact n k (hk.ne c)
theorem pinNe {g : Gx} {l l' : Addr} {o : HO} (h : (g.also l o).pin l' = none) : l' ≠ l ∧ g.pin l' = none := by
  have ne : l' ≠ l := fun z => by
    subst z
    have : upd g.pin l' o l' = none := h
    rw [upd_same] at this
    cases this
  refine ⟨ne, ?_⟩
  have : upd g.pin l o l' = none := h
  rw [upd_ne ne] at this
  exact this
def three : List D → Option (D × D × D)
  | [x, y, z] => some (x, y, z)
  | _ => none
theorem three_3 {x y z : D} : three [x, y, z] = some (x, y, z) := rfl
theorem three_of {ds : List D} {w : D × D × D} (h : three ds = some w) : ds = [w.1, w.2.1, w.2.2] := by
  unfold three at h
  split at h
  · cases h; rfl
  · cases h
def sPar3 (i j l : Nat) (fa : AM) : SM := fun ρ => (fa ρ).bind fun p => (valsOf p.1).bind fun ds => (three ds).bind fun z => some (.nx, ((p.2.set i (some (.d z.1))).set j (some (.d z.2.1))).set l (some (.d z.2.2)))
def sPar3B (i j k : Nat) (f1 f2 f3 : NM) : SM := fun ρ => (f1 ρ).bind fun p => (f2 p.2).bind fun q => (f3 q.2).bind fun r => some (.nx, ((r.2.set i (some (.own none p.1))).set j (some (.own none q.1))).set k (some (.own none r.1)))
theorem intD_of {x : D} {a : Int} (h : intD x = some a) : x = .int a := by
  unfold intD at h
  split at h
  · cases h; rfl
  · cases h
def sAug (i : Nat) (k : Int → Int → Int) (fe : EM) : SM := fun ρ => (eV i ρ).bind fun w => (intD w.1).bind fun a => (fe ρ).bind fun p => (intD p.1).bind fun b => some (.nx, p.2.set i (some (.d (.int (k a b)))))
section
variable {X : Cx} {g : Gx} {st : Stmt} {i j k : Nat} {fa : AM} {f1 f2 f3 : NM} {fe : EM} {op : Int → Int → Int}
theorem ds_par3 (h : PS X st (tPar3 i j k (tA X.K g fa))) : DS X g st (sPar3 i j k fa) := weakPS h fun D σ H ⟨F, ρ, out, ρ', G, hf, q⟩ => by
  obtain ⟨p, e1, hf⟩ := bnd hf
  obtain ⟨ds, e2, hf⟩ := bnd hf
  obtain ⟨z, e3, hf⟩ := bnd hf
  cases hf
  have e4 := three_of e3
  subst e4
  refine ⟨F, ρ, p.1, p.2, G, e1, fun vs F1 H1 G1 s1 r1 => ?_⟩
  have rr := valsOk r1 e2
  cases rr with
  | cons a rr =>
    cases rr with
    | cons b rr =>
      cases rr with
      | cons c rr =>
        cases rr
        exact ⟨_, _, _, rfl, q _ F1 H1 (((G1.setD i a).setD j b).setD k c) s1⟩
theorem ds_par3B (h : PS X st (tPar3 i j k (tCons (tN X.K g f1) (tCons (tNx X.K f2) (tCons (tNx X.K f3) tNil))))) : DS X g st (sPar3B i j k f1 f2 f3) := weakPS h fun D σ H ⟨F, ρ, out, ρ', G, hf, q⟩ => by
  obtain ⟨p, e1, hf⟩ := bnd hf
  obtain ⟨p2, e2, hf⟩ := bnd hf
  obtain ⟨p3, e3, hf⟩ := bnd hf
  cases hf
  refine ⟨F, ρ, p.1, p.2, G, e1, fun l o F1 H1 G1 s1 h1 h2 h3 h4 h5 h6 => ⟨g.also l o, F1, p.2, p2.1, p2.2, G1.pin h1 h2 h5, e2, fun l' o' F2 H2 G2 s2 k1 k2 k3 k4 k5 k6 => ⟨(g.also l o).also l' o', F2, p2.2, p3.1, p3.2, G2.pin k1 k2 k5, e3, fun l'' o'' F3 H3 G3 s3 m1 m2 m3 m4 m5 m6 => ?_⟩⟩⟩
  obtain ⟨G4, a1, a2, a3⟩ := G3.unpin k4
  obtain ⟨G5, b1, b2, b3⟩ := G4.unpin h4
  obtain ⟨ne1, k4'⟩ := pinNe k4
  obtain ⟨ne2, m4'⟩ := pinNe m4
  obtain ⟨ne3, m4''⟩ := pinNe m4'
  have G6 := G5.setOwn i b1 b2 h3 h4 b3 (h6.mono (s2.trans s3))
  have G7 := G6.setOwn j a1 a2 k3 k4' (noSet G5 a3 ne1) (k6.mono s3)
  exact ⟨_, _, _, rfl, q _ F3 H3 (G7.setOwn k m1 m2 m3 m4'' (noSet G6 (noSet G5 m5 ne3) ne2) m6) ((s1.trans s2).trans s3)⟩
theorem ds_aug (h : PS X st (tAug i (tEx X.K fe) (ipI op))) : DS X g st (sAug i op fe) := weakPS h fun D σ H ⟨F, ρ, out, ρ', G, hf, q⟩ => by
  obtain ⟨w, e0, hf⟩ := bnd hf
  obtain ⟨a, e1, hf⟩ := bnd hf
  obtain ⟨p, e2, hf⟩ := bnd hf
  obtain ⟨b, e3, hf⟩ := bnd hf
  cases hf
  have e1' := intD_of e1
  unfold eV at e0
  split at e0
  · rename_i x hx
    cases e0
    subst e1'
    obtain ⟨v, e, r⟩ := G.slot i _ hx
    cases r
    refine ⟨_, e, g, F, ρ, p.1, p.2, G, e2, fun v2 F1 H1 G1 s1 r1 => ?_⟩
    rw [intD_of e3] at r1
    cases r1
    exact ⟨a, b, rfl, rfl, q _ F1 H1 (G1.setD i .int) s1⟩
  · cases e0
end
section
variable {i j k : Nat} {fa : AM} {f1 f2 f3 : NM} {fe : EM} {op : Int → Int → Int} {ρ : Env} {QS : Out × Env → Prop}
theorem x_sPar3 : Ex (sPar3 i j k fa ρ) QS = Ex (fa ρ) fun p => Ex (valsOf p.1) fun ds => Ex (three ds) fun z => QS (.nx, ((p.2.set i (some (.d z.1))).set j (some (.d z.2.1))).set k (some (.d z.2.2))) := by
  simp only [ex_eq]
  unfold sPar3; simp only [ex0_bind, ex0_some]
theorem x_sPar3B : Ex (sPar3B i j k f1 f2 f3 ρ) QS = Ex (f1 ρ) fun p => Ex (f2 p.2) fun q => Ex (f3 q.2) fun r => QS (.nx, ((r.2.set i (some (.own none p.1))).set j (some (.own none q.1))).set k (some (.own none r.1))) := by
  simp only [ex_eq]
  unfold sPar3B; simp only [ex0_bind, ex0_some]
theorem x_sAug : Ex (sAug i op fe ρ) QS = Ex (eV i ρ) fun w => Ex (intD w.1) fun a => Ex (fe ρ) fun p => Ex (intD p.1) fun b => QS (.nx, p.2.set i (some (.d (.int (op a b))))) := by
  simp only [ex_eq]
  unfold sAug; simp only [ex0_bind, ex0_some]
end
/-! ### {.., **x}, the parts read off the display -/
def lastE : List Expr → Expr
  | [] => .Tuple [] 0 default
  | [e] => e
  | _ :: e :: r => lastE (e :: r)
section
variable {X : Cx} {g : Gx} {ks : List (Option Expr)} {vs : List Expr} {l : List (EM × EM)} {fd : EM} {pos : Pos}
theorem dn_dspM2 (h : PPs X pos ks.dropLast vs.dropLast (l.map fun p => (tEx X.K p.1, tEx X.K p.2))) (hx : PE X (lastE vs) (tEx X.K fd)) (hk1 : ks = ks.dropLast ++ [none]) (hv1 : vs = vs.dropLast ++ [lastE vs]) (hall : ks.dropLast.all (·.isSome) = true) (hl : ks.dropLast.length = vs.dropLast.length) (h0 : ks.dropLast.isEmpty = false) (h15 : Nat.ble ks.dropLast.length 15 = true) (hk : Nat.ble l.length 15 = true)
    (he : (evalEachOpt (ks.dropLast ++ [none]) X.env).zip ((evalEach (vs.dropLast ++ [lastE vs]) X.env).map fun v => do let x ← v; standAt pos; pure x) = (pairTrees ks.dropLast vs.dropLast X.env pos).map (fun p => (some p.1, p.2)) ++ [(none, do let x ← eval (lastE vs) X.env; standAt pos; pure x)] := by rfl) :
    DN X g (.Dict ks vs pos) (nDspM l fd) := by
  rw [hk1, hv1]
  exact dn_dspM h hx hall hl (fun z => by rw [z] at h0; cases h0) (Nat.le_of_ble_eq_true h15) (Nat.le_of_ble_eq_true hk) he
end

/-- a block within a block, with no free name of its own -/
theorem blkOk_nf {N : List Str} {sc scope : Scope} {own : List (Str × Nat)} (h : blkC N { kind := .function, names := [], isGenerator := false, isCoroutine := false } scope own = true) : BlkOk N sc scope own :=
  let b := blkOk_by h
  ⟨b.kind, b.uniq, b.ix, fun y hy e => (b.free y hy e).elim (fun z => nomatch z) (fun z => nomatch z), b.own⟩
end L3

/-! enumerate of a list or a tuple -/
namespace REn
open PySem PySem.Spec PyProof.Rows L2
set_option maxHeartbeats 4000000 in
theorem meets_new0 {v : Value} {o : Obj} {H : Heap → Prop} (B : Begins v o H) :
    Meets (Builtin.«enumerate.__new__» ⟨[.type "enumerate", v], []⟩) (fun _ R s => H s.heap ∧
      R (.ok (.ret (.ref (s.heap.push o).objs.size))) { s with heap := (s.heap.push o).push { cls := .type "enumerate", data := .fields #[.none, .bool false, .ref s.heap.objs.size, rawInt 0, .none, .none] } }) :=
  .of_wp fun prog w A R s h => by
    obtain ⟨hp, g, d, tk, os⟩ := s; obtain ⟨h1, h⟩ := h
    have hsub := sub_enumerate
    have q1 : ∀ {A' : Around} {E : Value → Shared → Prop} {Q : Value → Shared → Prop}, Q (.ref hp.objs.size) ⟨hp.push o, g, d, tk, os⟩ → wpAny (model prog w) A' (pyIter v) Q E ⟨hp, g, d, tk, os⟩ :=
      fun q => B.iter prog w _ _ ⟨hp, g, d, tk, os⟩ _ h1 q
    wp_walk using q1
    refine wpAny_stack_any fun st => wpAny_pure ?_
    split
    · rename_i c _ _ _ _ _
      cases (c == Value.type "enumerate")
      · wp_walk using q1
        exact ⟨_, rfl, h⟩
      · wp_walk using q1
        exact ⟨_, rfl, h⟩
    · wp_walk using q1
      exact ⟨_, rfl, h⟩
section
variable {prog : Program} {w : World} {A : Around} {E : Value → Shared → Prop} {s : Shared}
theorem call0 {v : Value} {o : Obj} {H : Heap → Prop} {Q : Value → Shared → Prop} (B : Begins v o H) (h1 : H s.heap)
    (h : ∀ h', IsEnum h' (s.heap.objs.size + 1) s.heap.objs.size 0 .none → h'.get? s.heap.objs.size = some o → h'.objs.size = s.heap.objs.size + 2 →
      (∀ b o, s.heap.get? b = some o → h'.get? b = some o) → Q (.ref (s.heap.objs.size + 1)) { s with heap := h' }) :
    wpAny (model prog w) A (call (.type "enumerate") [v]) Q E s := by
  refine callType_new F.called_enumerate (by decide) (F.typeCall_enumerate_1 _) (F.newCall_enumerate_1 _) (fun obj => F.args_object_init_2 obj _) F.entry_enumerate_new
    (meets_new0 B) ⟨h1, ?_⟩
  have hz : (s.heap.push o).objs.size = s.heap.objs.size + 1 := Heap.size_push ..
  show _ ∧ _
  rw [hz]
  have he : IsEnum ((s.heap.push o).push { cls := .type "enumerate", data := .fields #[.none, .bool false, .ref s.heap.objs.size, rawInt 0, .none, .none] }) (s.heap.objs.size + 1) s.heap.objs.size 0 .none := by
    have := Heap.get?_push_size (s.heap.push o) (o := { cls := .type "enumerate", data := .fields #[.none, .bool false, .ref s.heap.objs.size, rawInt 0, .none, .none] }) rfl
    rw [hz] at this; exact this
  refine ⟨⟨_, he, rfl⟩, h _ he (Heap.get?_push_of_some _ (Heap.get?_push_size _ B.free)) (by rw [Heap.size_push, hz]) fun b o x => Heap.get?_push_of_some _ (Heap.get?_push_of_some _ x)⟩
end
/-- the tuple at a, each item in a new pair -/
def IteT (K : PySem.W.Frag) (a : Addr) : It :=
  ⟨fun i H => ∃ (xs : List V) (x : V), SqT K H a xs ∧ xs[i]? = some x, fun i H v H' => ∃ T x, v = .ref T ∧ H T = none ∧ H' = upd H T (.tup [.int (i : Nat), x]) ∧ ∀ xs, SqT K H a xs → xs[i]? = some x, fun i H => ∃ xs : List V, SqT K H a xs ∧ xs.length ≤ i⟩
theorem turn_enumT {P : Program} {w : World} {K : PySem.W.Frag} {elts : List Expr} {kk : Nat} {tpos : PySem.Pos} (a e it : Addr) :
    Turn P w K (.Tuple elts kk tpos) (IteT K a) [e, it] e (fun i h => (∃ old, IsEnum h e it ((i : Nat) : Int) old) ∧ h.IsTupleIter it a i ∧ e ≠ it ∧ a ≠ it ∧ a ≠ e) where
  mem := by simp
  obj := fun i h st b hb => by
    obtain ⟨⟨old, he⟩, ⟨o, ho, hc, hd⟩, _⟩ := st
    have e' : b = e ∨ b = it := by simpa using hb
    rcases e' with z | z
    · rw [z]; exact ⟨_, he, fun v q => nomatch q⟩
    · rw [z]; exact ⟨o, ho, fun v q => by rw [hd] at q; cases q⟩
  keep := fun i h h' st k => let ⟨⟨old, he⟩, hi, hne⟩ := st; ⟨⟨old, k e (by simp) _ he⟩, hi.at fun o q => k it (by simp) o q, hne⟩
  item := by
    intro X hP hw hK hc i pins s σ H E I hf st hg
    subst hP hw hK
    obtain ⟨⟨old, he⟩, hit, hne, hai, hae⟩ := st
    obtain ⟨xs, x, hq, hx⟩ := hg
    obtain ⟨its, rv, p, hz⟩ := I.tuple hq
    obtain ⟨u, hu, ru⟩ := rv.get hx
    have hel : e < s.heap.objs.size := Heap.lt_size he
    have hil : it < s.heap.objs.size := by obtain ⟨_, q, _⟩ := hit; exact Heap.lt_size q
    have hlen : i < its.toArray.size := by
      have := (List.getElem?_eq_some_iff.mp hu).1
      simpa using this
    have D := Draws.tuple (prog := X.prog) (w := X.w) (A := X.A.in1) (show X.A.in1.handled = none from I.ok.hd hc) it a hai its.toArray
    refine wpAny_pyNext_enum_itemD D he ⟨hit, p⟩ hlen hne (by simp [hne, Ne.symm hae]) fun y h' tk hP ho hst' hT hsz hk => ?_
    obtain ⟨hit', _⟩ := hst'
    have hy : y = u := by
      have h1 : its.toArray[i]? = some y := hP
      have h2 : its.toArray[i]? = some u := by simpa using hu
      rw [h1] at h2
      exact Option.some.inj h2
    subst hy
    refine ⟨_, rfl, wpAny_letOwnedTupleGo_enum (s := { s with heap := h', toks := tk + 1 }) ho fun h'' he' sb => ?_⟩
    have hT2 : h''.get? s.heap.objs.size = some { cls := .type "tuple", data := .seq #[.int i tk, y] } := (sb.2 _ (Nat.ne_of_gt hel)).trans hT
    have new : ObjOk X.prog X.w (upd H s.heap.objs.size (.tup [.int (i : Nat), x])) h'' s.heap.objs.size (.tup [.int (i : Nat), x]) :=
      ⟨by show 2 ≤ sizeLine; decide, [.int i tk, y], .cons ⟨_, rfl⟩ (.cons ru .nil), ⟨_, hT2, rfl, _, rfl⟩⟩
    have I1 : Inv X pins σ (upd H s.heap.objs.size (.tup [.int (i : Nat), x])) { s with heap := h'', toks := tk + 1 } :=
      I.turnedNew (ch := [e, it]) (fun b ob hb q => (sb.2 b (fun z => hb (by simp [z]))).trans (hk b ob (fun z => hb (by simp [z])) (fun z => hb (by simp [z])) q)) hf (Nat.le_refl _) new
    refine ⟨.ref s.heap.objs.size, _, I1, rfl, ⟨_, x, rfl, I.hok.fresh (Nat.le_refl _), rfl, fun ys hy => by rw [I.tuple_inj hy hq]; exact hx⟩, ⟨⟨y, ?_⟩, hit'.at fun o q => (sb.2 it (Ne.symm hne)).trans q, hne, hai, hae⟩, fun b hb => ?_⟩
    · have e1 : ((i + 1 : Nat) : Int) = (i : Int) + 1 := by omega
      rw [e1]; exact he'
    · have hb' : b < s.heap.objs.size := by
        have e' : b = e ∨ b = it := by simpa using hb
        rcases e' with z | z
        · rw [z]; exact hel
        · rw [z]; exact hil
      rw [upd_ne (Nat.ne_of_lt hb')]
      exact (hf b hb).1
  done := by
    intro X hP hw hK hc i pins s σ H E I hf st hg
    subst hP hw hK
    obtain ⟨⟨old, he⟩, hit, hne, hai, hae⟩ := st
    obtain ⟨xs, hq, hx⟩ := hg
    obtain ⟨its, rv, p, hz⟩ := I.tuple hq
    obtain ⟨f0, f1, f2, f3, f4, f5⟩ := hf it (by simp)
    have hl := rv.length
    have D := Draws.tuple (prog := X.prog) (w := X.w) (A := X.A.in1) (show X.A.in1.handled = none from I.ok.hd hc) it a hai its.toArray
    have hT : s.TypeIs (.ref e) "enumerate" := ⟨_, he, rfl⟩
    unfold pyNext
    refine wpAny_bind (wpAny_attempt (wpAny_callSpecial?_slot (name := Str.ofString "__next__") hT F.slot_enumerate_next
      (wpAny_call_entry F.slot_enumerate_next hT F.entry_enumerate_next ?_ (F.args_enumerate_next_1 _))))
    show wpAny _ _ (field (.ref e) 2 >>= _) _ _ _
    refine wpAny_bind (wpAny_field he rfl (x := .ref it) rfl ?_)
    refine wpAny_bind (wpAny_nextOf_tuple_end (show X.A.in1.handled = none from I.ok.hd hc) hit p (by simp; omega) fun h' x eb hx' => ?_)
    obtain ⟨o, ho, hcc⟩ := hx'
    refine wpAny_bind (wpAny_isInstance (T := "StopIteration") (b := true) ⟨o, ho, hcc⟩ isSubtype_stop ?_)
    exact wpAny_pure ⟨rfl, I.turned (t' := s.toks) (fun b o hb q => eb b o hb q) f0 f1 f3 f4 f5⟩
  self := fun A i s Q E st h => let ⟨⟨_, he⟩, _⟩ := st; wpAny_pyIter_enum he h
def iEnumA (K : PySem.W.Frag) (ta : TA) : TI := fun σ H R => ta σ H fun vs H1 => ∃ a xs, vs = [.ref a] ∧ ((SqL K H1 a xs ∧ R (Ite K a) H1) ∨ (SqT K H1 a xs ∧ R (IteT K a) H1))
theorem pi_enumA {X : Cx} {e : Expr} {ta : TA} {p pos tpos : PySem.Pos} {elts : List Expr} {kk : Nat} (hg : Gl X "enumerate") (hm : X.mg "enumerate" = none) (ha : PA X [e] ta) (hs : starEach [e] X.env = [(false, eval e X.env)] := by rfl) :
    PI X (.Tuple elts kk tpos) (.Call (.Name "enumerate" p) [e] [] pos) (iEnumA X.K ta) := by
  refine ⟨fun pins s σ H R I h => ?_⟩
  refine Call_ (ld_blt I hg hm boot_enumerate (PyProof.Rows.callWith_type1 (thn (ha.run pos pins s σ H _ I h) fun us s1 ⟨vs, H1, I1, r1, q1⟩ => ?_) hs rfl))
  obtain ⟨a, xs, ex, hq⟩ := q1
  subst ex
  cases r1 with
  | cons r rr =>
    cases rr
    cases r
    have fre : ∀ b ∈ [s1.heap.objs.size + 1, s1.heap.objs.size], FpOk X pins H1 b := fun b hb => by
      have e' : b = s1.heap.objs.size + 1 ∨ b = s1.heap.objs.size := by simpa using hb
      have hle : s1.heap.objs.size ≤ b := by
        rcases e' with z | z
        · rw [z]; exact Nat.le_add_right _ _
        · rw [z]; exact Nat.le_refl _
      exact I1.fpOk hle (I1.hok.fresh hle)
    rcases hq with ⟨hq, q⟩ | ⟨hq, q⟩
    · obtain ⟨its, rv, p', hz⟩ := I1.list hq
      refine call_enumerate_list p'.isList fun h' he hit hsz hk => wpAny_pyIter_enum he ?_
      have I2 : Inv X pins σ H1 { s1 with heap := h' } := I1.kept (t' := s1.toks) hk
      exact ⟨s1.heap.objs.size + 1, [s1.heap.objs.size + 1, s1.heap.objs.size], _, _, H1, rfl, I2, turn_enum a (s1.heap.objs.size + 1) s1.heap.objs.size, ⟨⟨.none, he⟩, hit, Nat.succ_ne_self _⟩, fre, q⟩
    · obtain ⟨its, rv, p', hz⟩ := I1.tuple hq
      have hal : a < s1.heap.objs.size := by obtain ⟨o, ho, _⟩ := id p'; exact Heap.lt_size ho
      refine call0 (begins_tuple a its.toArray) p' fun h' he hit hsz hk => wpAny_pyIter_enum he ?_
      have I2 : Inv X pins σ H1 { s1 with heap := h' } := I1.kept (t' := s1.toks) hk
      exact ⟨s1.heap.objs.size + 1, [s1.heap.objs.size + 1, s1.heap.objs.size], _, _, H1, rfl, I2, turn_enumT a (s1.heap.objs.size + 1) s1.heap.objs.size, ⟨⟨.none, he⟩, ⟨_, hit, rfl, rfl⟩, Nat.succ_ne_self _, Nat.ne_of_lt hal, Nat.ne_of_lt (Nat.lt_succ_of_lt hal)⟩, fre, q⟩
end REn
namespace L3
open PySem PySem.Spec PyProof.Rows L2
theorem walk_enumT {K : PySem.W.Frag} {F0 : Hp} {a : Addr} {xs : List V} {ds : List D} (ha : SqT K F0 a xs) (ra : Reps K F0 xs ds) : WalkOk K (REn.IteT K a) F0 (enumD ds) where
  go := fun i F H s1 s2 hi => by
    rw [enumD_len, ← ra.length] at hi
    exact ⟨xs, xs[i]'hi, Same.sqt s2 (Same.sqt s1 ha), List.getElem?_eq_getElem _⟩
  yld := fun i F H v H' s1 s2 hi ⟨T, x, ev, hT, eH, hx⟩ => by
    subst ev eH
    obtain ⟨d, e1, r1⟩ := ra.get' (hx xs (Same.sqt s2 (Same.sqt s1 ha)))
    have X1 := Ext.alloc s2 hT (.tup [.int (i : Nat), x])
    exact ⟨_, _, enumD_get e1, X1, .tup upd_same (.cons .int (.cons (Rep.mono X1.ff (r1.mono s1)) .nil))⟩
  stop := fun i F H s1 s2 hi => by
    rw [enumD_len, ← ra.length] at hi
    exact ⟨xs, Same.sqt s2 (Same.sqt s1 ha), hi⟩
def enumA : List Opd → Option (List D)
  | [.val (.lst l)] => some l
  | [.val (.tup l)] => some l
  | [.val (.ktp l)] => some l
  | _ => none
def itEA (f : AM) : LM := fun ρ => (f ρ).bind fun p => (enumA p.1).bind fun l => some (enumD l, p.2)
theorem enumA_cases {os : List Opd} {l : List D} (e : enumA os = some l) : os = [.val (.lst l)] ∨ ∃ x, os = [.val x] ∧ tupP x = some l := by
  unfold enumA at e
  split at e
  · cases e; exact .inl rfl
  · cases e; exact .inr ⟨_, rfl, rfl⟩
  · cases e; exact .inr ⟨_, rfl, rfl⟩
  · cases e
theorem di_enumA {X : Cx} {g : Gx} {a : Expr} {fa : AM} {p pos tpos : PySem.Pos} {elts : List Expr} {kk : Nat} (hg : Gl X "enumerate") (hm : X.mg "enumerate" = none) (ha : DA X g [a] fa) (hs : starEach [a] X.env = [(false, eval a X.env)] := by rfl) :
    DI X g (.Tuple elts kk tpos) (.Call (.Name "enumerate" p) [a] [] pos) (itEA fa) :=
  weakPI (REn.pi_enumA hg hm ha hs) fun σ H R ⟨F, ρ, ds, ρ', G, hf, q⟩ => by
  obtain ⟨q1, e, hf⟩ := bnd hf
  obtain ⟨l, e2, hf⟩ := bnd hf
  obtain ⟨os, ρ1⟩ := q1
  cases hf
  refine ⟨F, ρ, os, ρ1, G, e, fun vs F' H' G' s r => ?_⟩
  rcases enumA_cases e2 with rfl | ⟨x, rfl, t1⟩
  · cases r with
    | cons r1 rr =>
      cases rr
      have r1' : Rep X.K F' _ (.lst l) := r1
      cases r1' with
      | lst h1 h2 => exact ⟨_, _, rfl, .inl ⟨SqL.of (G'.sub _ _ h1), q _ F' H' G' s (walk_enum h1 h2)⟩⟩
  · cases r with
    | cons r1 rr =>
      cases rr
      obtain ⟨p1, w1, rfl, h1, h2⟩ := rep_tupP (show Rep X.K F' _ x from r1) t1
      exact ⟨_, _, rfl, .inr ⟨Same.sqt G'.sub h1, q _ F' H' G' s (walk_enumT h1 h2)⟩⟩
section
variable {a : AM} {ρ : Env} {QL : List D × Env → Prop}
theorem x_itEA : Ex (itEA a ρ) QL = Ex (a ρ) fun p => Ex (enumA p.1) fun l => QL (enumD l, p.2) := by
  unfold itEA; simp only [ex_eq, ex0_bind, ex0_some]
end
theorem enumA_l {l : List D} : enumA [.val (.lst l)] = some l := rfl
theorem enumA_t {l : List D} : enumA [.val (.tup l)] = some l := rfl
theorem enumA_k {l : List D} : enumA [.val (.ktp l)] = some l := rfl
end L3

/-! zip of a tuple with a list -/
namespace RZm
open PySem PySem.Spec PyProof.Rows L2
theorem nneq {i j : Nat} (h : i < j ∨ j < i) : i ≠ j := by omega
theorem nmem2 {x y z : Nat} (h1 : x < y ∨ y < x) (h2 : x < z ∨ z < x) : x ∉ [y, z] := by
  simp only [List.mem_cons, List.not_mem_nil, or_false, not_or]
  omega
theorem zsep {n a b : Nat} (ha : a < n) (hb : b < n) : ZipSep2 (n + 4) (n + 2) (n + 3) n (n + 1) [n, a] [n + 1, b] := by
  constructor <;> first | exact List.mem_cons_self | exact nneq (by omega) | exact nmem2 (by omega) (by omega)
/-- the tuple at a, the list at b as they stand at each turn, the items in new pairs -/
def ItzM (K : PySem.W.Frag) (a b : Addr) (n1 n2 : Nat) : It :=
  ⟨fun i H => ∃ (xs ys : List V) (x y : V), SqT K H a xs ∧ SqL K H b ys ∧ (xs.length = n1 ∧ ys.length = n2) ∧ xs[i]? = some x ∧ ys[i]? = some y,
    fun i H v H' => ∃ T x y, v = .ref T ∧ H T = none ∧ H' = upd H T (.tup [x, y]) ∧ (∀ xs, SqT K H a xs → xs[i]? = some x) ∧ ∀ ys, SqL K H b ys → ys[i]? = some y,
    fun i H => ∃ xs ys : List V, SqT K H a xs ∧ SqL K H b ys ∧ (xs.length = n1 ∧ ys.length = n2) ∧ (n1 ≤ i ∨ n2 ≤ i)⟩
theorem turn_zipM {P : Program} {w : World} {K : PySem.W.Frag} {elts : List Expr} {kk : Nat} {tpos : PySem.Pos} {a b z TI TO i1 i2 : Addr} {n1 n2 : Nat} (S : ZipSep2 z TI TO i1 i2 [i1, a] [i2, b]) (na : a ≠ i1) (nb : b ≠ i2) :
    Turn P w K (.Tuple elts kk tpos) (ItzM K a b n1 n2) [z, TI, TO, i1, i2] z (fun i h => IsZip h z TI TO .none ∧ IsTupOf2 h TI (.ref i1) (.ref i2) ∧ (∃ x y, IsTupOf2 h TO x y) ∧ h.IsTupleIter i1 a i ∧ h.IsListIter i2 b i ∧ i ≤ n1 ∧ i ≤ n2) where
  mem := by simp
  obj := fun i h st c hc => by
    obtain ⟨hz, hTI, ⟨x, y, hTO⟩, ⟨o1, e1, _, d1⟩, ⟨o2, e2, _, d2⟩, _⟩ := st
    have e' : c = z ∨ c = TI ∨ c = TO ∨ c = i1 ∨ c = i2 := by simpa using hc
    rcases e' with q | q | q | q | q
    · rw [q]; exact ⟨_, hz, fun v q => nomatch q⟩
    · rw [q]; exact ⟨_, hTI, fun v q => nomatch q⟩
    · rw [q]; exact ⟨_, hTO, fun v q => nomatch q⟩
    · rw [q]; exact ⟨o1, e1, fun v q => by rw [d1] at q; cases q⟩
    · rw [q]; exact ⟨o2, e2, fun v q => by rw [d2] at q; cases q⟩
  keep := fun i h h' st k => by
    obtain ⟨hz, hTI, ⟨x, y, hTO⟩, h1, h2, h3⟩ := st
    exact ⟨k z (by simp) _ hz, k TI (by simp) _ hTI, ⟨x, y, k TO (by simp) _ hTO⟩, h1.at fun o q => k i1 (by simp) o q, h2.at fun o q => k i2 (by simp) o q, h3⟩
  item := by
    intro X hP hw hK hc i pins s σ H E I hf st hg
    subst hP hw hK
    obtain ⟨hz, hTI, ⟨x0, y0, hTO⟩, h1, h2, hi1, hi2⟩ := st
    obtain ⟨xs, ys, x, y, hqx, hqy, ⟨n1e, n2e⟩, hx, hy⟩ := hg
    obtain ⟨its, rv, p, _⟩ := I.tuple hqx
    obtain ⟨its2, rv2, p2, _⟩ := I.list hqy
    obtain ⟨u, hu, ru⟩ := rv.get hx
    obtain ⟨u2, hu2, ru2⟩ := rv2.get hy
    have hzl : z < s.heap.objs.size := Heap.lt_size hz
    have l1 : i < its.toArray.size := by
      have := (List.getElem?_eq_some_iff.mp hu).1
      simpa using this
    have l2 : i < its2.toArray.size := by
      have := (List.getElem?_eq_some_iff.mp hu2).1
      simpa using this
    have D1 := Draws.tuple (prog := X.prog) (w := X.w) (A := X.A.in1) (show X.A.in1.handled = none from I.ok.hd hc) i1 a na its.toArray
    have D2 := Draws.list (prog := X.prog) (w := X.w) (A := X.A.in1) (show X.A.in1.handled = none from I.ok.hd hc) i2 b nb its2.toArray
    refine wpAny_pyNext_zipD2_item S D1 D2 hz hTI hTO ⟨h1, p⟩ ⟨h2, p2.isList⟩ l1 l2 fun x1 x2 h' tk P1 P2 z' TO' s1' s2' hT hsz hk => ?_
    obtain ⟨h1', _⟩ := s1'
    obtain ⟨h2', _⟩ := s2'
    have q1 : x1 = u := by
      have a1 : its.toArray[i]? = some x1 := P1
      have a2 : its.toArray[i]? = some u := by simpa using hu
      rw [a1] at a2
      exact Option.some.inj a2
    have q2 : x2 = u2 := by
      have a1 : its2.toArray[i]? = some x2 := P2
      have a2 : its2.toArray[i]? = some u2 := by simpa using hu2
      rw [a1] at a2
      exact Option.some.inj a2
    subst q1 q2
    refine ⟨_, rfl, wpAny_letOwnedTupleGo_zip (s := { s with heap := h', toks := tk }) z' fun h'' z'' sb => ?_⟩
    have hT2 : h''.get? s.heap.objs.size = some { cls := .type "tuple", data := .seq #[x1, x2] } := (sb.2 _ (Nat.ne_of_gt hzl)).trans hT
    have new : ObjOk X.prog X.w (upd H s.heap.objs.size (.tup [x, y])) h'' s.heap.objs.size (.tup [x, y]) :=
      ⟨by show 2 ≤ sizeLine; decide, [x1, x2], .cons ru (.cons ru2 .nil), ⟨_, hT2, rfl, _, rfl⟩⟩
    have I1 : Inv X pins σ (upd H s.heap.objs.size (.tup [x, y])) { s with heap := h'', toks := tk } :=
      I.turnedNew (t' := tk) (ch := [z, TI, TO, i1, i2]) (fun c o hb q => (sb.2 c (fun q' => hb (by simp [q']))).trans (hk c o (fun q' => hb (by simp [q'])) (fun q' => hb (by simp [q'])) (fun q' => hb (by simp [q'])) (fun q' => hb (by simp [q'])) q)) hf (Nat.le_refl _) new
    refine ⟨.ref s.heap.objs.size, _, I1, rfl, ⟨_, x, y, rfl, I.hok.fresh (Nat.le_refl _), rfl, fun l hl => by rw [I.tuple_inj hl hqx]; exact hx, fun l hl => by rw [I.list_inj hl hqy]; exact hy⟩, ⟨z'', ?_, ⟨x1, x2, ?_⟩, ?_, ?_, by have := (List.getElem?_eq_some_iff.mp hx).1; omega, by have := (List.getElem?_eq_some_iff.mp hy).1; omega⟩, fun c hcm => ?_⟩
    · exact (sb.2 _ S.TIz).trans (hk _ _ S.TIz S.TITO S.TIi1 S.TIi2 hTI)
    · exact (sb.2 _ S.TOz).trans TO'
    · exact h1'.at fun o q => (sb.2 _ (Ne.symm S.zi1)).trans q
    · exact h2'.at fun o q => (sb.2 _ (Ne.symm S.zi2)).trans q
    · have hlt : c < s.heap.objs.size := by
        have e' : c = z ∨ c = TI ∨ c = TO ∨ c = i1 ∨ c = i2 := by simpa using hcm
        rcases e' with q | q | q | q | q
        · rw [q]; exact hzl
        · rw [q]; exact Heap.lt_size hTI
        · rw [q]; exact Heap.lt_size hTO
        · rw [q]; obtain ⟨_, e1, _⟩ := h1; exact Heap.lt_size e1
        · rw [q]; obtain ⟨_, e2, _⟩ := h2; exact Heap.lt_size e2
      rw [upd_ne (Nat.ne_of_lt hlt)]
      exact (hf c hcm).1
  done := by
    intro X hP hw hK hc i pins s σ H E I hf st hg
    subst hP hw hK
    obtain ⟨hz, hTI, ⟨x0, y0, hTO⟩, h1, h2, hi1, hi2⟩ := st
    obtain ⟨xs, ys, hqx, hqy, ⟨n1e, n2e⟩, hend⟩ := hg
    obtain ⟨its, rv, p, _⟩ := I.tuple hqx
    obtain ⟨its2, rv2, p2, _⟩ := I.list hqy
    have l1 := rv.length
    have l2 := rv2.length
    have D1 := Draws.tuple (prog := X.prog) (w := X.w) (A := X.A.in1) (show X.A.in1.handled = none from I.ok.hd hc) i1 a na its.toArray
    have D2 := Draws.list (prog := X.prog) (w := X.w) (A := X.A.in1) (show X.A.in1.handled = none from I.ok.hd hc) i2 b nb its2.toArray
    have z1 : its.toArray.size = its.length := by simp
    have z2 : its2.toArray.size = its2.length := by simp
    exact wpAny_pyNext_zipD2_end S D1 D2 hz hTI hTO ⟨h1, p⟩ ⟨h2, p2.isList⟩ (by omega) (by omega) (by omega) fun h' tk hk => ⟨rfl, I.turnedL (t' := tk) (ch := [z, TI, TO, i1, i2]) (fun c o hb q =>
      hk c o (fun q' => hb (by simp [q'])) (fun q' => hb (by simp [q'])) (fun q' => hb (by simp [q'])) (fun q' => hb (by simp [q'])) q) hf⟩
  self := fun A i s Q E st h => wpAny_pyIter_zip st.1 h
def iZipM (K : PySem.W.Frag) (ta : TA) : TI := fun σ H R => ta σ H fun vs H1 => ∃ a b xs ys, vs = [.ref a, .ref b] ∧ SqT K H1 a xs ∧ SqL K H1 b ys ∧ R (ItzM K a b xs.length ys.length) H1
theorem pi_zipM {X : Cx} {e e2 : Expr} {ta : TA} {p pos tpos : PySem.Pos} {elts : List Expr} {kk : Nat} (hg : Gl X "zip") (hm : X.mg "zip" = none) (ha : PA X [e, e2] ta)
    (hs : starEach [e, e2] X.env = (false, eval e X.env) :: starEach [e2] X.env := by rfl) (hpl : (backTo pos (starEach [e2] X.env)).any (·.1) = false := by rfl) :
    PI X (.Tuple elts kk tpos) (.Call (.Name "zip" p) [e, e2] [] pos) (iZipM X.K ta) := by
  refine ⟨fun pins s σ H R I h => ?_⟩
  refine Call_ (ld_blt I hg hm PyProof.Rows.boot_zip (PyProof.Rows.callWith_type1 (thn (ha.run pos pins s σ H _ I h) fun us s1 ⟨vs, H1, I1, r1, q1⟩ => ?_) hs hpl))
  obtain ⟨a, b, xs, ys, ex, hqx, hqy, q⟩ := q1
  subst ex
  cases r1 with
  | cons r rr =>
    cases rr with
    | cons r' rr =>
      cases rr
      cases r
      cases r'
      have fresh5 : ∀ c, c ∈ [s1.heap.objs.size + 4, s1.heap.objs.size + 2, s1.heap.objs.size + 3, s1.heap.objs.size, s1.heap.objs.size + 1] → FpOk X pins H1 c := fun c hcm => by
        have e' : c = s1.heap.objs.size + 4 ∨ c = s1.heap.objs.size + 2 ∨ c = s1.heap.objs.size + 3 ∨ c = s1.heap.objs.size ∨ c = s1.heap.objs.size + 1 := by simpa using hcm
        have hle : s1.heap.objs.size ≤ c := by
          rcases e' with z | z | z | z | z
          · rw [z]; exact Nat.le_add_right _ _
          · rw [z]; exact Nat.le_add_right _ _
          · rw [z]; exact Nat.le_add_right _ _
          · rw [z]; exact Nat.le_refl _
          · rw [z]; exact Nat.le_add_right _ _
        exact I1.fpOk hle (I1.hok.fresh hle)
      obtain ⟨its, rv, p1, _⟩ := I1.tuple hqx
      obtain ⟨its2, rv2, p2, _⟩ := I1.list hqy
      have hal : a < s1.heap.objs.size := by obtain ⟨o, ho, _⟩ := id p1; exact Heap.lt_size ho
      have hbl : b < s1.heap.objs.size := p2.lt
      refine zip_begins2 (begins_tuple a its.toArray) (begins_list b its2.toArray) p1 p2.isList fun h' hz hTI hTO h1 h2 hsz hk => wpAny_pyIter_zip hz ?_
      have I2 : Inv X pins σ H1 { s1 with heap := h' } := I1.kept (t' := s1.toks) hk
      have ne : ∀ {i j : Addr}, i ≠ j → i = j → False := fun h e => h e
      refine ⟨s1.heap.objs.size + 4, [s1.heap.objs.size + 4, s1.heap.objs.size + 2, s1.heap.objs.size + 3, s1.heap.objs.size, s1.heap.objs.size + 1], _, _, H1, rfl, I2, turn_zipM (zsep hal hbl) (Nat.ne_of_lt hal) (Nat.ne_of_lt (Nat.lt_succ_of_lt hbl)), ⟨hz, hTI, ⟨_, _, hTO⟩, ⟨_, h1, rfl, rfl⟩, ⟨_, h2, rfl, rfl⟩, Nat.zero_le _, Nat.zero_le _⟩, fresh5, q⟩
end RZm
namespace L3
open PySem PySem.Spec PyProof.Rows L2
theorem walk_zipM {K : PySem.W.Frag} {F0 : Hp} {a b : Addr} {xs ys : List V} {ds es : List D} (ha : SqT K F0 a xs) (hb : F0 b = some (.lst ys)) (ra : Reps K F0 xs ds) (rb : Reps K F0 ys es)   : WalkOk K (RZm.ItzM K a b xs.length ys.length) F0 (zipD ds es) where
  go := fun i F H s1 s2 hi => by
    rw [zipD_len, ← ra.length, ← rb.length] at hi
    exact ⟨xs, ys, xs[i]'(by omega), ys[i]'(by omega), Same.sqt s2 (Same.sqt s1 ha), SqL.of (s2 _ _ (s1 _ _ hb)), ⟨rfl, rfl⟩, List.getElem?_eq_getElem _, List.getElem?_eq_getElem _⟩
  yld := fun i F H v H' s1 s2 hi ⟨T, x, y, ev, hT, eH, hx, hy⟩ => by
    subst ev eH
    obtain ⟨d, e1, r1⟩ := ra.get' (hx xs (Same.sqt s2 (Same.sqt s1 ha)))
    obtain ⟨e, e2, r2⟩ := rb.get' (hy ys (SqL.of (s2 _ _ (s1 _ _ hb))))
    have X1 := Ext.alloc s2 hT (.tup [x, y])
    exact ⟨_, _, zipD_get e1 e2, X1, .tup upd_same (.cons (Rep.mono X1.ff (r1.mono s1)) (.cons (Rep.mono X1.ff (r2.mono s1)) .nil))⟩
  stop := fun i F H s1 s2 hi => by
    rw [zipD_len, ← ra.length, ← rb.length] at hi
    exact ⟨xs, ys, Same.sqt s2 (Same.sqt s1 ha), SqL.of (s2 _ _ (s1 _ _ hb)), ⟨rfl, rfl⟩, by omega⟩
def zipN : List Opd → Option (List D)
  | [.val (.tup l), .val (.lst m)] => some (zipD l m)
  | [.val (.ktp l), .val (.lst m)] => some (zipD l m)
  | _ => none
def itZM (f : AM) : LM := fun ρ => (f ρ).bind fun p => (zipN p.1).bind fun l => some (l, p.2)
theorem zipN_cases {os : List Opd} {l : List D} (e : zipN os = some l) : ∃ x a b, os = [.val x, .val (.lst b)] ∧ tupP x = some a ∧ l = zipD a b := by
  unfold zipN at e
  split at e
  · cases e; exact ⟨_, _, _, rfl, rfl, rfl⟩
  · cases e; exact ⟨_, _, _, rfl, rfl, rfl⟩
  · cases e
theorem di_zipM {X : Cx} {g : Gx} {a b : Expr} {fa : AM} {p pos tpos : PySem.Pos} {elts : List Expr} {kk : Nat} (hg : Gl X "zip") (hm : X.mg "zip" = none) (ha : DA X g [a, b] fa) (hs : starEach [a, b] X.env = (false, eval a X.env) :: starEach [b] X.env := by rfl) (hpl : (backTo pos (starEach [b] X.env)).any (·.1) = false := by rfl) :
    DI X g (.Tuple elts kk tpos) (.Call (.Name "zip" p) [a, b] [] pos) (itZM fa) :=
  weakPI (RZm.pi_zipM hg hm ha hs hpl) fun σ H R ⟨F, ρ, ds, ρ', G, hf, q⟩ => by
  obtain ⟨q1, e, hf⟩ := bnd hf
  obtain ⟨l, e2, hf⟩ := bnd hf
  obtain ⟨os, ρ1⟩ := q1
  cases hf
  refine ⟨F, ρ, os, ρ1, G, e, fun vs F' H' G' s r => ?_⟩
  obtain ⟨x, l1, l2, rfl, t1, rfl⟩ := zipN_cases e2
  cases r with
  | cons r1 rr =>
    cases rr with
    | cons r2 rr =>
      cases rr
      obtain ⟨p1, w1, rfl, h1, h2⟩ := rep_tupP (show Rep X.K F' _ x from r1) t1
      have r2' : Rep X.K F' _ (.lst l2) := r2
      cases r2' with
      | lst h3 h4 => exact ⟨_, _, _, _, rfl, Same.sqt G'.sub h1, SqL.of (G'.sub _ _ h3), q _ F' H' G' s (walk_zipM h1 h3 h2 h4)⟩
section
variable {ρ : Env} {fa : AM} {Q : List D × Env → Prop}
theorem zipN_t {l m : List D} : zipN [.val (.tup l), .val (.lst m)] = some (zipD l m) := rfl
theorem zipN_k {l m : List D} : zipN [.val (.ktp l), .val (.lst m)] = some (zipD l m) := rfl
theorem x_itZM : Ex (itZM fa ρ) Q = Ex (fa ρ) fun p => Ex (zipN p.1) fun l => Q (l, p.2) := by
  unfold itZM
  simp only [ex_eq, ex0_bind, ex0_some]
end
end L3

namespace L3
open PySem PySem.Spec PyProof.Rows L2
/-! ### methods of texts without arguments, split, int of a text -/
def eM0 (k : D → Option D) (f : EM) : EM := fun ρ => (f ρ).bind fun p => if isS p.1 then (k p.1).bind fun c => some (c, p.2) else none
theorem m0_t {X : Cx} {g : Gx} {r : V → List V → Hp → VK → Prop} {k : D → Option D} {f : EM} (hk : Op1 X.K (fun x H Q => r x [] H Q) k) {σ : L2.St} {H : Hp} {Q : VK} (z : tE X.K g (eM0 k f) σ H Q) : tM0 r (tE X.K g f) σ H Q := by
  obtain ⟨F, ρ, d, ρ', G, hf0, q⟩ := z
  obtain ⟨⟨a, ρ1⟩, e1, hf1⟩ := bnd hf0
  clear hf0
  split at hf1
  · rename_i hs
    obtain ⟨c, e4, hf3⟩ := bnd hf1
    clear hf1
    refine ⟨F, ρ, a, ρ1, G, e1, fun v F1 H1 G1 s1 r1 => ?_⟩
    cases a with
    | str x =>
      have r1' := r1
      cases r1
      refine ⟨⟨_, rfl⟩, ?_⟩
      exact G1.op1 (r := fun x H Q => r x [] H Q) hk (o := .val (.str x)) r1' rfl e4 (show L3.fin true c ρ1 = some (d, ρ') from hf3) fun w F3 H3 G3 s3 r3 => q w F3 H3 G3 (s1.trans s3) r3
    | _ => cases hs
  · cases hf1
def kDig : D → Option D
  | .str a => some (.bl (Txt.isdigit a))
  | _ => none
def kAsc : D → Option D
  | .str a => some (.bl (Txt.isascii a))
  | _ => none
section
variable {X : Cx} {g : Gx} {a b : Expr} {f : EM} {h : OM} {apos pos : PySem.Pos}
theorem de_isdigit (ha : DE X g a f) (hbase : attributeBase a "isdigit" X.env (eval a X.env) = eval a X.env := by rfl) (hline : (apos.endLine == pos.line) = true := by rfl) : DE X g (.Call (.Attribute a "isdigit" apos) [] [] pos) (eM0 kDig f) :=
  weakPE (pe_m0 F.slot_str_isdigit F.type_str_isdigit mt_isdigit ha hbase hline) fun σ H Q q => m0_t (fun F H v a c Q s ra e q => by
    unfold kDig at e
    split at e
    · cases e; cases ra
      exact ⟨_, rfl, rfl, trivial, q _ F H (Ext.refl s) .bl⟩
    · cases e) q
theorem de_isascii (ha : DE X g a f) (hbase : attributeBase a "isascii" X.env (eval a X.env) = eval a X.env := by rfl) (hline : (apos.endLine == pos.line) = true := by rfl) : DE X g (.Call (.Attribute a "isascii" apos) [] [] pos) (eM0 kAsc f) :=
  weakPE (pe_m0 F.slot_str_isascii F.type_str_isascii mt_isascii ha hbase hline) fun σ H Q q => m0_t (fun F H v a c Q s ra e q => by
    unfold kAsc at e
    split at e
    · cases e; cases ra
      exact ⟨_, rfl, rfl, trivial, q _ F H (Ext.refl s) .bl⟩
    · cases e) q
end
def kSplit : D → D → Option D
  | .str a, .str b => if (b.length == 0) = false ∧ a.length + 2 ≤ 16777216 then some (.lst ((Txt.split a b).map D.str)) else none
  | _, _ => none
theorem reps_strL {K : PySem.W.Frag} {F : Hp} : ∀ ys : List PySem.Str, Reps K F (ys.map V.str) (ys.map D.str)
  | [] => .nil
  | _ :: ys => .cons .str (reps_strL ys)
theorem de_split {X : Cx} {g : Gx} {a b : Expr} {f : EM} {h : OM} {apos pos : PySem.Pos} (ha : DE X g a f) (hb : DO X g b h) (hs : starEach [b] X.env = [(false, eval b X.env)] := by rfl) (hbase : attributeBase a "split" X.env (eval a X.env) = eval a X.env := by rfl) (hline : (apos.endLine == pos.line) = true := by rfl) :
    DE X g (.Call (.Attribute a "split" apos) [b] [] pos) (eM1 kSplit f h) :=
  weakPE (pe_split ha hb hs hbase hline) fun σ H Q q => m1_t (fun F H v u a b c Q s ra rb e q => by
    unfold kSplit at e
    split at e
    · split at e
      · rename_i hh
        cases e; cases ra; cases rb
        exact ⟨_, _, rfl, rfl, hh.1, by rw [sizeLine_eq]; exact hh.2, fun p hp => q _ _ _ (Ext.alloc s hp _) (.lst upd_same (reps_strL _))⟩
      · cases e
    · cases e) q
def kIntS : List D → Option D
  | [.str a] => if a.length ≤ 640 then (intText? a).bind fun n => some (.int n) else none
  | _ => none
theorem ok_intS {K : PySem.W.Frag} : OpL K (fun xs H Q => ∃ a n, xs = [.str a] ∧ PySem.intText? a = some n ∧ a.length ≤ 640 ∧ Q (.int n) H) kIntS := by
  intro F H vs as c Q s r e q
  unfold kIntS at e
  split at e
  · split at e
    · rename_i hz
      obtain ⟨n, e1, e2⟩ := bnd e
      cases e2
      cases r with
      | cons r rr =>
        cases rr
        cases r
        exact ⟨_, _, rfl, e1, hz, q _ F H (Ext.refl s) .int⟩
    · cases e
  · cases e
/-! ### word, *words = a list -/
theorem pgs_star {X : Cx} {e : Expr} {es : List Expr} {t : TG} {u : TGs} {p : PySem.Pos} (h1 : PG X e t) (h2 : PGs X es u)
    (hs : (assignEach (.Starred e p :: es) X.env).map (·.2) = assign e X.env :: (assignEach es X.env).map (·.2) := by rfl) : PGs X (.Starred e p :: es) (gCons t u) := by
  refine ⟨fun pins s σ H vs us Q I r h => ?_⟩
  obtain ⟨v, vr, e1, h⟩ := h
  subst e1
  cases r with
  | cons r rr =>
    rw [hs]
    refine assignInOrder_cons (thn (h1.run pins s σ H _ _ _ I r h) fun _ s1 ⟨σ1, H1, I1, q1⟩ => ?_)
    exact h2.run pins s1 σ1 H1 _ _ Q I1 rr q1
theorem dgs_star {X : Cx} {g : Gx} {e : Expr} {es : List Expr} {f : GM} {ws us : List Nat} {fs : List D → Env → Option Env} {p : PySem.Pos} (h1 : DG X g e ws f) (h2 : DGs X g es us fs)
    (hs : (assignEach (.Starred e p :: es) X.env).map (·.2) = assign e X.env :: (assignEach es X.env).map (·.2) := by rfl) : DGs X g (.Starred e p :: es) (ws ++ us) (gsCons f fs) :=
  weakPGs (pgs_star h1 h2 hs) fun v σ H Q ⟨F, ρ, d, ρ', G, r, hf, q⟩ => by
  cases r with
  | nil => cases hf
  | cons r rr =>
    obtain ⟨ρ1, e1, e2⟩ := bnd hf
    refine ⟨_, _, rfl, F, ρ, _, ρ1, G, r, e1, fun σ1 G1 w1 => ⟨F, ρ1, _, ρ', G1, rr, e2, fun σ2 G2 w2 => q σ2 G2 ⟨w2.1.trans w1.1, fun j hj => ?_⟩⟩⟩
    rw [List.mem_append, not_or] at hj
    exact (w2.2 j hj.2).trans (w1.2 j hj.1)
def gSt1 (K : PySem.W.Frag) (t : TGs) : TG := fun v σ H Q => ∃ a x xs, v = .ref a ∧ SqL K H a (x :: xs) ∧ xs.length < 16384 ∧ ∀ p, H p = none → t [x, .ref p] σ (upd H p (.lst xs)) Q
theorem pg_st1 {X : Cx} {es : List Expr} {pos : PySem.Pos} {k : Nat} {t : TGs} (hc : X.calm = true) (h : PGs X es t)
    (hn : (assignEach es X.env).length = 2 := by rfl) (hst : (assignEach es X.env).findIdx? (·.1) = some 1 := by rfl) : PG X (.Tuple es k pos) (gSt1 X.K t) := by
  refine ⟨fun pins s σ H v u Q I r hw => ?_⟩
  obtain ⟨a, x, xs, e1, hq, hz, hw⟩ := hw
  subst e1
  cases r
  obtain ⟨its, rv, pl, _⟩ := I.list hq
  cases rv with
  | cons rx rv =>
  rename_i y ys
  have hl := pl.isList
  have hh := I.ok.hd hc
  have hle := rv.length
  rw [arm_assign_Tuple]
  refine wpAny_bind (wpAny_standAt ?_)
  unfold unpack
  rw [hn, hst]
  refine wpAny_bind (wpAny_holding ?_)
  have hlt : a ≠ s.heap.objs.size := by obtain ⟨o, ho, _⟩ := hl; exact Nat.ne_of_lt (Heap.lt_size ho)
  have hll : a < s.heap.objs.size := by obtain ⟨o, ho, _⟩ := hl; exact Heap.lt_size ho
  unfold unpackItems
  refine wpAny_bind ?_
  unfold notIterableAtAll
  refine wpAny_bind (wpAny_specialOf hl.typeIs slot_list_iter.lookup ?_)
  refine wpAny_pure ?_
  simp only [Bool.false_eq_true, if_false]
  refine wpAny_bind (wpAny_holding (wpAny_pyIter_list hl ?_))
  refine wpAny_bind (wpAny_holding (PySem.W.kun_draw hlt 1 0 _ _ ⟨_, Heap.get?_push_size _ rfl, rfl, rfl⟩ (hl.push _) (by simp) fun h₁ hit₁ hs₁ => ?_))
  have hl₁ := (hl.push (o := { cls := .type "list_iterator", data := .fields #[.ref a, .int 0 0] })).extBut hs₁.extBut hlt
  rw [Nat.zero_add] at hit₁
  have hit₁' := hit₁
  obtain ⟨oi, hoi, _⟩ := hit₁'
  have hl₁' := hl₁
  obtain ⟨ol, hol, _⟩ := hl₁'
  rw [List.drop_zero]
  rw [if_neg (show ¬ (((y :: ys).toArray.toList.take 1).length < 1) by simp)]
  refine wpAny_bind (wpAny_holding (PySem.W.kun_collect (s := { s with heap := h₁ }) (T := "list_iterator") (.inr (.inr (.inl rfl))) (Walks.list (A := X.A.in1) hh s.heap.objs.size a hlt (y :: ys).toArray) (fun j u st => st.1.typeIs) (k := 1) (show 1 ≤ (y :: ys).toArray.size by simp) ⟨hit₁, hl₁⟩ (Heap.lt_size hoi) (Heap.lt_size hol) (fun h₂ tk hk => ?_) (show (y :: ys).toArray.size ≤ sizeLine by rw [sizeLine_eq]; simp; omega)))
  rw [if_neg (Nat.not_lt_zero _)]
  have e1 : (List.drop 1 (y :: ys).toArray.toList) = ys := rfl
  have e2 : (List.take 1 (y :: ys).toArray.toList) = [y] := rfl
  rw [e1, e2, show ys.length - (2 - 1 - 1) = ys.length from rfl, List.take_length, List.drop_length]
  have kk : ∀ b o, s.heap.get? b = some o → h₂.get? b = some o := fun b o e => hk b o (Nat.ne_of_lt (Heap.lt_size e)) (hs₁.extBut b o (Nat.ne_of_lt (Heap.lt_size e)) (Heap.get?_push_of_some _ e))
  have I1 : Inv X pins σ H { s with heap := h₂, toks := tk } := I.kept (t' := tk) kk
  refine wpAny_bind (wpAny_newList (s := { s with heap := h₂, toks := tk }) (wpAny_pure ?_) (by rw [sizeLine_eq]; omega))
  have hp := I1.hok.fresh (Nat.le_refl _)
  have I2 : Inv X pins σ (upd H h₂.objs.size (.lst xs)) { s with heap := h₂.push { cls := .type "list", data := .seq ys.toArray }, toks := tk } :=
    I1.laid (t' := tk) (fun b u q => Heap.get?_push_of_some _ q) (Nat.le_refl _) ⟨by rw [sizeLine_eq]; omega, ys, _, rv, Heap.get?_push_size _ rfl⟩
  exact h.run pins _ σ _ [x, .ref h₂.objs.size] [y, .ref h₂.objs.size] Q I2 (.cons rx (.cons rfl .nil)) (hw _ hp)
/-- a, *b = a list -/
def sStar (i j : Nat) (f : EM) : SM := fun ρ => (f ρ).bind fun p => match p.1 with
  | .lst (x :: l) => if l.length < 16384 then some (.nx, (p.2.set i (some (.d x))).set j (some (.d (.lst l)))) else none
  | _ => none
theorem ds_star {X : Cx} {g : Gx} {e : Expr} {f : EM} {x y : PySem.Str} {i j kk : Nat} {px py pst pt pos : PySem.Pos} (hc : X.calm = true) (he : DE X g e f) (hN : X.N.Nodup) (hi : X.N[i]? = some x) (hx : Loc X.env.scope x) (hj : X.N[j]? = some y) (hy : Loc X.env.scope y)
    (hs : swapsWithSole [.Tuple [.Name x px, .Starred (.Name y py) pst] kk pt] e pos.line X.env = pure false := by rfl) (hw : swappedStores [.Tuple [.Name x px, .Starred (.Name y py) pst] kk pt] e X.env = pure none := by rfl)
    (hfx : X.fn x = true ∨ X.env.scope.names.lookup x = some .local := by first | exact .inl rfl | exact .inr rfl | assumption) (hfy : X.fn y = true ∨ X.env.scope.names.lookup y = some .local := by first | exact .inl rfl | exact .inr rfl | assumption) :
    DS X g (.Assign [.Tuple [.Name x px, .Starred (.Name y py) pst] kk pt] e pos) (sStar i j f) :=
  weakPS (ps_asg he (pg_st1 hc (pgs_cons (pg_name hN hi hx hfx) (pgs_star (pg_name hN hj hy hfy) pgs_nil))) hs hw rfl) fun D σ H ⟨F, ρ, o, ρ', G, hf, q⟩ => by
  obtain ⟨⟨d, ρ1⟩, e, hf⟩ := bnd hf
  refine ⟨F, ρ, d, ρ1, G, e, fun v F1 H1 G1 s1 r1 => ?_⟩
  dsimp only at hf
  split at hf
  · split at hf
    · rename_i hl
      cases hf
      cases r1 with
      | lst h1 h2 =>
        cases h2 with
        | cons ra rb =>
          refine ⟨_, _, _, rfl, SqL.of (G1.sub _ _ h1), by rw [rb.length]; exact hl, fun p hp => ?_⟩
          have X1 := fun o => Ext.alloc G1.sub hp o
          refine ⟨_, _, rfl, ⟨_, _, rfl, rfl, ?_⟩⟩
          exact q _ _ _ (((G1.ext (X1 _)).setD i (Rep.mono (X1 _).ff ra)).setD j (.lst upd_same (rb.mono (X1 _).ff))) (s1.trans (X1 _).ff)
    · cases hf
  · cases hf
def x1L : D → Option (D × List D)
  | .lst (x :: l) => if l.length < 16384 then some (x, l) else none
  | _ => none
theorem x_sStar {i j : Nat} {f : EM} {ρ : Env} {QS : Out × Env → Prop} : Ex (sStar i j f ρ) QS = Ex (f ρ) fun p => Ex (x1L p.1) fun z => QS (.nx, (p.2.set i (some (.d z.1))).set j (some (.d (.lst z.2)))) := by
  simp only [ex_eq]
  unfold sStar
  simp only [ex0_bind]
  congr 1
  funext p
  obtain ⟨d, ρ1⟩ := p
  unfold x1L
  cases d <;> simp only [ex0_none, ex0_some]
  rename_i l
  cases l <;> simp only [ex0_none, ex0_some]
  split <;> simp only [ex0_none, ex0_some]
theorem x1L_c {x : D} {l : List D} {Q : D × List D → Prop} : Ex (x1L (.lst (x :: l))) Q = (l.length < 16384 ∧ Q (x, l)) := by
  unfold x1L
  simp only [ex_eq, ex0_guard, ex0_some]
section
variable {X : Cx} {g : Gx} {x : PySem.Str} {tab : List (PySem.Str × D)} {e : Expr} {p pos : PySem.Pos} {fk : EM}
theorem dt_kIn (hg : Gl X x) (T : KTab X.K X.w X.mg x tab) (he : DE X g e fk) (hdb : (x == ("__debug__" : PySem.Str)) = false := by decide) : DT X g (.Compare e [.In] [.Name x p] pos) (tV (eKIn tab false fk)) := by
  obtain ⟨d, es, n, hm, D, ht⟩ := T
  refine weakPT (pt_cmpR (op_in_kd D) he (pe_glob (v := .ref d) (pos := p) hg hm rfl (hd := hdb)) rfl) fun _ _ _ h => tV_t (fun σ H Q ⟨F, ρ, d', ρ', G, hf, q⟩ => ?_) h
  obtain ⟨⟨a, ρ1⟩, e1, hf⟩ := bnd hf
  dsimp only at hf
  refine ⟨F, ρ, a, ρ1, G, e1, fun v F1 H1 G1 s1 r1 => ?_⟩
  cases a with
  | str s =>
    cases r1
    cases hf
    obtain ⟨h1, h2⟩ := ht s
    cases hl : tab.lookup s with
    | some e' =>
      obtain ⟨u, v, en, ru, rv⟩ := h1 e' hl
      rw [hl] at q
      exact ⟨s, _, rfl, rfl, en, q _ F1 H1 G1 s1 .bl⟩
    | none =>
      rw [hl] at q
      exact ⟨s, _, rfl, rfl, h2 hl, q _ F1 H1 G1 s1 .bl⟩
  | _ => cases hf
theorem dt_kNotIn (hg : Gl X x) (T : KTab X.K X.w X.mg x tab) (he : DE X g e fk) (hdb : (x == ("__debug__" : PySem.Str)) = false := by decide) : DT X g (.Compare e [.NotIn] [.Name x p] pos) (tV (eKIn tab true fk)) := by
  obtain ⟨d, es, n, hm, D, ht⟩ := T
  refine weakPT (pt_cmpR (op_notIn_kd D) he (pe_glob (v := .ref d) (pos := p) hg hm rfl (hd := hdb)) rfl) fun _ _ _ h => tV_t (fun σ H Q ⟨F, ρ, d', ρ', G, hf, q⟩ => ?_) h
  obtain ⟨⟨a, ρ1⟩, e1, hf⟩ := bnd hf
  dsimp only at hf
  refine ⟨F, ρ, a, ρ1, G, e1, fun v F1 H1 G1 s1 r1 => ?_⟩
  cases a with
  | str s =>
    cases r1
    cases hf
    obtain ⟨h1, h2⟩ := ht s
    cases hl : tab.lookup s with
    | some e' =>
      obtain ⟨u, v, en, ru, rv⟩ := h1 e' hl
      rw [hl] at q
      exact ⟨s, _, rfl, rfl, en, q _ F1 H1 G1 s1 .bl⟩
    | none =>
      rw [hl] at q
      exact ⟨s, _, rfl, rfl, h2 hl, q _ F1 H1 G1 s1 .bl⟩
  | _ => cases hf
end
section
variable {ρ : Env} {f : EM} {h : OM} {Q : D × Env → Prop} {QR : Env → Prop}
theorem x_eM0 {k : D → Option D} : Ex (eM0 k f ρ) Q = Ex (f ρ) fun p => isS p.1 = true ∧ Ex (k p.1) fun c => Q (c, p.2) := by
  unfold eM0; simp only [ex_eq, ex0_guard, ex0_bind, ex0_some]
end
end L3

namespace L3
open PySem PySem.Spec PyProof.Rows L2
/-! ### try: body except C as n: .., where the body raises nothing -/
def WNo : WX := fun _ _ _ _ => False
theorem takes_no {X : Cx} : Takes X WNo := fun u s' h => by
  obtain ⟨_, _, _, _, _, _, _, _, _, _, _, _, _, _, _, _, w⟩ := h
  exact w.elim
theorem ds_tryNo {X : Cx} {g : Gx} {x n : PySem.Str} {c : Value} {i : Nat} {body suite : List Stmt} {b₀ : Stmt} {np pos pos' : PySem.Pos} {f : SM} (hs : X.stack = X.env :: X.outer) (hf : X.env.frame = some X.env.locals) (hN : X.N.Nodup) (hi : X.N[i]? = some n) (hln : X.env.kindOf n = some .local) (hc : Names X x c)
    (hb : ∀ (pn : List (Addr × Obj)) (xe : Value → Shared → Prop), PassesOwn (model X.prog X.w) X.A X.env xe → DSs (X.tr pn xe) g body f) :
    DS X g (.Try body [.ExceptHandler (some (.Name x np)) (some n) (b₀ :: suite) pos'] [] [] pos) f :=
  weakPS (ps_try_as (tb := fun _ => tS X.K g f) (ts := fun _ _ _ => tNever) hs hf hN hi hln hc takes_no (fun W pn xe _ hp => hb pn xe hp) fun _ _ _ _ _ _ _ => pss_never) fun D σ H q => q
end L3

namespace L3
open PySem PySem.Spec PyProof.Rows L2
/-! ### code that may raise: statements with a second way out
Rz: an exception of the class at C, without fields of its own or with one field. -/
structure Rz where
  C : Addr
  f : Option (PySem.Str × D)
def RzQ (K : PySem.W.Frag) (F' H' : Hp) (σ' : St) (W : WX) (z : Rz) : Prop := match z.f with
  | none => W (.ref z.C) none σ' H'
  | some fx => ∀ v d, Rep K F' v fx.2 → H' d = none → W (.ref z.C) (some d) σ' (upd H' d (.xd [(fx.1, v)]))
abbrev OutX := Sum Out Rz
abbrev SMX := Env → Option (OutX × Env)
def OutXQ (K : PySem.W.Frag) (g : Gx) (W : WX) (E : Ends) (F' : Hp) (σ' : St) (ρ' : Env) (H' : Hp) : OutX → Prop
  | .inl o => OutQ K g E F' σ' ρ' H' o
  | .inr z => RzQ K F' H' σ' W z
def tSX (K : PySem.W.Frag) (g : Gx) (f : SMX) (W : WX) : TS := fun E σ H => ∃ F ρ o ρ', Gd K g F H σ ρ ∧ f ρ = some (o, ρ') ∧ ∀ σ' F' H', Gd K g F' H' σ' ρ' → Same F F' → OutXQ K g W E F' σ' ρ' H' o
def DSX (X : Cx) (g : Gx) (s : Stmt) (f : SMX) : Prop := ∀ W, Takes X W → PS X s (tSX X.K g f W)
def DSsX (X : Cx) (g : Gx) (s : List Stmt) (f : SMX) : Prop := ∀ W, Takes X W → PSs X s (tSX X.K g f W)
/-- code that does not raise -/
def xL (f : SM) : SMX := fun ρ => (f ρ).bind fun p => some (.inl p.1, p.2)
def xSeq (f h : SMX) : SMX := fun ρ => (f ρ).bind fun p => match p.1 with
  | .inl .nx => h p.2
  | o => some (o, p.2)
def xIf (t : TM) (f h : SMX) : SMX := fun ρ => (t ρ).bind fun p => if p.1 then f p.2 else h p.2
def xFrz (i : Nat) (f : SMX) : SMX := fun ρ => match ρ[i]? with
  | some (some (.own none xs)) => f (ρ.set i (some (.d xs)))
  | _ => none
section
variable {X : Cx} {g : Gx} {st : Stmt} {sts : List Stmt} {ex c : Expr} {f h : SMX} {fs : SM} {t : TM} {pos : PySem.Pos}
theorem xL_t {D : Ends} {σ : L2.St} {H : Hp} {W : WX} (q : tSX X.K g (xL fs) W D σ H) : tS X.K g fs D σ H := by
  obtain ⟨F, ρ, o, ρ', G, hf, q⟩ := q
  obtain ⟨p, e, hf⟩ := bnd hf
  cases hf
  exact ⟨F, ρ, p.1, p.2, G, e, q⟩
theorem dsX_l (hs : DS X g st fs) : DSX X g st (xL fs) := fun W _ => weakPS hs fun D σ H q => xL_t q
theorem dssX_l (hs : DSs X g sts fs) : DSsX X g sts (xL fs) := fun W _ => weakPSs hs fun D σ H q => xL_t q
theorem dssX_one (h1 : DSX X g st f) : DSsX X g [st] f := fun W tk => pss_one (h1 W tk)
theorem dssX_cons (h1 : DSX X g st f) (h2 : DSsX X g sts h) : DSsX X g (st :: sts) (xSeq f h) := fun W tk => weakPSs (pss_cons (h1 W tk) (h2 W tk)) fun D σ H ⟨F, ρ, o, ρ', G, hf, q⟩ => by
  obtain ⟨p, e, hf⟩ := bnd hf
  obtain ⟨o1, ρ1⟩ := p
  refine ⟨F, ρ, o1, ρ1, G, e, fun σ' F' H' G' s => ?_⟩
  cases o1 with
  | inr z => cases hf; exact q σ' F' H' G' s
  | inl o1 =>
    cases o1 with
    | nx => exact ⟨F', ρ1, o, ρ', G', hf, fun σ2 F2 H2 G2 s2 => q σ2 F2 H2 G2 (s.trans s2)⟩
    | br => cases hf; exact q σ' F' H' G' s
    | ct => cases hf; exact q σ' F' H' G' s
    | rt d => cases hf; exact q σ' F' H' G' s
    | rn xs => cases hf; exact q σ' F' H' G' s
    | rr xs => cases hf; exact q σ' F' H' G' s
theorem dsX_if {a b : List Stmt} (hc : DT X g c t) (ha : DSsX X g a f) (hb : DSsX X g b h) : DSX X g (.If c a b pos) (xIf t f h) := fun W tk => weakPS (ps_if hc (ha W tk) (hb W tk)) fun D σ H ⟨F, ρ, o, ρ', G, hf, q⟩ => by
  obtain ⟨p, e, hf⟩ := bnd hf
  refine ⟨F, ρ, p.1, p.2, G, e, fun F' H' G' s => ?_⟩
  obtain ⟨k, ρ1⟩ := p
  cases k with
  | true => exact iteT ⟨F', ρ1, o, ρ', G', hf, fun σ2 F2 H2 G2 s2 => q σ2 F2 H2 G2 (s.trans s2)⟩
  | false => exact iteF ⟨F', ρ1, o, ρ', G', hf, fun σ2 F2 H2 G2 s2 => q σ2 F2 H2 G2 (s.trans s2)⟩
theorem xfrz_t {i : Nat} {W : WX} {te : TS} (h : ∀ D σ H, tSX X.K g f W D σ H → te D σ H) : ∀ D σ H, tSX X.K g (xFrz i f) W D σ H → te D σ H := fun D σ H ⟨F, ρ, o, ρ', G, hf, q⟩ => by
  unfold xFrz at hf
  split at hf
  · rename_i xs hx
    obtain ⟨l, vs, e, tg, fl, hl, r⟩ := G.slot i _ hx
    obtain ⟨G2, sm⟩ := G.frzOwn hx e hl r
    exact h D σ H ⟨_, _, o, ρ', G2, hf, fun σ2 F2 H2 G3 s2 => q σ2 F2 H2 G3 (sm.trans s2)⟩
  · cases hf
theorem dsX_frz (i : Nat) (hs : DSX X g st f) : DSX X g st (xFrz i f) := fun W tk => weakPS (hs W tk) (xfrz_t fun _ _ _ z => z)
theorem dssX_frz (i : Nat) (hs : DSsX X g sts f) : DSsX X g sts (xFrz i f) := fun W tk => weakPSs (hs W tk) (xfrz_t fun _ _ _ z => z)
end
/-! ### defs that may raise -/
abbrev FMX := List A → Option (Sum (Res × List D) (Rz × List D))
def RzE (K : PySem.W.Frag) (F' H' : Hp) (E : XK) (z : Rz) : Prop := match z.f with
  | none => E (.ref z.C) none H'
  | some fx => ∀ v d, Rep K F' v fx.2 → H' d = none → E (.ref z.C) (some d) (upd H' d (.xd [(fx.1, v)]))
def spX (K : PySem.W.Frag) (fm : FMX) : Sp := fun vs H Q E => ∃ F as r, ArgsOk K F H vs as ∧ (adL (fpL H vs as)).Nodup ∧ Same F H ∧ fm as = some r ∧
  match r with
  | .inl (r, os) => ∀ v F' H', Post K F H F' H' (adL (fpL H vs as)) → IosOk K H F' H' vs as os → (adL (fpO H' vs as os)).Nodup → ResOk K H F' H' (adL (fpO H' vs as os)) v r → Q v H'
  | .inr (z, os) => ∀ F' H', Post K F H F' H' (adL (fpL H vs as)) → IosOk K H F' H' vs as os → (adL (fpO H' vs as os)).Nodup → RzE K F' H' E z
def mkX (n m : Nat) (G : SMX) : FMX := fun as => if as.length = n then (G (entry 0 as ++ List.replicate (m - n) none)).bind fun p => match p.1 with
  | .inl o => (resOf o).bind fun r => (collect 0 0 as p.2).bind fun os => some (.inl (r, os))
  | .inr z => (collect 0 0 as p.2).bind fun os => some (.inr (z, os))
  else none
section
variable {P : Program} {w : World} {K : PySem.W.Frag} {mg : Str → Option Value} {base : Heap}
theorem okDX {x qual : Str} {st : Stmt} {dvs : List V} {kws : List (Str × V)} {f : Addr} {fd : FuncData} {N ps : List Str} {k : Nat} {B : SMX} (W : FunD K x qual (defArgs st) (defBody st) (defScope st) dvs kws f fd) (Sc : FnScope N ps (defScope st)) (hps : ps.length ≤ N.length)
    (hb : ∀ (cdv : Value) (A : Around) (outer : List PySem.Env) (s : Shared) (H : Hp) (E : XK) (g : Gx), Room k (A.deeper (PyProof.Rows.envOfC qual (defScope st) s.heap.objs.size f cdv)) → DSsX (cxOf (L2.CX P w) P w K mg base N qual (defScope st) f cdv A outer s H E) g (defBody st) B) :
    FnOk P w K mg base (L2.CX P w) (k + 1) f fd ps (spX K (mkX ps.length N.length B)) := by
  refine FunD.ok W Sc (fun vs H Q E ⟨F0, as, r, h, nd, s, hf, q⟩ => ?_) (fun cdv A outer s H vs Q E hr ⟨F0, as, r, h, nd, sm, hf, q⟩ => ⟨_, (hb cdv A outer s H E ⟨H, F0, fpL H vs as, fun _ => none⟩ hr) (fun cls d _ H => E cls d H) (takes_of (E := E) rfl rfl rfl rfl), ?_⟩)
  · unfold mkX at hf
    split at hf
    · rename_i hl
      rw [h.length]; exact hl
    · cases hf
  · unfold mkX at hf
    split at hf
    · rename_i hl
      obtain ⟨p, e1, hf⟩ := bnd hf
      obtain ⟨o, ρ'⟩ := p
      have G := entry_gd N h nd sm (by rw [hl]; exact hps)
      rw [hl] at G
      cases o with
      | inl o =>
        obtain ⟨r', e2, hf⟩ := bnd hf
        obtain ⟨os', e3, hf⟩ := bnd hf
        cases hf
        refine ⟨F0, _, .inl o, ρ', G, e1, fun σ' F' H' G' s' => ?_⟩
        have post : Post K F0 H F' H' (adL (fpL H vs as)) := ⟨s', G'.sub, G'.keep, G'.new, G'.grow⟩
        obtain ⟨ios, ndo, par⟩ := collect_ok G' rfl (pre := []) h rfl rfl e3
        cases o with
        | nx => cases e2; exact q _ F' H' post ios ndo .non
        | rt d => cases e2; exact fun v r => q v F' H' post ios ndo r
        | rn xs =>
          cases e2
          exact fun l ws h1 h2 h3 h4 h5 => q _ F' H' post ios ndo ⟨l, ws, rfl, h3, h2, fun m => by
            obtain ⟨j, _, q2, q3⟩ := par l m
            exact h4 j q2 q3, h1, h5⟩
        | rr xs =>
          cases e2
          exact fun l ws h1 h2 h3 h4 => q _ F' H' post ios ndo ⟨l, ws, rfl, h1, h2, h3, fun a m => ⟨(h4 a m).2.1, (h4 a m).1, fun m2 => by
            obtain ⟨j, _, q2, q3⟩ := par a m2
            exact (h4 a m).2.2 j q2 q3⟩⟩
        | br => cases e2
        | ct => cases e2
      | inr z =>
        obtain ⟨os', e3, hf⟩ := bnd hf
        cases hf
        refine ⟨F0, _, .inr z, ρ', G, e1, fun σ' F' H' G' s' => ?_⟩
        have post : Post K F0 H F' H' (adL (fpL H vs as)) := ⟨s', G'.sub, G'.keep, G'.new, G'.grow⟩
        obtain ⟨ios, ndo, par⟩ := collect_ok G' rfl (pre := []) h rfl rfl e3
        exact q F' H' post ios ndo
    · cases hf
end
end L3

namespace L3
open PySem PySem.Spec PyProof.Rows L2
/-! ### calls of defs that may raise -/
def outsX : Sum (Res × List D) (Rz × List D) → List D
  | .inl p => p.2
  | .inr p => p.2
def lfZ (z : Rz) : Bool := match z.f with
  | none => true
  | some fx => lf fx.2
def evX (fm : FMX) (dds : List D) (fa : AM) : Env → Option (Sum (D × Env) (Rz × Env)) := fun ρ => (fa ρ).bind fun p => if (ios p.1).Nodup ∧ okOs p.1 (ios p.1) = true then (argsOf p.2 p.1).bind fun as => (fm (as ++ dds.map A.v)).bind fun r =>
  (putOuts p.1 (outsX r) p.2).bind fun ρ2 => if hasRef p.1 = false ∨ (outsX r).all lfo = true then
    match r with
    | .inl r => (finR (r.1, !hasRef p.1, ρ2)).bind fun q => some (.inl q)
    | .inr z => if (!hasRef p.1 || lfZ z.1) = true then some (.inr (z.1, ρ2)) else none
  else none
  else none
section
variable {X : Cx} {g : Gx} {fm : FMX} {dds : List D} {dvs : List V} {fa : AM}
theorem callX_t (hdd : ∀ F, Reps X.K F dvs dds) {F H : Hp} {σ : St} {ρ : Env} {R : VK} {E : XK} {p : List Opd × Env} (G : Gd X.K g F H σ p.2) {vs : List V} (r : OpdsOk X.K F σ vs p.1)
    (nd : (ios p.1).Nodup) (ok : okOs p.1 (ios p.1) = true) {as : List A} (ea : argsOf p.2 p.1 = some as) {rr : Sum (Res × List D) (Rz × List D)} (ef : fm (as ++ dds.map A.v) = some rr) {ρ2 : Env} (ep : putOuts p.1 (outsX rr) p.2 = some ρ2)
    (hl : hasRef p.1 = false ∨ (outsX rr).all lfo = true)
    (q : ∀ r os, rr = .inl (r, os) → ∀ v F1 F2 H2 ad, (∀ {w : V} {d : D}, (hasRef p.1 = true → lf d = true) → Rep X.K F1 w d → Rep X.K F2 w d) → (∀ {w : HO} {d : D}, (hasRef p.1 = true → lfo d = true) → ORep X.K F1 w d → ORep X.K F2 w d) →
      (∀ b, H b = none → F1 b = none → b ∉ ad → F2 b = none ∧ g.H0 b = none ∧ g.pin b = none ∧ ∀ i, ¬ OwnAt H2 σ ρ2 i b) → Gd X.K g F2 H2 σ ρ2 → Same F F2 → ResOk X.K H F1 H2 ad v r → R v H2)
    (qx : ∀ z os, rr = .inr (z, os) → ∀ F1 F2 H2, (∀ {w : V} {d : D}, (hasRef p.1 = true → lf d = true) → Rep X.K F1 w d → Rep X.K F2 w d) → Gd X.K g F2 H2 σ ρ2 → Same F F2 → RzE X.K F1 H2 E z) : spX X.K fm (vs ++ dvs) H R E := by
  have ha := args_ok G (is := ios p.1) (c := hasRef p.1) r ea ok (fun _ h => h) (fun h => h)
  refine ⟨_, _, rr, ha.append (hdd _), ?_, G.lentPH, ef, ?_⟩
  · rw [fpL_append dds ha]; exact ios_nodup r ea G nd
  · cases rr with
    | inl rr =>
      obtain ⟨rs0, os⟩ := rr
      intro v F1 H2 post io ndo rs
      rw [fpL_append dds ha] at post
      obtain ⟨io', eo⟩ := iosOk_append dds ha io
      rw [eo] at ndo rs
      obtain ⟨G2, sF, rep, reps, trep, none⟩ := call_end G r ea nd post io' ndo ep fun hc => by
        rcases hl with h | h
        · rw [h] at hc; cases hc
        · exact fun xs hx => List.all_eq_true.mp h xs hx
      exact q _ _ rfl v F1 _ H2 _ rep reps none G2 sF rs
    | inr rr =>
      obtain ⟨z, os⟩ := rr
      intro F1 H2 post io ndo
      rw [fpL_append dds ha] at post
      obtain ⟨io', eo⟩ := iosOk_append dds ha io
      rw [eo] at ndo
      obtain ⟨G2, sF, rep, reps, trep, none⟩ := call_end G r ea nd post io' ndo ep fun hc => by
        rcases hl with h | h
        · rw [h] at hc; cases hc
        · exact fun xs hx => List.all_eq_true.mp h xs hx
      exact qx _ _ rfl F1 _ H2 rep G2 sF
theorem callX_c (hdd : ∀ F, Reps X.K F dvs dds) {W : WX} {σ : St} {H : Hp} {Q : VK} {F : Hp} {ρ : Env} (G : Gd X.K g F H σ ρ) {r : Sum (D × Env) (Rz × Env)} (e : evX fm dds fa ρ = some r)
    (qn : ∀ d ρ', r = .inl (d, ρ') → ∀ v F' H', Gd X.K g F' H' σ ρ' → Same F F' → Rep X.K F' v d → Q v H') (qx : ∀ z ρ', r = .inr (z, ρ') → ∀ F' H', Gd X.K g F' H' σ ρ' → Same F F' → RzQ X.K F' H' σ W z) :
    tCallSD (spX X.K fm) dvs (WE W) (tA X.K g fa) σ H Q := by
  obtain ⟨p, e0, hm⟩ := bnd e
  split at hm
  · rename_i hc
    obtain ⟨as, e1, hm⟩ := bnd hm
    obtain ⟨rr, e2, hm⟩ := bnd hm
    obtain ⟨ρ2, e3, hm⟩ := bnd hm
    split at hm
    · rename_i hl
      refine ⟨F, ρ, p.1, p.2, G, e0, fun vs F' H' G' s' r' => callX_t (fm := fm) (E := WE W σ) (ρ := ρ) hdd G' r' hc.1 hc.2 e1 e2 e3 hl (fun rs0 os er v F1 F2 H2 ad rep reps none G2 sF rs => ?_) (fun z os er F1 F2 H2 rep G2 sF => ?_)⟩
      · subst er
        dsimp only at hm
        obtain ⟨q, e4, hm⟩ := bnd hm
        cases hm
        cases rs0 with
        | d x =>
          simp only [finR, fin] at e4
          split at e4
          · rename_i hx
            cases e4
            exact qn _ _ rfl v F2 H2 G2 (s'.trans sF) (rep (fun h => by rw [h] at hx; simpa using hx) rs)
          · cases e4
        | n xs =>
          simp only [finR] at e4
          split at e4
          · rename_i hx
            cases e4
            obtain ⟨l, ws, rfl, h1, h2, hx2, h3, h4⟩ := rs
            obtain ⟨n1, n2, n3, n4⟩ := none l h1 h2 hx2
            have sm' : Same F2 (upd F2 l ws) := fun b u e => by rw [upd_ne (ne_of_none e n1)]; exact e
            exact qn _ _ rfl _ _ H2 (G2.freeze h3 n1 n2 n3 n4) ((s'.trans sF).trans sm') (((reps (fun h => by rw [h] at hx; simpa using hx) h4).mono sm').rep upd_same)
          · cases e4
        | r xs => simp only [finR] at e4; cases e4
      · subst er
        dsimp only at hm
        split at hm
        · rename_i hx
          cases hm
          have z' := qx z ρ2 rfl F2 H2 G2 (s'.trans sF)
          obtain ⟨C, f⟩ := z
          cases f with
          | none => exact z'
          | some fx => exact fun v d rv hd => z' v d (rep (fun h => by rw [h] at hx; simpa [lfZ] using hx) rv) hd
        · cases hm
    · cases hm
  · cases hm
/-- return f(..), f may raise -/
def xRetC (c : Env → Option (Sum (D × Env) (Rz × Env))) : SMX := fun ρ => (c ρ).bind fun r => match r with
  | .inl p => some (.inl (.rt p.1), p.2)
  | .inr p => some (.inr p.1, p.2)
def xSetC (i : Nat) (c : Env → Option (Sum (D × Env) (Rz × Env))) : SMX := fun ρ => (c ρ).bind fun r => match r with
  | .inl p => some (.inl .nx, p.2.set i (some (.d p.1)))
  | .inr p => some (.inr p.1, p.2)
def xExC (c : Env → Option (Sum (D × Env) (Rz × Env))) : SMX := fun ρ => (c ρ).bind fun r => match r with
  | .inl p => some (.inl .nx, p.2)
  | .inr p => some (.inr p.1, p.2)
/-- an expression that may raise: its value, its exception -/
def DX (X : Cx) (g : Gx) (e : Expr) (c : Env → Option (Sum (D × Env) (Rz × Env))) : Prop := ∀ W, Takes X W → ∃ te : TE, PE X e te ∧ ∀ (σ : St) (H : Hp) (Q : VK) (F : Hp) (ρ : Env) (r : Sum (D × Env) (Rz × Env)), Gd X.K g F H σ ρ → c ρ = some r →
  (∀ d ρ', r = .inl (d, ρ') → ∀ v F' H', Gd X.K g F' H' σ ρ' → Same F F' → Rep X.K F' v d → Q v H') → (∀ z ρ', r = .inr (z, ρ') → ∀ F' H', Gd X.K g F' H' σ ρ' → Same F F' → RzQ X.K F' H' σ W z) → te σ H Q
theorem dx_call {k : Nat} {f : Addr} {fd : FuncData} {ps : List PySem.Str} {ds : List Value} {x : PySem.Str} {p pos : PySem.Pos} {e : Expr} {es : List Expr} (Fk : FnOk X.prog X.w X.K X.mg X.base (L2.CX X.prog X.w) k f fd ps (spX X.K fm)) (hr : Room k X.A) (hg : Gl X x) (hm : X.mg x = some (.ref f)) (hk : PySem.W.keepIn X.K (.ref f) = true) (hb : Binds X.K fd ps ds) (hd : Vals dvs ds) (hdd : ∀ F, Reps X.K F dvs dds) (ha : DA X g (e :: es) fa) (hdb : (x == ("__debug__" : PySem.Str)) = false := by decide)
    (he : starEach (e :: es) X.env = (false, eval e X.env) :: starEach es X.env := by rfl) (hpl : (backTo pos (starEach es X.env)).any (·.1) = false := by rfl) : DX X g (.Call (.Name x p) (e :: es) [] pos) (evX fm dds fa) := fun W tk =>
  ⟨_, pe_callSD (E := WE W) Fk hr hg hm hk hb hd (passAt tk) ha hdb he hpl, fun σ H Q F ρ r G er qn qx => callX_c hdd G er qn qx⟩
theorem dsX_ret {ex : Expr} {c : Env → Option (Sum (D × Env) (Rz × Env))} {pos : PySem.Pos} (h : DX X g ex c) : DSX X g (.Return (some ex) pos) (xRetC c) := fun W tk => by
  obtain ⟨te, hp, hq⟩ := h W tk
  refine weakPS (ps_ret hp) fun D σ H ⟨F, ρ, o, ρ', G, hf, q⟩ => ?_
  obtain ⟨r, e, hf⟩ := bnd hf
  refine hq σ H _ F ρ r G e (fun d ρ1 er v F' H' G' s r => ?_) fun z ρ1 er F' H' G' s => ?_
  · subst er
    cases hf
    exact q σ F' H' G' s v r
  · subst er
    cases hf
    exact q σ F' H' G' s
theorem dsX_ex {ex : Expr} {c : Env → Option (Sum (D × Env) (Rz × Env))} {pos : PySem.Pos} (h : DX X g ex c) (hs : swapsWith ex none pos.line X.env = pure false := by rfl) : DSX X g (.Expr ex pos) (xExC c) := fun W tk => by
  obtain ⟨te, hp, hq⟩ := h W tk
  refine weakPS (ps_expr hp hs) fun D σ H ⟨F, ρ, o, ρ', G, hf, q⟩ => ?_
  obtain ⟨r, e, hf⟩ := bnd hf
  refine hq σ H _ F ρ r G e (fun d ρ1 er v F' H' G' s r => ?_) fun z ρ1 er F' H' G' s => ?_
  · subst er
    cases hf
    exact q σ F' H' G' s
  · subst er
    cases hf
    exact q σ F' H' G' s
theorem dsX_set {ex : Expr} {c : Env → Option (Sum (D × Env) (Rz × Env))} {i : Nat} {x : PySem.Str} {pos pos' : PySem.Pos} (hN : X.N.Nodup) (hi : X.N[i]? = some x) (hx : Loc X.env.scope x) (h : DX X g ex c) (hs : swapsWith ex (some (.Name x pos')) pos.line X.env = pure false := by rfl)
    (hf : X.fn x = true ∨ X.env.scope.names.lookup x = some .local := by first | exact .inl rfl | exact .inr rfl | assumption) : DSX X g (.Assign [.Name x pos'] ex pos) (xSetC i c) := fun W tk => by
  obtain ⟨te, hp, hq⟩ := h W tk
  refine weakPS (ps_set hN hi hx hp hs hf) fun D σ H ⟨F, ρ, o, ρ', G, hf, q⟩ => ?_
  obtain ⟨r, e, hf⟩ := bnd hf
  refine hq σ H _ F ρ r G e (fun d ρ1 er v F' H' G' s r => ?_) fun z ρ1 er F' H' G' s => ?_
  · subst er
    cases hf
    exact q _ F' H' (G'.setD i r) s
  · subst er
    cases hf
    exact q σ F' H' G' s
end
end L3

namespace L3
open PySem PySem.Spec PyProof.Rows L2
/-! ### raise C(e), C an own class over ValueError whose __init__ stores its argument -/
/-- __init__(self, x): self.f = x -/
def spEI (C : Addr) (f : PySem.Str) : Sp := fun vs H Q _ => ∃ a v, vs = [.ref a, v] ∧ H a = some (exo a C none) ∧ ∀ dx, H dx = none → dx ≠ a → Q .non (upd (upd H dx (exd dx [(f, v)])) a (exo a C (some dx)))
theorem okEI {P : Program} {w : World} {K : PySem.W.Frag} {mg : Str → Option Value} {base : Heap} {x qual f n0 n1 : PySem.Str} {st : Stmt} {dvs : List V} {kws : List (PySem.Str × V)} {C fI : Addr} {fd : FuncData} {k : Nat} (T : OexC K C) (hno : PySem.W.findIn K (.ref C) f = some none)
    (W : FunD K x qual (defArgs st) (defBody st) (defScope st) dvs kws fI fd) (Sc : FnScope [n0, n1] [n0, n1] (defScope st))
    (hb : ∀ (cdv : Value) (A : Around) (outer : List PySem.Env) (s : Shared) (H : Hp) (E : XK), PSs (cxOf CX0 P w K mg base [n0, n1] qual (defScope st) fI cdv A outer s H E) (defBody st) (tOst K f (tVar 0) (tVar 1))) :
    FnOk P w K mg base CX0 (k + 1) fI fd [n0, n1] (spEI C f) := by
  refine FunD.ok W Sc (fun vs H Q E ⟨a, v, e, _⟩ => by rw [e]; rfl) (fun cdv A outer s H vs Q E hr ⟨a, v, e, ha, q⟩ => ⟨tOst K f (tVar 0) (tVar 1), hb cdv A outer s H E, ?_⟩)
  subst e
  refine ⟨v, rfl, .ref a, rfl, a, C, rfl, T, hno, .inl ⟨ha, fun dx h1 h2 => ?_⟩⟩
  exact q dx h1 h2
def xRai (C : Addr) (f : PySem.Str) (fe : EM) : SMX := fun ρ => (fe ρ).bind fun p => some (.inr ⟨C, some (f, p.1)⟩, p.2)
theorem dsX_raise {X : Cx} {g : Gx} {x f : PySem.Str} {C fI : Addr} {k : Nat} {fd : FuncData} {ps : List PySem.Str} {e : Expr} {fe : EM} {pos : PySem.Pos} (hc : X.calm = true) (T : OexC X.K C) (iC : PySem.W.findIn X.K (.ref C) "__init__" = some (some (.ref fI))) (tI : PySem.W.typeIn X.K (.ref fI) = some (.type "function"))
    (FI : FnOk X.prog X.w X.K X.mg X.base CX0 k fI fd ps (spEI C f)) (hr : Room (k + 1) X.A) (hb : Binds X.K fd ps []) (hg : Gl X x) (hm : X.mg x = some (.ref C)) (ha : DE X g e fe)
    (hdb : (x == ("__debug__" : PySem.Str)) = false := by decide) (he : starEach (e :: []) X.env = (false, eval e X.env) :: starEach [] X.env := by rfl) (hpl' : (backTo pos (starEach [] X.env)).any (·.1) = false := by rfl) {p0 pos2 : PySem.Pos} :
    DSX X g (.Raise (some (.Call (.Name x p0) [e] [] pos)) none pos2) (xRai C f fe) := fun W tk => by
  have pa : PA X [e] (tCons (tE X.K g fe) tNil) := pa_cons ha pa_nil he
  refine weakPS (ps_raise hc tk (pmk_oex (dvs := []) T iC tI FI hr hb .nil pass0 hg hm pa hdb he hpl')) fun D σ H ⟨F, ρ, o, ρ', G, hf, q⟩ => ?_
  obtain ⟨r, er, hf⟩ := bnd hf
  cases hf
  refine ⟨F, ρ, r.1, r.2, G, er, fun v F1 H1 G1 s1 r1 => ?_⟩
  refine ⟨by simp, fun a ha => ⟨a, v, rfl, upd_same, fun dx h1 h2 => ⟨rfl, dx, [(f, v)], upd_same, ?_, ?_, ?_⟩⟩⟩
  · rw [upd_ne h2, upd_same]
  · rwa [upd_ne h2] at h1
  · have h1' : H1 dx = none := by rwa [upd_ne h2] at h1
    have e1 : upd (del (upd (upd (upd H1 a (exo a C none)) dx (exd dx [(f, v)])) a (exo a C (some dx))) a) dx (.xd [(f, v)]) = upd H1 dx (.xd [(f, v)]) := by
      funext b
      by_cases hb : b = dx
      · subst hb
        rw [upd_same, upd_same]
      · rw [upd_ne hb, upd_ne hb]
        by_cases hba : b = a
        · subst hba
          rw [del_same, ha]
        · rw [del_ne hba, upd_ne hba, upd_ne hb, upd_ne hba]
    rw [e1]
    exact q σ F1 H1 G1 s1 v dx r1 h1'
end L3

namespace L3
open PySem PySem.Spec PyProof.Rows L2
/-! ### try: body except C as e: return <an expression over e> -/
def gH (g : Gx) (F1 : Hp) (dd : Addr) (f : PySem.Str) (v : V) : Gx := { g with F0 := F1, pin := upd g.pin dd (.xd [(f, v)]) }
section
variable {K : PySem.W.Frag} {g : Gx} {F1 H1 : Hp} {σ : St} {ρ : Env} {dd : Addr} {f : PySem.Str} {v : V}
theorem Gd.toH (G : Gd K g F1 H1 σ ρ) (hd : H1 dd = none) : Gd K (gH g F1 dd f v) F1 (upd H1 dd (.xd [(f, v)])) σ ρ := by
  have X1 : Ext F1 H1 F1 (upd H1 dd (.xd [(f, v)])) := ⟨fun b u e => by rw [upd_ne (ne_of_none e hd)]; exact e, Same.refl _, fun b u e => by rw [upd_ne (ne_of_none (G.sub _ _ e) hd)]; exact G.sub _ _ e, fun b o e => .inl e⟩
  have G2 := G.ext X1
  refine ⟨G2.len, G2.slot, G2.dist, G2.sub, Same.refl _, G2.keep, G2.grow, fun b o e => .inl e, fun b o e => ?_⟩
  by_cases hb : b = dd
  · subst hb
    have e' : upd g.pin b (.xd [(f, v)]) b = some o := e
    rw [upd_same] at e'
    cases e'
    refine ⟨upd_same, G.sub.free hd, fun i h => ?_⟩
    obtain ⟨_, o, ho, hl, _⟩ := G2.own h
    rw [upd_same] at ho
    cases ho
    cases hl
  · have e' : upd g.pin dd (.xd [(f, v)]) b = some o := e
    rw [upd_ne hb] at e'
    exact G2.pinned b o e'
theorem Gd.ofH {F H : Hp} {σ' : St} {ρ' : Env} (G : Gd K (gH g F1 dd f v) F H σ' ρ') (G1 : Gd K g F1 H1 σ ρ) (hd : H1 dd = none) : Gd K g F H σ' ρ' := by
  refine ⟨G.len, G.slot, G.dist, G.sub, G1.old.trans G.old, G.keep, G.grow, fun b o e => ?_, fun b o e => ?_⟩
  · rcases G.new b o e with h | h
    · exact G1.new b o h
    · exact .inr h
  · have hb : b ≠ dd := fun z => by
      subst z
      have := (G1.pinned _ _ e).1
      rw [hd] at this
      cases this
    exact G.pinned b o (show upd g.pin dd (.xd [(f, v)]) b = some o by rw [upd_ne hb]; exact e)
end
def noS : Option (Option S) → Bool
  | some none => true
  | _ => false
def xTryR (C : Addr) (f : PySem.Str) (i : Nat) (fb : SMX) (hx : D → Option D) : SM := fun ρ => (fb ρ).bind fun p => match p.1 with
  | .inl o => some (o, p.2)
  | .inr z => if z.C = C ∧ noS p.2[i]? = true then match z.f with
    | some fx => if fx.1 = f then (hx fx.2).bind fun y => some (.rt y, p.2) else none
    | none => none
    else none
theorem ds_tryRet {X : Cx} {g : Gx} {x n f : PySem.Str} {C : Addr} {c : Value} {i : Nat} {body : List Stmt} {ex : Expr} {np rp pos pos' : PySem.Pos} {fb : SMX} {hx : D → Option D} {fe : Addr → D → EM} (hs : X.stack = X.env :: X.outer) (hf : X.env.frame = some X.env.locals) (hN : X.N.Nodup) (hi : X.N[i]? = some n) (hln : X.env.kindOf n = some .local) (hc : Names X x c)
    (hm : PySem.W.exmOne X.K (.ref C) c = some true)
    (hb : ∀ (pn : List (Addr × Obj)) (xe : Value → Shared → Prop), PassesOwn (model X.prog X.w) X.A X.env xe → DSsX (X.tr pn xe) g body fb)
    (hh : ∀ (a : Addr) (oe : Obj) (pn : List (Addr × Obj)) (F1 : Hp) (v : V) (dd : Addr) (y : D), Zc (.ref C) (some dd) oe → (∃ vs, oe.data = .fields vs) → Rep X.K F1 v y → DE (X.suite a ((a, oe) :: pn)) (gH g F1 dd f v) ex (fe a y))
    (he : ∀ (a : Addr) (y r : D) (ρ : Env), ρ[i]? = some (some (.d (.cls a))) → hx y = some r → fe a y ρ = some (r, ρ)) :
    DS X g (.Try body [.ExceptHandler (some (.Name x np)) (some n) [.Return (some ex) rp] pos'] [] [] pos) (xTryR C f i fb hx) := by
  refine weakPS (ps_try_as (Wout := WNo) (tb := tSX X.K g fb) (ts := fun a cls d D σ H => ∃ F1 y v dd, cls = .ref C ∧ d = some dd ∧ Rep X.K F1 v y ∧ tE X.K (gH g F1 dd f v) (fe a y) σ H D.rt) hs hf hN hi hln hc takes_no (fun W pn xe tk hp => hb pn xe hp W tk) fun a oe cls d pn hz hfl => pss_one ⟨fun pins s σ H D I ⟨F1, y, v, dd, e1, e2, r, q⟩ => ?_⟩) fun D σ H ⟨F, ρ, o, ρ', G, hf, q⟩ => ?_
  · subst e1 e2
    exact (ps_ret (hh a oe pn F1 v dd y hz hfl r)).run pins s σ H D I q
  · obtain ⟨p, e, hf⟩ := bnd hf
    obtain ⟨o1, ρ1⟩ := p
    refine ⟨F, ρ, o1, ρ1, G, e, fun σ' F' H' G' s => ?_⟩
    cases o1 with
    | inl o1 =>
      cases hf
      exact q σ' F' H' G' s
    | inr z =>
      obtain ⟨zC, zf⟩ := z
      dsimp only at hf
      split at hf
      · rename_i hc2
        obtain ⟨rfl, hn⟩ := hc2
        cases zf with
        | none => cases hf
        | some fx =>
          dsimp only at hf
          split at hf
          · rename_i hfe
            obtain ⟨y, ey, hf⟩ := bnd hf
            cases hf
            obtain ⟨f', y0⟩ := fx
            dsimp only at hfe ey
            subst hfe
            have hn' : ρ'[i]? = some none := by
              unfold noS at hn
              split at hn
              · assumption
              · cases hn
            intro v d rv hd
            refine ⟨true, hm, fun _ a ha => ⟨F', y0, v, d, rfl, rfl, rv, ?_⟩, fun h => by cases h⟩
            have hlen : i < ρ'.length := by
              by_cases hl : i < ρ'.length
              · exact hl
              · rw [List.getElem?_eq_none (by omega)] at hn'
                cases hn'
            refine ⟨F', ρ'.set i (some (.d (.cls a))), y, ρ'.set i (some (.d (.cls a))), (G'.toH hd).setD i .cls, he a y0 y _ (by rw [List.getElem?_set_self hlen]) ey, fun w F2 H2 G2 s2 r2 => ?_⟩
            have G3 : Gd X.K g F2 H2 (σ'.set i (some (.ref a))) ρ' := (G2.ofH G' hd).less (by rw [List.length_set, G'.len]) fun j s0 es => by
              by_cases hj : j = i
              · subst hj
                rw [hn'] at es
                cases es
              · exact ⟨by rw [List.getElem?_set_ne (Ne.symm hj)]; exact es, rfl⟩
            exact q _ F2 H2 G3 (s.trans s2) w r2
          · cases hf
      · cases hf
end L3

namespace L3
open PySem PySem.Spec PyProof.Rows L2
/-! ### in a handler: e.f, isinstance(e, T), isinstance(e, (C, D)) -/
def isC (o : Option (Option S)) (a : Addr) : Bool := match o with
  | some (some (.d (.cls b))) => decide (b = a)
  | _ => false
/-- a constant, e being bound -/
def eXk (i : Nat) (a : Addr) (y : D) : EM := fun ρ => if isC ρ[i]? a = true then some (y, ρ) else none
theorem isC_ok {o : Option (Option S)} {a : Addr} (h : isC o a = true) : o = some (some (.d (.cls a))) := by
  unfold isC at h
  split at h
  · rw [of_decide_eq_true h]
  · cases h
theorem eXk_at {i : Nat} {a : Addr} {y : D} {ρ : Env} (h : ρ[i]? = some (some (.d (.cls a)))) : eXk i a y ρ = some (y, ρ) := by
  unfold eXk
  rw [h]
  exact if_pos (decide_eq_true rfl)
theorem boundE {K : PySem.W.Frag} {g : Gx} {F H : Hp} {σ : St} {ρ : Env} {i : Nat} {a : Addr} (G : Gd K g F H σ ρ) (h : ρ[i]? = some (some (.d (.cls a)))) : σ[i]? = some (some (.ref a)) := by
  obtain ⟨v, e, r⟩ := G.slot i _ h
  cases r
  exact e
section
variable {X : Cx} {g : Gx} {F1 : Hp} {a C dd : Addr} {oe : Obj} {pn : List (Addr × Obj)} {v : V} {y : D} {f n : PySem.Str} {i : Nat} {en ec : Expr} {p pos : PySem.Pos}
theorem de_xf (T : XfC X.K C) (hno : PySem.W.findIn X.K (.ref C) f = some none) (hz : Zc (.ref C) (some dd) oe) (hf : ∃ vs, oe.data = .fields vs) (r : Rep X.K F1 v y)
    (he : PE (X.suite a ((a, oe) :: pn)) en (tVar i)) (hb : attributeBase en f X.env (eval en X.env) = eval en X.env := by rfl) : DE (X.suite a ((a, oe) :: pn)) (gH g F1 dd f v) (.Attribute en f pos) (eXk i a y) :=
  weakPE (pe_xf T hno hz hf he hb) fun σ H Q ⟨F, ρ, d, ρ', G, hq, q⟩ => by
  unfold eXk at hq
  split at hq
  · rename_i hi
    cases hq
    refine ⟨.ref a, boundE G (isC_ok hi), rfl, rfl, dd, [(f, v)], v, rfl, (G.pinned dd _ upd_same).1, ?_, q v F H G (Same.refl _) (Rep.mono G.old r)⟩
    simp [List.lookup]
  · cases hq
/-- isinstance(e, c), isinstance(e, (c, ..)) -/
def rIsX (K : PySem.W.Frag) (D a dd : Addr) (b : Bool) : List V → Hp → VK → Prop := fun xs H Q => (∃ fs, H dd = some (.xd fs)) ∧ Q (.bl b) H ∧
  ((∃ c, xs = [.ref a, c] ∧ ∀ u, RelV c u → PySem.W.kitOne K (.ref D) u = some b) ∨ ∃ q ws, xs = [.ref a, .ref q] ∧ SqT K H q ws ∧ ∀ us, Vals ws us → PySem.W.kitAny K (.ref D) us = some b)
theorem call_isX {b : Bool} (T : ExcC X.K C) (hz : Zc (.ref C) (some dd) oe) (hf : ∃ vs, oe.data = .fields vs) : CallR (X.suite a ((a, oe) :: pn)) (.builtin "isinstance") (rIsX X.K C a dd b) := by
  intro pins s σ H xs us Q I r h
  obtain ⟨⟨fs, hd⟩, q, h⟩ := h
  obtain ⟨ha, _⟩ := I.pin (a, oe) (List.mem_append_left _ List.mem_cons_self)
  have hx : ObjOk X.prog X.w H s.heap dd (.xd fs) := I.hok dd _ hd
  obtain ⟨mA, hns, hr⟩ := hx
  obtain ⟨od, ho, hl⟩ := lookIn_ns hns
  obtain ⟨vs, hv⟩ := hf
  have J : PySem.W.InstAt s.heap a oe C (some od) := ⟨ha, hz.1, by unfold PySem.W.notCls; rw [hv] <;> rfl, by rw [hz.2]; exact ho⟩
  have hcl : (PySem.W.clsIn X.K C).isSome = true := by
    obtain ⟨cd, hc, _⟩ := PySem.W.any_some T.hd
    rw [hc]; rfl
  have Z := PySem.W.kitx_exc (x := a) (ox := oe) (od := some od) hcl T.hg T.hk T.hs T.ha T.hn T.ht T.hm
  rcases h with ⟨c, rfl, hc⟩ | ⟨t, ws, rfl, ht, hc⟩
  · cases r with
    | cons rx rr =>
      cases rr with
      | cons rt rr =>
        cases rr
        cases rx
        exact PySem.W.kia_one Z I.kIn J (hc _ rt) (fun z => nomatch z) fun tk => ⟨.bl b, H, I.kept (t' := tk) fun _ _ z => z, rfl, q⟩
  · cases r with
    | cons rx rr =>
      cases rr with
      | cons rt rr =>
        cases rr
        cases rx
        cases rt
        obtain ⟨its, rv, pt, _⟩ := I.tuple ht
        obtain ⟨o, ho, hcls, k, hdt⟩ := pt
        obtain ⟨oc, odd, oda, osl⟩ := o
        dsimp only at hcls hdt
        subst hcls hdt
        exact PySem.W.kia_tup Z I.kIn J ho (hc _ rv) (fun z => nomatch z) fun tk => ⟨.bl b, H, I.kept (t' := tk) fun _ _ z => z, rfl, q⟩
theorem de_isX1 {b : Bool} {c : V} {cv : Value} (T : ExcC X.K C) (hz : Zc (.ref C) (some dd) oe) (hf : ∃ vs, oe.data = .fields vs) (hg : Gl X "isinstance") (hm : X.mg "isinstance" = none)
    (he : PE (X.suite a ((a, oe) :: pn)) en (tVar i)) (hc : PE (X.suite a ((a, oe) :: pn)) ec (tC c)) (hv : ∀ u, RelV c u → u = cv) (hk : PySem.W.kitOne X.K (.ref C) cv = some b)
    (hs1 : starEach [en, ec] X.env = (false, eval en X.env) :: starEach [ec] X.env := by rfl) (hs2 : starEach [ec] X.env = (false, eval ec X.env) :: starEach [] X.env := by rfl) (hpl : (backTo pos (starEach [ec] X.env)).any (·.1) = false := by rfl) :
    DE (X.suite a ((a, oe) :: pn)) (gH g F1 dd f v) (.Call (.Name "isinstance" p) [en, ec] [] pos) (eXk i a (.bl b)) :=
  weakPE (pe_callB (call_isX (b := b) T hz hf) hg hm (by decide +kernel) (pa_cons he (pa_cons hc pa_nil hs2) hs1) (by decide) (by decide) hs1 hpl) fun σ H Q ⟨F, ρ, d, ρ', G, hq, q⟩ => by
  unfold eXk at hq
  split at hq
  · rename_i hi
    cases hq
    exact ⟨.ref a, boundE G (isC_ok hi), ⟨_, (G.pinned dd _ upd_same).1⟩, q _ F H G (Same.refl _) .bl, .inl ⟨c, rfl, fun u r => by rw [hv u r]; exact hk⟩⟩
  · cases hq
theorem reps_cls {K : PySem.W.Frag} {F : Hp} : ∀ {Bs : List Addr} {ws : List V}, Reps K F ws (Bs.map D.cls) → ws = Bs.map V.ref
  | [], _, .nil => rfl
  | b :: Bs, _, .cons r rr => by
    cases r
    rw [reps_cls rr]; rfl
theorem vals_cls : ∀ {Bs : List Addr} {us : List Value}, Vals (Bs.map V.ref) us → us = Bs.map Value.ref
  | [], _, .nil => rfl
  | b :: Bs, _, .cons r rr => by
    cases r
    rw [vals_cls rr]; rfl
theorem de_isXT {b : Bool} {ft : EM} {Bs : List Addr} (T : ExcC X.K C) (hz : Zc (.ref C) (some dd) oe) (hf : ∃ vs, oe.data = .fields vs) (hg : Gl X "isinstance") (hm : X.mg "isinstance" = none)
    (he : PE (X.suite a ((a, oe) :: pn)) en (tVar i)) (hc : DE (X.suite a ((a, oe) :: pn)) (gH g F1 dd f v) ec ft) (hv : ∀ ρ, ft ρ = some (.tup (Bs.map D.cls), ρ)) (hk : PySem.W.kitAny X.K (.ref C) (Bs.map Value.ref) = some b)
    (hs1 : starEach [en, ec] X.env = (false, eval en X.env) :: starEach [ec] X.env := by rfl) (hs2 : starEach [ec] X.env = (false, eval ec X.env) :: starEach [] X.env := by rfl) (hpl : (backTo pos (starEach [ec] X.env)).any (·.1) = false := by rfl) :
    DE (X.suite a ((a, oe) :: pn)) (gH g F1 dd f v) (.Call (.Name "isinstance" p) [en, ec] [] pos) (eXk i a (.bl b)) :=
  weakPE (pe_callB (call_isX (b := b) T hz hf) hg hm (by decide +kernel) (pa_cons he (pa_cons hc pa_nil hs2) hs1) (by decide) (by decide) hs1 hpl) fun σ H Q ⟨F, ρ, d, ρ', G, hq, q⟩ => by
  unfold eXk at hq
  split at hq
  · rename_i hi
    cases hq
    refine ⟨.ref a, boundE G (isC_ok hi), F, ρ, _, ρ, G, hv ρ, fun w F2 H2 G2 s2 r2 => ?_⟩
    cases r2 with
    | tup h1 h2 =>
      have e := reps_cls h2
      subst e
      refine ⟨⟨_, (G2.pinned dd _ upd_same).1⟩, q _ F2 H2 G2 s2 .bl, .inr ⟨_, _, rfl, SqT.of (G2.sub _ _ h1), fun us r => ?_⟩⟩
      rw [vals_cls r]
      exact hk
  · cases hq
end
end L3
namespace L3
open PySem PySem.Spec PyProof.Rows L2
/-! ### the head's facts about exception classes -/
def oexB (x : PySem.Str) (K : PySem.W.Frag) : Bool := (match K.lookup (He.ga K x) with
  | some ⟨.type "type", _, .cls cd, sl⟩ => (match cd.mro, sl.toList with
    | .ref C' :: bm, [_, _, _, _, some (.builtin n), _] => C' == He.ga K x && n == "ValueError.__new__" && !cd.hasDel && cd.hasDict && PySem.HandSPX.refsVE bm
    | _, _ => false)
  | _ => false) && (decide (PySem.W.findIn K (.ref (He.ga K x)) "__setattr__" = some (some (.builtin "object.__setattr__"))) && (decide (PySem.W.subIn K (.ref (He.ga K x)) (.type "BaseException") = some true) && (decide (PySem.W.typeIn K (.ref (He.ga K x)) = some (.type "type")) && PySem.W.keepIn K (.ref (He.ga K x)))))
theorem oexB_ok {K : PySem.W.Frag} {x : PySem.Str} (h : oexB x K = true) : OexC K (He.ga K x) := by
  obtain ⟨h1, h⟩ := Bool.and_eq_true_iff.mp h
  obtain ⟨h2, h⟩ := Bool.and_eq_true_iff.mp h
  obtain ⟨h3, h⟩ := Bool.and_eq_true_iff.mp h
  obtain ⟨h4, h5⟩ := Bool.and_eq_true_iff.mp h
  refine ⟨?_, of_decide_eq_true h2, of_decide_eq_true h3, of_decide_eq_true h4, h5⟩
  split at h1
  · rename_i dd cd sl ho
    split at h1
    · rename_i C' bm k0 k1 k2 k3 n k5 hm hs
      simp only [Bool.and_eq_true, beq_iff_eq, Bool.not_eq_true'] at h1
      obtain ⟨⟨⟨⟨e1, e2⟩, e3⟩, e4⟩, e5⟩ := h1
      obtain ⟨nm, bs, mro, ns, qn, hd, sn, sub, ab, col, del⟩ := cd
      dsimp only at hm e3 e4
      subst hm e3 e4 e2
      have hsl : sl = #[k0, k1, k2, k3, some (.builtin "ValueError.__new__"), k5] := by
        obtain ⟨l⟩ := sl
        simp only at hs
        rw [hs]
      subst hsl
      rw [e1] at ho
      exact ⟨_, _, _, _, _, _, _, _, _, _, _, _, _, _, _, ho, e5⟩
    · cases h1
  · cases h1
def excCB (x : PySem.Str) (K : PySem.W.Frag) : Bool :=
  decide (PySem.W.findIn K (.ref (He.ga K x)) "__getattribute__" = some (some (.builtin "BaseException.__getattribute__"))) && (decide (PySem.W.findIn K (.ref (He.ga K x)) "__getattr__" = some none) && (decide (PySem.W.subIn K (.ref (He.ga K x)) (.type "BaseException") = some true) && (PySem.W.hasDictIn K (He.ga K x) &&
  (decide (PySem.W.findIn K (.ref (He.ga K x)) "__class__" = some (some (.builtin "object.__class__"))) && (decide (PySem.W.specialIn K (.builtin "object.__class__") "__get__" = some (some (.builtin "getset_descriptor.__get__"))) && (decide (PySem.W.takesIn K (.builtin "object.__class__") = some true) && decide (PySem.W.mroIn K (He.ga K x) (.type "object") = some true)))))))
theorem excCB_ok {K : PySem.W.Frag} {x : PySem.Str} (h : excCB x K = true) : ExcC K (He.ga K x) := by
  obtain ⟨h1, h⟩ := Bool.and_eq_true_iff.mp h
  obtain ⟨h2, h⟩ := Bool.and_eq_true_iff.mp h
  obtain ⟨h3, h⟩ := Bool.and_eq_true_iff.mp h
  obtain ⟨h4, h⟩ := Bool.and_eq_true_iff.mp h
  obtain ⟨h5, h⟩ := Bool.and_eq_true_iff.mp h
  obtain ⟨h6, h⟩ := Bool.and_eq_true_iff.mp h
  obtain ⟨h7, h8⟩ := Bool.and_eq_true_iff.mp h
  exact ⟨of_decide_eq_true h1, of_decide_eq_true h2, of_decide_eq_true h3, h4, of_decide_eq_true h5, of_decide_eq_true h6, of_decide_eq_true h7, of_decide_eq_true h8⟩
structure DoneX (P : Program) (w : World) (K : PySem.W.Frag) (mg : PySem.Str → Option Value) (base : Heap) (k : Nat) (f : Addr) (ps : List PySem.Str) (fm : FMX) (dvs : List V) (fd : FuncData) : Prop where
  ok : FnOk P w K mg base (L2.CX P w) k f fd ps (spX K fm)
  kp : PySem.W.keepIn K (.ref f) = true
  bd : Binds K fd ps []
  dd : ∃ ds, Vals dvs ds ∧ Binds K fd ps ds
structure DoneI (P : Program) (w : World) (K : PySem.W.Frag) (mg : PySem.Str → Option Value) (base : Heap) (k : Nat) (f : Addr) (ps : List PySem.Str) (C : Addr) (fld : PySem.Str) (fd : FuncData) : Prop where
  ok : FnOk P w K mg base CX0 k f fd ps (spEI C fld)
  kp : PySem.W.keepIn K (.ref f) = true
  bd : Binds K fd ps []
end L3

namespace L3
open PySem PySem.Spec PyProof.Rows L2
/-! ### a def that is called where no repr of a collection is under way (A.guards = some []): its body may ask repr of plain data. The road is that of the kit's fn_of, law_call, walk_ofE (FnOk asks for every A). -/
structure FnG (P : Program) (w : World) (K : PySem.W.Frag) (mg : PySem.Str → Option Value) (base : Heap) (CX : CXT) (k : Nat) (f : Addr) (fd : FuncData) (ps : List PySem.Str) (sp : Sp) : Prop where
  len : ∀ vs H Q E, sp vs H Q E → vs.length = ps.length
  run : ∀ (A : Around) (outer : List PySem.Env) (s : Shared) (H : Hp) (args : Args) (us : List Value) (vs : List V) (Q : VK) (E : XK), A.guards = some [] → Room k A → Env0 P w K mg base A outer s H → BindsTo s fd args (ps.zip us) → Vals vs us → sp vs H Q E →
    codeAny (model P w) A (.call (.ref f) args) (CR CX outer P w H s Q E) s
section
variable {P : Program} {w : World} {K : PySem.W.Frag} {mg : PySem.Str → Option Value} {base : Heap} {CX : CXT}
theorem FunD.okG {x qual : PySem.Str} {params : Arguments} {body : List Stmt} {scope : Scope} {dvs : List V} {kws : List (PySem.Str × V)} {f : Addr} {fd : FuncData} {N ps : List PySem.Str} {k : Nat} {sp : Sp} (F : FunD K x qual params body scope dvs kws f fd) (S : FnScope N ps scope) (len : ∀ vs H Q E, sp vs H Q E → vs.length = ps.length)
    (hbody : ∀ (cdv : Value) (A : Around) (outer : List PySem.Env) (s : Shared) (H : Hp) (vs : List V) (Q : VK) (E : XK), A.guards = some [] → Room k (A.deeper (envOfC qual scope s.heap.objs.size f cdv)) → sp vs H Q E →
      ∃ t, PSs (cxOf CX P w K mg base N qual scope f cdv A outer s H E) body t ∧ t { nx := fun _ H' => Q .non H', rt := Q } (start N vs) H) : FnG P w K mg base CX (k + 1) f fd ps sp := by
  obtain ⟨oc, od, dV, kV, doc, pm, an, cdv, ct, osl, rfl, lk, hcd, _, _⟩ := F.ex
  refine ⟨len, fun A outer s H args us vs Q E hg hr e0 hb r hsp => ?_⟩
  have KX : K.In s.heap := e0.mod.kin.keeps fun b o e => (e0.bs b o e).1
  have lim : s.heap.NoLimit := e0.mod.nolimit.keeps fun b o e => (e0.bs b o e).1
  refine codeAny_call_function hr.depth (KX _ _ lk) rfl S.co S.gen rfl (PySem.W.codeRec_of KX hcd) (hb _ _ _ _ (wpAny_newFunctionEnv_cells S.kind (fun y hy => ?_) fun env he s1 x => ?_))
  · rcases S.par y.1 (List.of_mem_zip hy).1 with q | q
    · exact .inl q
    · exact .inr ⟨q, PySem.W.cellsFrom_some _ _ _ (.inl q)⟩
  · subst he
    obtain ⟨t, ht, hq⟩ := hbody cdv A outer s H vs Q E hg (hr.deeper _) hsp
    have I : Inv (cxOf CX P w K mg base N qual scope f cdv A outer s H E) [] (start N vs) H s1 := inv_start S hr.hd e0 (len _ _ _ _ hsp) r x
    refine ⟨lim.keeps x.toInCall.keep, codeAny_func (wpAny_mono (ht.run [] s1 (start N vs) H _ I hq) (fun fl s' hs => ?_) fun e s' hs => hs)⟩
    cases fl with
    | ret u =>
      obtain ⟨v, σ', H', J, rv, q⟩ := hs
      exact ⟨v, H', J.os, J.bare, J.base, J.hok, rv, q⟩
    | next =>
      obtain ⟨σ', H', J, q⟩ := hs
      exact ⟨.non, H', J.os, J.bare, J.base, J.hok, rfl, q⟩
    | brk =>
      obtain ⟨_, _, _, q⟩ := hs
      exact False.elim q
    | cont =>
      obtain ⟨_, _, _, q⟩ := hs
      exact False.elim q
theorem law_callG {mb : PySem.Str → Option Value} {k : Nat} {fa a : Addr} {fd : FuncData} {x : PySem.Str} {sp : Sp} {s₁ : Shared} {vs : List Value} {ns : List Int}
    (KX : K.In s₁.heap) (hns : s₁.heap.Ns mainGlobals mg) (hb : s₁.heap.Ns builtinsNs mb) (hbb : ∀ x : PySem.Str, x ≠ "__name__" → mb x = bootBuiltins x) (hlim : s₁.heap.NoLimit) (hg : s₁.gens = #[])
    (ha : s₁.heap.get? a = some { cls := .type "list", data := .seq vs.toArray }) (hi : IntsAre vs ns) (hl : ns.length ≤ sizeLine) (hr : Room k callerA)
    (F : ∀ base : Heap, K.In base → base.Ns mainGlobals mg → FnG P w K mg base CX k fa fd [x] sp) (hbind : ∀ (s : Shared) (u : Value), BindsTo s fd ⟨[u], []⟩ [(x, u)])
    (hsp : ∀ H : Hp, Only H → SqL K H a (ns.map V.int) → sp [.ref a] H (fun v _ => v = .bl true) fun _ _ _ => False)
    (hCX : ∀ H e s', CX [] H s₁ (fun _ _ _ => False) e s' → False) :
    codeAny (model P w) callerA (.call (.ref fa) ⟨[.ref a], []⟩) (fun r s' => r = .ok (.ret (.bool true)) ∧ PySem.OldK s₁.heap s'.heap ∧ s'.os = s₁.os ∧ AllBare s'.gens) s₁ := by
  have rv := vals_ints hi
  have lenV := hi.length
  have nil : ∀ b : Addr, b ∉ ([] : List Addr) := fun b z => by cases z
  -- over any heap of ours that tracks the script at most
  have core : ∀ H : Hp, Only H → SqL K H a (ns.map V.int) → HOk P w H s₁.heap → (∀ b, H b ≠ none → b = a ∧ K.lookup a = none) →
      codeAny (model P w) callerA (.call (.ref fa) ⟨[.ref a], []⟩) (fun r s' => r = .ok (.ret (.bool true)) ∧ PySem.OldK s₁.heap s'.heap ∧ s'.os = s₁.os ∧ AllBare s'.gens) s₁ := by
    intro H hO hS hok hA
    have free : ∀ {b : Addr}, (b = a → K.lookup a = none → False) → H b = none := fun {b} n => by
      cases q : H b with
      | none => rfl
      | some u =>
        obtain ⟨h1, h2⟩ := hA b (by rw [q]; simp)
        exact (n h1 h2).elim
    have nsK : ∀ {b : Addr} {m : PySem.Str → Option Value}, s₁.heap.Ns b m → (hidT s₁.heap H).Ns b m := fun {b m} ⟨o, es, ep, e, d, r⟩ => ⟨o, es, ep, hidT_get e (free fun h1 _ => by
      subst h1
      rw [ha] at e; cases e
      have d' : Data.seq vs.toArray _ = Data.dict es ep := d
      cases d'), d, r⟩
    have hKb : K.In (hidT s₁.heap H) := fun b o e => hidT_get (KX b o e) (free fun h1 h2 => by subst h1; rw [h2] at e; cases e)
    have hM : Mod K mg (hidT s₁.heap H) := ⟨hKb, nsK hns, ⟨mb, nsK hb, hbb⟩, let ⟨mc, h1, h2⟩ := hlim; ⟨mc, nsK h1, h2⟩⟩
    have e0 : Env0 P w K mg (hidT s₁.heap H) callerA [] s₁ H := ⟨rfl, hM, fun b o e => of_hidT e, Nat.le_of_eq (hidT_size _ _), trivial, fun b hb => absurd (show b ∈ ([] : List Addr) from hb) (nil b), hok, .of_eq hg⟩
    refine codeAny_mono ((F _ hKb (nsK hns)).run callerA [] s₁ H ⟨[.ref a], []⟩ [.ref a] [.ref a] _ _ rfl hr e0 (hbind s₁ (.ref a)) (.cons rfl .nil) (hsp H hO hS)) fun r s' h => ?_
    cases r with
    | error e => exact (hCX H e s' h).elim
    | ok fl =>
      cases fl with
      | next => exact False.elim h
      | brk => exact False.elim h
      | cont => exact False.elim h
      | ret u =>
        obtain ⟨v, H', os, bare, un, hok', r', q⟩ := h
        have q' : v = .bl true := q
        subst q'
        obtain rfl : u = Value.bool true := r'
        refine ⟨rfl, PySem.OldK.of_keep fun b o e => ?_, os, bare⟩
        rcases hO b with z | ⟨ob, xs, z⟩
        · exact un.keep b o e z (nil b) (nil b)
        · obtain ⟨e1, _⟩ := hok b _ z
          obtain ⟨e2, _⟩ := hok' b _ (un.frzs b ob _ z)
          rw [e] at e1; cases e1
          exact e2
  cases hk : K.lookup a with
  | some o =>
    have e := KX a o hk
    rw [ha] at e
    cases e
    exact core (fun _ => none) (fun _ => .inl rfl) (.inr ⟨_, vs.toArray, _, hk, rfl, rfl, rfl, by rw [List.size_toArray, lenV]; exact hl, by simpa using rv⟩) (fun b u z => by have z' : (none : Option HO) = some u := z; cases z') (fun b z => absurd rfl z)
  | none =>
    refine core (upd (fun _ => none) a (.frz { cls := .type "list", data := .seq vs.toArray } (.lst (ns.map V.int)))) (fun b => ?_) (.inl (.inr ⟨{ cls := .type "list", data := .seq vs.toArray }, upd_same⟩)) (fun b u z => ?_) (fun b z => ?_)
    · by_cases hb : b = a
      · subst hb; exact .inr ⟨_, _, upd_same⟩
      · exact .inl (upd_ne hb)
    · by_cases hb : b = a
      · subst hb
        rw [upd_same] at z
        cases z
        exact ⟨ha, by rw [List.length_map]; exact hl, vs, _, rv, ha⟩
      · rw [upd_ne hb] at z
        cases z
    · by_cases hb : b = a
      · exact ⟨hb, hk⟩
      · exact absurd (upd_ne hb) z
end
theorem walk_ofEG {l : PySem.W.OpenLaw} {n k : Nat} {q : Program} {loose : List PySem.Str} {XP : (PySem.Str → Option Value) → Heap → Prop} {YP : World → Heap → Prop} {d : DefRec} {CX : CXT} {x : PySem.Str}
    (hn : l.most = some n) (hn2 : n ≤ sizeLine) (hdf : d.params.defaults = []) (hr : Room k callerA)
    (F : ∀ (w : World) (mg : PySem.Str → Option Value) (fa : Addr) (h : Heap), YP w h → h.Ns mainGlobals mg → mg d.name = some (.ref fa) →
      ∃ (K : PySem.W.Frag) (fd : FuncData) (sp : Sp), K.In h ∧ (∀ (s : Shared) (u : Value), BindsTo s fd ⟨[u], []⟩ [(x, u)]) ∧
        (∀ (H : Hp) (a : Addr) (ns : List Int), ns.length ≤ n → Only H → SqL K H a (ns.map V.int) → sp [.ref a] H (fun v _ => v = .bl true) fun _ _ _ => False) ∧
        ∀ base : Heap, K.In base → base.Ns mainGlobals mg → FnG l.prog w K mg base CX k fa fd [x] sp)
    (hCX : ∀ (H : Hp) (s : Shared) (e : Value) (s' : Shared), CX [] H s (fun _ _ _ => False) e s' → False) :
    PySem.W.WalkO q loose XP YP l.row.toRowW d [] (fun f vs => PySem.call f vs) := by
  refine Att.attach_call hn hdf fun w s₀ s₁ mg mb fa o pm cd doc a vs ns G Y ho hd hcd hmg hobj hints hlen hg => ?_
  obtain ⟨K, fd, sp, KX, hb, hsp, hF⟩ := F w mg fa _ Y G.T.g hmg
  exact law_callG KX G.T.g G.T.b G.T.builtins G.T.nolimit hg hobj hints (Nat.le_trans hlen hn2) hr hF hb (fun H hO hS => hsp H a ns hlen hO hS) fun H e s' => hCX H s₁ e s'
section
variable {P : Program} {w : World} {K : PySem.W.Frag} {mg : PySem.Str → Option Value} {base : Heap}
theorem okDG {x qual : PySem.Str} {st : Stmt} {dvs : List V} {kws : List (PySem.Str × V)} {f : Addr} {fd : FuncData} {N ps : List PySem.Str} {k : Nat} {B : SM} (W : FunD K x qual (defArgs st) (defBody st) (defScope st) dvs kws f fd) (Sc : FnScope N ps (defScope st)) (hps : ps.length ≤ N.length)
    (hb : ∀ (cdv : Value) (A : Around) (outer : List PySem.Env) (s : Shared) (H : Hp) (E : XK) (g : Gx), A.guards = some [] → Room k (A.deeper (PyProof.Rows.envOfC qual (defScope st) s.heap.objs.size f cdv)) → DSs (cxOf CX0 P w K mg base N qual (defScope st) f cdv A outer s H E).nox g (defBody st) B) :
    FnG P w K mg base CX0 (k + 1) f fd ps (spF K (mkF ps.length N.length B)) := by
  refine FunD.okG W Sc (fun vs H Q E ⟨F0, as, r, os, h, nd, s, hf, q⟩ => ?_) (fun cdv A outer s H vs Q E hg hr ⟨F0, as, r, os, h, nd, sm, hf, q⟩ => ⟨_, PSs.nox (hb cdv A outer s H E ⟨H, F0, fpL H vs as, fun _ => none⟩ hg hr), ?_⟩)
  · unfold mkF at hf
    split at hf
    · rename_i hl
      rw [h.length]; exact hl
    · cases hf
  · unfold mkF at hf
    split at hf
    · rename_i hl
      obtain ⟨p, e1, hf⟩ := bnd hf
      obtain ⟨r', e2, hf⟩ := bnd hf
      obtain ⟨os', e3, hf⟩ := bnd hf
      cases hf
      obtain ⟨o, ρ'⟩ := p
      have G := entry_gd N h nd sm (by rw [hl]; exact hps)
      rw [hl] at G
      refine ⟨F0, _, o, ρ', G, e1, fun σ' F' H' G' s' => ?_⟩
      have post : Post K F0 H F' H' (adL (fpL H vs as)) := ⟨s', G'.sub, G'.keep, G'.new, G'.grow⟩
      obtain ⟨ios, ndo, par⟩ := collect_ok G' rfl (pre := []) h rfl rfl e3
      cases o with
      | nx => cases e2; exact q _ F' H' post ios ndo .non
      | rt d => cases e2; exact fun v r => q v F' H' post ios ndo r
      | rn xs =>
        cases e2
        exact fun l ws h1 h2 h3 h4 h5 => q _ F' H' post ios ndo ⟨l, ws, rfl, h3, h2, fun m => by
          obtain ⟨j, _, q2, q3⟩ := par l m
          exact h4 j q2 q3, h1, h5⟩
      | rr xs =>
        cases e2
        exact fun l ws h1 h2 h3 h4 => q _ F' H' post ios ndo ⟨l, ws, rfl, h1, h2, h3, fun a m => ⟨(h4 a m).2.1, (h4 a m).1, fun m2 => by
          obtain ⟨j, _, q2, q3⟩ := par a m2
          exact (h4 a m).2.2 j q2 q3⟩⟩
      | br => cases e2
      | ct => cases e2
    · cases hf
end
/-! ### repr of plain data -/
def kRepr : List D → Option D
  | [d] => (toPy d).bind fun x => if x.showable = true ∧ x.hasDict = false ∧ x.depth ≤ 50 ∧ x.shown.length ≤ 16777216 then some (.str x.shown) else none
  | _ => none
def rRepr (K : PySem.W.Frag) : List V → Hp → VK → Prop := fun xs H Q => ∃ v x, xs = [v] ∧ Dp K H v x ∧ PyData.showable x = true ∧ PyData.hasDict x = false ∧ PyData.depth x ≤ 50 ∧ (PyData.shown x).length ≤ sizeLine ∧ Q (.str x.shown) H
theorem call_repr {X : Cx} (hg : X.A.guards = some []) (hu : X.A.units + 64 < cLine) : CallR X (.builtin "repr") (rRepr X.K) := by
  intro pins s σ H xs us Q I r h
  obtain ⟨v, x, rfl, hd, h1, h2, h3, h4, q⟩ := h
  cases r with
  | cons rx rr =>
    cases rr
    rename_i u
    obtain ⟨as, rd⟩ := Dp.reads I x v u hd rx
    have rd0 := rd
    have two : ∀ {a : Addr}, u = .ref a → wpAny (model X.prog X.w) X.A (call (.builtin "repr") [u]) (EP X pins σ Q) X.xe s := fun {a} e => by
      subst e
      exact PySem.repr_of_reads' rd0 h1 (fun e => by rw [h2] at e; cases e) hg (by omega) (fun b o e => e) (fun h' u tk k => ⟨.str x.shown, H, I.kept (t' := tk) k, ⟨_, rfl⟩, q⟩) h4
    cases rd with
    | none => exact PySem.P.repr_of_none ⟨.str _, H, I.tok _, ⟨_, rfl⟩, by simpa only [PyData.shown] using q⟩
    | bool => exact PySem.P.repr_of_bool ⟨.str _, H, I.tok _, ⟨_, rfl⟩, by simpa only [PyData.shown] using q⟩
    | int => exact PySem.P.repr_of_int (by simpa [PyData.showable] using h1) ⟨.str _, H, I.tok _, ⟨_, rfl⟩, by simpa only [PyData.shown] using q⟩
    | str => exact PySem.P.repr_of_str ⟨.str _, H, I.tok _, ⟨_, rfl⟩, by simpa only [PyData.shown] using q⟩ (by simpa only [PyData.shown] using h4)
    | _ => exact two rfl
theorem ok_repr {K : PySem.W.Frag} : OpL K (rRepr K) kRepr := by
  intro F H vs as c Q s r e q
  unfold kRepr at e
  split at e
  · obtain ⟨x, e1, e2⟩ := bnd e
    split at e2
    · rename_i h
      cases e2
      cases r with
      | cons r rr =>
        cases rr
        exact ⟨_, x, rfl, toPy_ok s r e1, h.1, h.2.1, h.2.2.1, by rw [sizeLine_eq]; exact h.2.2.2, q _ F H (Ext.refl s) .str⟩
    · cases e2
  · cases e
end L3

namespace L3
open PySem L2

/-! ### a walk over a text; a text in a text; a text some times -/
def chD (x : PySem.Str) : List D := x.cps.toList.map fun c => D.str ⟨#[c]⟩
theorem walk_str {K : PySem.W.Frag} {F0 : Hp} (x : PySem.Str) : WalkOk K (Its x) F0 (chD x) where
  go := fun i F H s1 s2 hi => by
    show i < x.cps.size
    simpa [chD] using hi
  yld := fun i F H y H' s1 s2 hi ⟨e, c, hc, ey⟩ => by
    subst e; subst ey
    refine ⟨.str ⟨#[c]⟩, F, ?_, Ext.refl s2, .str⟩
    unfold chD
    rw [List.getElem?_map, Array.getElem?_toList, hc]
    rfl
  stop := fun i F H s1 s2 hi => by
    show x.cps.size ≤ i
    simpa [chD] using hi
def itS (f : EM) : LM := fun ρ => (f ρ).bind fun p => match p.1 with
  | .str x => some (chD x, p.2)
  | _ => none
theorem di_str {X : Cx} {g : Gx} {tg ex : Expr} {fe : EM} (h : DE X g ex fe) : DI X g tg ex (itS fe) := weakPI (pi_str h) fun σ H R ⟨F, ρ, ds, ρ', G, hf, q⟩ => by
  obtain ⟨p, e, hf⟩ := bnd hf
  obtain ⟨d, ρ1⟩ := p
  refine ⟨F, ρ, d, ρ1, G, e, fun v F' H' G' s r => ?_⟩
  cases d with
  | str x =>
    cases hf
    cases r
    exact ⟨_, rfl, q _ F' H' G' s (walk_str x)⟩
  | _ => cases hf
def kInS (neg : Bool) : D → D → Option D
  | .str i, .str j => some (.bl (if neg then !(!(Builtin.Str.occurrences j i 0 j.length 1).isEmpty) else !(Builtin.Str.occurrences j i 0 j.length 1).isEmpty))
  | _, _ => none
section
variable {K : PySem.W.Frag}
theorem ok_inS : Op2 K (fun x y H Q => ∃ i j, x = .str i ∧ y = .str j ∧ Q (.bl (!(Builtin.Str.occurrences j i 0 j.length 1).isEmpty)) H) (kInS false) := by
  intro F H v u a b c Q s ra rb e q
  unfold kInS at e
  split at e
  · cases ra; cases rb; cases e
    exact ⟨_, _, rfl, rfl, q _ F H (Ext.refl s) .bl⟩
  · cases e
theorem ok_notInS : Op2 K (fun x y H Q => ∃ i j, x = .str i ∧ y = .str j ∧ Q (.bl (!(!(Builtin.Str.occurrences j i 0 j.length 1).isEmpty))) H) (kInS true) := by
  intro F H v u a b c Q s ra rb e q
  unfold kInS at e
  split at e
  · cases ra; cases rb; cases e
    exact ⟨_, _, rfl, rfl, q _ F H (Ext.refl s) .bl⟩
  · cases e
end
def manyS (x : PySem.Str) (n : Nat) : PySem.Str := ⟨(List.replicate n x.cps).foldl (· ++ ·) #[]⟩
theorem fold_many (a : Array Nat) : ∀ (n : Nat) (acc : Array Nat), ((List.replicate n a).foldl (· ++ ·) acc).toList = acc.toList ++ (List.replicate n a.toList).flatten
  | 0, acc => by simp
  | n + 1, acc => by
    rw [List.replicate_succ, List.foldl_cons, fold_many a n, List.replicate_succ, List.flatten_cons, Array.toList_append, List.append_assoc]
theorem manyS_tl (x : PySem.Str) (n : Nat) : (manyS x n).cps.toList = (List.replicate n x.cps.toList).flatten := by
  show ((List.replicate n x.cps).foldl (· ++ ·) #[]).toList = _
  rw [fold_many]
  rfl
theorem manyS_len (x : PySem.Str) (n : Nat) : (manyS x n).length = n * x.length := by
  show (manyS x n).cps.size = n * x.cps.size
  rw [← Array.length_toList, manyS_tl]
  simp
def kMulS : D → D → Option D
  | .str x, .int n => if 1 < n ∧ n ≤ 1000 ∧ 0 < x.length ∧ x.length ≤ 1000 then some (.str (manyS x n.toNat)) else none
  | _, _ => none
def rMulS : R2 := fun x y H Q => ∃ i n, x = .str i ∧ y = .int n ∧ (1 < n ∧ n ≤ 1000 ∧ 0 < i.length ∧ i.length ≤ 1000) ∧ Q (.str (manyS i n.toNat)) H
theorem op_mulS {X : Cx} : OpR X (binaryOp .Mult) rMulS := by
  intro pins s σ H x y v u Q I rx ry h
  obtain ⟨i, n, rfl, rfl, ⟨h1, h2, h3, h4⟩, q⟩ := h
  obtain ⟨t, rfl⟩ := rx
  obtain ⟨t', rfl⟩ := ry
  have hz : i.length * n.toNat ≤ 1000000 := Nat.le_trans (Nat.mul_le_mul h4 (show n.toNat ≤ 1000 by omega)) (by decide)
  have h1' : (n == 1) = false := by simp; omega
  have h3' : (i.length == 0) = false := by simp; omega
  refine P.mul_str ?_ ?_ ?_ ?_
  · rw [decide_eq_false (show ¬ n < -(2 ^ 63 : Int) by omega), decide_eq_false (show ¬ n ≥ 2 ^ 63 by omega)]; rfl
  · intro _ _ hh
    have : (9223372036854775 : Int) ≤ (2 ^ 63 - 1) / n := by
      rw [Int.le_ediv_iff_mul_le (by omega)]
      have : (9223372036854775 : Int) * n ≤ 9223372036854775 * 1000 := Int.mul_le_mul_of_nonneg_left h2 (by omega)
      omega
    omega
  · intro _ _
    exact decide_eq_false (by show ¬ _ > sizeLine; rw [sizeLine_eq]; omega)
  · rw [if_neg (show ¬ n < 1 by omega), if_neg (by rw [h1', h3']; simp)]
    exact ⟨by show (manyS i n.toNat).length ≤ _; rw [manyS_len, Nat.mul_comm, sizeLine_eq]; omega, .str (manyS i n.toNat), H, I.tok _, ⟨_, rfl⟩, q⟩
theorem ok_mulS {K : PySem.W.Frag} : Op2 K rMulS kMulS := by
  intro F H v u a b c Q s ra rb e q
  unfold kMulS at e
  split at e
  · split at e
    · rename_i hw
      cases ra; cases rb; cases e
      exact ⟨_, _, rfl, rfl, hw, q _ F H (Ext.refl s) .str⟩
    · cases e
  · cases e
section
variable {f : EM} {ρ : Env} {Q : List D × Env → Prop} {QD : D → Prop}
theorem x_itS : Ex (itS f ρ) Q = Ex (f ρ) fun p => Ex (strO p.1) fun x => Q (chD x, p.2) := by
  simp only [ex_eq]
  unfold itS
  rw [ex0_bind]
  congr 1; funext p
  obtain ⟨d, r⟩ := p
  cases d with
  | str x => simp only [ex0_some]; rw [strO_s, ex0_some]
  | _ => simp only [ex0_none]; unfold strO; simp only [ex0_none]
end
end L3

namespace L3
open PySem L2

/-! ### the mirrors of code that may raise, run -/
section
variable {α : Type} {ρ : Env} {Q : D × Env → Prop} {QX : OutX × Env → Prop} {QS : Out × Env → Prop} {QC : Sum (D × Env) (Rz × Env) → Prop}
variable {f h : SMX} {s : SM} {fe : EM} {fa : AM} {t : TM} {c : Env → Option (Sum (D × Env) (Rz × Env))} {i n m : Nat}
theorem x_xL : Ex (xL s ρ) QX = Ex (s ρ) fun p => QX (.inl p.1, p.2) := by
  simp only [ex_eq]
  unfold xL; simp only [ex0_bind, ex0_some]
def seqX (h : SMX) (QX : OutX × Env → Prop) : OutX → Env → Prop
  | .inl .nx, ρ => Ex (h ρ) QX
  | o, ρ => QX (o, ρ)
theorem x_xSeq : Ex (xSeq f h ρ) QX = Ex (f ρ) fun p => seqX h QX p.1 p.2 := by
  simp only [ex_eq]
  unfold xSeq; rw [ex0_bind]
  congr 1; funext p
  obtain ⟨o, ρ'⟩ := p
  rcases o with o | o
  · cases o <;> simp only [ex0_some] <;> rfl
  · simp only [ex0_some]; rfl
theorem seqX_nx : seqX h QX (.inl .nx) ρ = Ex (h ρ) QX := rfl
theorem seqX_rt {d : D} : seqX h QX (.inl (.rt d)) ρ = QX (.inl (.rt d), ρ) := rfl
theorem seqX_rn {d : D} : seqX h QX (.inl (.rn d)) ρ = QX (.inl (.rn d), ρ) := rfl
theorem seqX_rr {d : D} : seqX h QX (.inl (.rr d)) ρ = QX (.inl (.rr d), ρ) := rfl
theorem seqX_br : seqX h QX (.inl .br) ρ = QX (.inl .br, ρ) := rfl
theorem seqX_ct : seqX h QX (.inl .ct) ρ = QX (.inl .ct, ρ) := rfl
theorem seqX_z {z : Rz} : seqX h QX (.inr z) ρ = QX (.inr z, ρ) := rfl
theorem x_xIf : Ex (xIf t f h ρ) QX = Ex (t ρ) fun p => (p.1 = true → Ex (f p.2) QX) ∧ (p.1 = false → Ex (h p.2) QX) := by
  simp only [ex_eq]
  unfold xIf; simp only [ex0_bind, bt0]
theorem x_xRai {C : Addr} {fl : PySem.Str} : Ex (xRai C fl fe ρ) QX = Ex (fe ρ) fun p => QX (.inr ⟨C, some (fl, p.1)⟩, p.2) := by
  simp only [ex_eq]
  unfold xRai; simp only [ex0_bind, ex0_some]
def mkK (as : List A) (QM : Sum (Res × List D) (Rz × List D) → Prop) : OutX → Env → Prop
  | .inl o, ρ => Ex (resOf o) fun r => Ex (collect 0 0 as ρ) fun os => QM (.inl (r, os))
  | .inr z, ρ => Ex (collect 0 0 as ρ) fun os => QM (.inr (z, os))
theorem x_mkX {B : SMX} {as : List A} {QM : Sum (Res × List D) (Rz × List D) → Prop} : Ex (mkX n m B as) QM = (as.length = n ∧ Ex (B (entry 0 as ++ List.replicate (m - n) none)) fun p => mkK as QM p.1 p.2) := by
  simp only [ex_eq]
  unfold mkX; simp only [ex0_guard, ex0_bind]
  congr 2; funext p
  obtain ⟨o, ρ'⟩ := p
  cases o <;> simp only [ex0_bind, ex0_some] <;> rfl
theorem mkK_l {as : List A} {QM : Sum (Res × List D) (Rz × List D) → Prop} {o : Out} : mkK as QM (.inl o) ρ = Ex (resOf o) fun r => Ex (collect 0 0 as ρ) fun os => QM (.inl (r, os)) := rfl
theorem mkK_z {as : List A} {QM : Sum (Res × List D) (Rz × List D) → Prop} {z : Rz} : mkK as QM (.inr z) ρ = Ex (collect 0 0 as ρ) fun os => QM (.inr (z, os)) := rfl
def evK (os : List Opd) (QC : Sum (D × Env) (Rz × Env) → Prop) : Sum (Res × List D) (Rz × List D) → Env → Prop
  | .inl r, ρ2 => Ex (finR (r.1, !hasRef os, ρ2)) fun q => QC (.inl q)
  | .inr z, ρ2 => (!hasRef os || lfZ z.1) = true ∧ QC (.inr (z.1, ρ2))
theorem x_evX {fm : FMX} {dds : List D} : Ex (evX fm dds fa ρ) QC = Ex (fa ρ) fun p => ((ios p.1).Nodup ∧ okOs p.1 (ios p.1) = true) ∧ Ex (argsOf p.2 p.1) fun as => Ex (fm (as ++ dds.map A.v)) fun r =>
    Ex (putOuts p.1 (outsX r) p.2) fun ρ2 => (hasRef p.1 = false ∨ (outsX r).all lfo = true) ∧ evK p.1 QC r ρ2 := by
  simp only [ex_eq]
  unfold evX; simp only [ex0_guard, ex0_bind]
  congr 1; funext p
  congr 2; funext as
  congr 1; funext r
  congr 1; funext ρ2
  congr 1
  rcases r with r | z
  · simp only [ex0_bind, ex0_some]; rfl
  · simp only [ex0_guard, ex0_some]; rfl
theorem evK_l {os : List Opd} {r : Res × List D} : evK os QC (.inl r) ρ = Ex (finR (r.1, !hasRef os, ρ)) fun q => QC (.inl q) := rfl
theorem evK_z {os : List Opd} {z : Rz × List D} : evK os QC (.inr z) ρ = ((!hasRef os || lfZ z.1) = true ∧ QC (.inr (z.1, ρ))) := rfl
def retK (QX : OutX × Env → Prop) : Sum (D × Env) (Rz × Env) → Prop
  | .inl p => QX (.inl (.rt p.1), p.2)
  | .inr p => QX (.inr p.1, p.2)
theorem x_xRetC : Ex (xRetC c ρ) QX = Ex (c ρ) (retK QX) := by
  simp only [ex_eq]
  unfold xRetC; rw [ex0_bind]
  congr 1; funext r
  cases r <;> simp only [ex0_some] <;> rfl
theorem retK_l {p : D × Env} : retK QX (.inl p) = QX (.inl (.rt p.1), p.2) := rfl
theorem retK_z {p : Rz × Env} : retK QX (.inr p) = QX (.inr p.1, p.2) := rfl
def setK (i : Nat) (QX : OutX × Env → Prop) : Sum (D × Env) (Rz × Env) → Prop
  | .inl p => QX (.inl .nx, p.2.set i (some (.d p.1)))
  | .inr p => QX (.inr p.1, p.2)
theorem x_xSetC : Ex (xSetC i c ρ) QX = Ex (c ρ) (setK i QX) := by
  simp only [ex_eq]
  unfold xSetC; rw [ex0_bind]
  congr 1; funext r
  cases r <;> simp only [ex0_some] <;> rfl
theorem setK_l {p : D × Env} : setK i QX (.inl p) = QX (.inl .nx, p.2.set i (some (.d p.1))) := rfl
theorem setK_z {p : Rz × Env} : setK i QX (.inr p) = QX (.inr p.1, p.2) := rfl
def exK (QX : OutX × Env → Prop) : Sum (D × Env) (Rz × Env) → Prop
  | .inl p => QX (.inl .nx, p.2)
  | .inr p => QX (.inr p.1, p.2)
theorem x_xExC : Ex (xExC c ρ) QX = Ex (c ρ) (exK QX) := by
  simp only [ex_eq]
  unfold xExC; rw [ex0_bind]
  congr 1; funext r
  cases r <;> simp only [ex0_some] <;> rfl
theorem exK_l {p : D × Env} : exK QX (.inl p) = QX (.inl .nx, p.2) := rfl
theorem exK_z {p : Rz × Env} : exK QX (.inr p) = QX (.inr p.1, p.2) := rfl
def tryF (fl : PySem.Str) (hx : D → Option D) (QS : Out × Env → Prop) (ρ : Env) : Option (PySem.Str × D) → Prop
  | some fx => fx.1 = fl ∧ Ex (hx fx.2) fun y => QS (.rt y, ρ)
  | none => False
def tryK (C : Addr) (fl : PySem.Str) (i : Nat) (hx : D → Option D) (QS : Out × Env → Prop) : OutX → Env → Prop
  | .inl o, ρ => QS (o, ρ)
  | .inr z, ρ => (z.C = C ∧ noS ρ[i]? = true) ∧ tryF fl hx QS ρ z.f
theorem x_xTryR {C : Addr} {fl : PySem.Str} {hx : D → Option D} : Ex (xTryR C fl i f hx ρ) QS = Ex (f ρ) fun p => tryK C fl i hx QS p.1 p.2 := by
  simp only [ex_eq]
  unfold xTryR; rw [ex0_bind]
  congr 1; funext p
  obtain ⟨o, ρ'⟩ := p
  rcases o with o | ⟨C', z⟩
  · simp only [ex0_some]; rfl
  · simp only [ex0_guard]
    rcases z with _ | fx
    · simp only [ex0_none]; rfl
    · simp only [ex0_guard, ex0_bind, ex0_some]; rfl
theorem tryK_l {C : Addr} {fl : PySem.Str} {hx : D → Option D} {o : Out} : tryK C fl i hx QS (.inl o) ρ = QS (o, ρ) := rfl
theorem tryK_z {C C' : Addr} {fl fl' : PySem.Str} {hx : D → Option D} {d : D} : tryK C fl i hx QS (.inr ⟨C', some (fl', d)⟩) ρ = ((C' = C ∧ noS ρ[i]? = true) ∧ fl' = fl ∧ Ex (hx d) fun y => QS (.rt y, ρ)) := rfl
theorem noS_y : noS (some none) = true := rfl
theorem outsX_l {p : Res × List D} : outsX (.inl p) = p.2 := rfl
theorem outsX_z {p : Rz × List D} : outsX (.inr p) = p.2 := rfl
end
end L3

namespace L3
open PySem L2

/-! ### a for loop whose body may raise -/
def loopX (h : GM) (b : SMX) : List D → SMX
  | [], ρ => some (.inl .nx, ρ)
  | d :: r, ρ => (h d ρ).bind fun ρ1 => (b ρ1).bind fun p => match p.1 with
    | .inl .nx => loopX h b r p.2
    | .inl .ct => loopX h b r p.2
    | .inl .br => some (.inl .nx, p.2)
    | o => some (o, p.2)
def xFor (it : LM) (h : GM) (b : SMX) : SMX := fun ρ => (it ρ).bind fun p => loopX h b p.1 p.2
section
variable {X : Cx} {g : Gx} {tg iter : Expr} {body : List Stmt} {it : LM} {h : GM} {b : SMX} {pos : PySem.Pos}
theorem dsX_for {ws : List Nat} (hp : PassesOwn (model X.prog X.w) X.A X.env X.xe) (hc : X.calm = true) (hi : DI X g tg iter it) (hg : DG X g tg ws h) (hb : DSsX X g body b)
    (hs : ∀ x, foldedSetIterable iter X.env x = pure x := by intro _; rfl) : DSX X g (.For tg iter body [] pos) (xFor it h b) := fun W tk => weakPS (ps_for hp hc hi hg (hb W tk) hs) fun E σ H ⟨F, ρ, o, ρ', G, hf, q⟩ => by
  obtain ⟨p, e, hf⟩ := bnd hf
  obtain ⟨ds, ρ1⟩ := p
  refine ⟨F, ρ, ds, ρ1, G, e, fun J F1 H1 G1 s1 w => ?_⟩
  refine ⟨fun i m σ H => m = ds.length - i ∧ i ≤ ds.length ∧ ∃ F2 ρ2, Gd X.K g F2 H σ ρ2 ∧ Same F1 F2 ∧ loopX h b (ds.drop i) ρ2 = some (o, ρ'), ⟨_, rfl, Nat.zero_le _, F1, ρ1, G1, Same.refl _, hf⟩, ?_⟩
  rintro i m σ H ⟨rfl, hi, F2, ρ2, G2, s2, hl⟩
  by_cases hlt : i < ds.length
  · refine .inr ⟨w.go i F2 H s2 G2.sub hlt, fun σ' H' => i + 1 ≤ ds.length ∧ ∃ F3 ρ3, Gd X.K g F3 H' σ' ρ3 ∧ Same F1 F3 ∧ loopX h b (ds.drop (i + 1)) ρ3 = some (o, ρ'), fun σ' H' p' => ⟨ds.length - (i + 1), by omega, rfl, p'⟩, fun x H' y => ?_⟩
    obtain ⟨d, F3, hd, xt, r⟩ := w.yld i F2 H x H' s2 G2.sub hlt y
    have ed : ds.drop i = d :: ds.drop (i + 1) := by
      rw [List.drop_eq_getElem_cons hlt]
      rw [List.getElem?_eq_getElem hlt] at hd
      cases hd; rfl
    rw [ed] at hl
    unfold loopX at hl
    obtain ⟨ρ4, e4, hl⟩ := bnd hl
    obtain ⟨p5, e5, hl⟩ := bnd hl
    obtain ⟨o5, ρ5⟩ := p5
    refine ⟨F3, ρ2, d, ρ4, G2.ext xt, r, e4, fun σ4 G4 _ => ⟨F3, ρ4, o5, ρ5, G4, e5, fun σ5 F5 H5 G5 s5 => ?_⟩⟩
    have s15 : Same F1 F5 := (s2.trans xt.ff).trans s5
    cases o5 with
    | inr z => cases hl; exact q σ5 F5 H5 G5 (s1.trans s15)
    | inl o5 =>
      cases o5 with
      | nx => exact ⟨hlt, F5, ρ5, G5, s15, hl⟩
      | ct => exact ⟨hlt, F5, ρ5, G5, s15, hl⟩
      | br => cases hl; exact q σ5 F5 H5 G5 (s1.trans s15)
      | rt d => cases hl; exact q σ5 F5 H5 G5 (s1.trans s15)
      | rn d => cases hl; exact q σ5 F5 H5 G5 (s1.trans s15)
      | rr d => cases hl; exact q σ5 F5 H5 G5 (s1.trans s15)
  · have e : i = ds.length := by omega
    subst e
    rw [List.drop_length] at hl
    cases hl
    exact .inl ⟨w.stop _ F2 H s2 G2.sub (Nat.le_refl _), q σ F2 H G2 (s1.trans s2)⟩
end
section
variable {ρ : Env} {QX : OutX × Env → Prop} {it : LM} {h : GM} {b : SMX}
theorem x_xFor : Ex (xFor it h b ρ) QX = Ex (it ρ) fun p => Ex (loopX h b p.1 p.2) QX := by
  simp only [ex_eq]
  unfold xFor; rw [ex0_bind]
/-- what a turn of a loop leaves -/
def brkX (I : Env → Prop) (QX : OutX × Env → Prop) : OutX → Env → Prop
  | .inl .nx, ρ => I ρ
  | .inl .ct, ρ => I ρ
  | .inl .br, ρ => QX (.inl .nx, ρ)
  | o, ρ => QX (o, ρ)
theorem brkX_nx {I : Env → Prop} : brkX I QX (.inl .nx) ρ = I ρ := rfl
theorem brkX_ct {I : Env → Prop} : brkX I QX (.inl .ct) ρ = I ρ := rfl
theorem brkX_br {I : Env → Prop} : brkX I QX (.inl .br) ρ = QX (.inl .nx, ρ) := rfl
theorem brkX_rt {I : Env → Prop} {d : D} : brkX I QX (.inl (.rt d)) ρ = QX (.inl (.rt d), ρ) := rfl
theorem brkX_z {I : Env → Prop} {z : Rz} : brkX I QX (.inr z) ρ = QX (.inr z, ρ) := rfl
theorem ex_loopX (xs : List D) (I : Nat → Env → Prop) {ρ : Env} (h0 : I 0 ρ)
    (step : ∀ i x ρ, xs[i]? = some x → I i ρ → Ex (h x ρ) fun ρ1 => Ex (b ρ1) fun p => brkX (I (i + 1)) QX p.1 p.2) (fi : ∀ ρ, I xs.length ρ → QX (.inl .nx, ρ)) : Ex (loopX h b xs ρ) QX := by
  suffices H : ∀ (ys : List D) (i : Nat) (ρ : Env), ys = xs.drop i → i ≤ xs.length → I i ρ → Ex (loopX h b ys ρ) QX from H xs 0 ρ rfl (Nat.zero_le _) h0
  intro ys
  induction ys with
  | nil =>
    intro i ρ e hi hI
    have : i = xs.length := by
      have := congrArg List.length e
      simp at this; omega
    subst this
    exact ⟨_, rfl, fi ρ hI⟩
  | cons y ys ih =>
    intro i ρ e hi hI
    have hx : xs[i]? = some y := by
      have := congrArg List.head? e
      rw [List.head?_cons, List.head?_drop] at this
      exact this.symm
    have hlt : i < xs.length := (List.getElem?_eq_some_iff.mp hx).1
    have et : ys = xs.drop (i + 1) := by
      have := congrArg List.tail e
      rw [List.tail_cons, List.tail_drop] at this
      exact this
    obtain ⟨ρ1, e1, p, e2, q⟩ := step i y ρ hx hI
    obtain ⟨o, ρ2⟩ := p
    unfold loopX
    rw [e1, Option.bind_some, e2, Option.bind_some]
    rcases o with o | z
    · cases o with
      | nx => exact ih (i + 1) ρ2 et hlt q
      | ct => exact ih (i + 1) ρ2 et hlt q
      | br => exact ⟨_, rfl, q⟩
      | rt d => exact ⟨_, rfl, q⟩
      | rn d => exact ⟨_, rfl, q⟩
      | rr d => exact ⟨_, rfl, q⟩
    · exact ⟨_, rfl, q⟩
end

/-! ### an instance made, where __init__ may raise -/
section
variable {X : Cx} {CX : CXT} {k : Nat} {f C : Addr} {fd : FuncData} {ps : List PySem.Str} {sp : Sp} {dvs : List V} {ds : List Value} {E : L2.St → XK} {x : PySem.Str} {p pos : PySem.Pos} {e : Expr} {es : List Expr} {t : TA}
def tMakeS (C : Addr) (sp : Sp) (dvs : List V) (E : L2.St → XK) (t : TA) : TE := fun σ H Q => t σ H fun vs H1 => ∀ x dx, H1 x = none → H1 dx = none → dx ≠ x →
  sp (.ref x :: (vs ++ dvs)) (upd (upd H1 dx (.own x)) x (.ins C dx [])) (fun v H2 => v = .non ∧ Q (.ref x) H2) (E σ)
theorem run_makeS {pins : List (Addr × Obj)} {σ : L2.St} {H : Hp} {s : Shared} {Q : VK} {us : List Value} {vs : List V} (M : Mk X.K C f) (F : FnOk X.prog X.w X.K X.mg X.base CX k f fd ps sp) (hr : Room (k + 1) X.A) (hb : Binds X.K fd ps ds) (hd : Vals dvs ds)
    (hx : PassesAt CX X σ (E σ)) (I : Inv X pins σ H s) (r : Vals vs us)
    (h : ∀ x dx, H x = none → H dx = none → dx ≠ x → sp (.ref x :: (vs ++ dvs)) (upd (upd H dx (.own x)) x (.ins C dx [])) (fun v H2 => v = .non ∧ Q (.ref x) H2) (E σ)) :
    wpAny (model X.prog X.w) X.A (call (.ref C) us) (EP X pins σ Q) X.xe s := by
  have hq := h (s.heap.objs.size + 1) s.heap.objs.size (I.hok.fresh (Nat.le_succ _)) (I.hok.fresh (Nat.le_refl _)) (Nat.ne_of_lt (Nat.lt_succ_self _))
  have I2 := Inv.made (C := C) I
  have r2 : Vals (V.ref (s.heap.objs.size + 1) :: (vs ++ dvs)) (Value.ref (s.heap.objs.size + 1) :: (us ++ ds)) := .cons rfl (r.append hd)
  have hl : (Value.ref (s.heap.objs.size + 1) :: us ++ ds).length = ps.length := by
    have e := r2.length
    rw [F.len _ _ _ _ hq] at e
    exact e.symm
  refine wpAny_call (make_map (f := f) I.kIn M.makes M.init (beq_iff_eq.mp M.fn) (codeAny_mono (F.run _ X.stack _ _ ⟨Value.ref (s.heap.objs.size + 1) :: us, []⟩ (Value.ref (s.heap.objs.size + 1) :: (us ++ ds)) _ _ (E σ) (hr.make C us [])
    (I2.env0.make C us []) (hb _ (Value.ref (s.heap.objs.size + 1) :: us) I2.kIn hl) r2 hq) fun r s' hq' => ?_))
  cases r with
  | error e => exact hx pins _ _ e s' I2 hq'
  | ok fl =>
    cases fl with
    | ret u =>
      obtain ⟨v, H', I3, rv, ev, q3⟩ := I2.after hq'
      subst ev
      exact ⟨rv, ⟨V.ref (s.heap.objs.size + 1), H', I3, rfl, q3⟩⟩
    | next => exact False.elim hq'
    | brk => exact False.elim hq'
    | cont => exact False.elim hq'
theorem pe_makeS (M : Mk X.K C f) (F : FnOk X.prog X.w X.K X.mg X.base CX k f fd ps sp) (hr : Room (k + 1) X.A) (hg : Gl X x) (hm : X.mg x = some (.ref C)) (hb : Binds X.K fd ps ds) (hd : Vals dvs ds) (hx : ∀ σ, PassesAt CX X σ (E σ))
    (ha : PA X (e :: es) t) (hdb : (x == ("__debug__" : PySem.Str)) = false := by decide) (he : starEach (e :: es) X.env = (false, eval e X.env) :: starEach es X.env := by rfl) (hpl : (backTo pos (starEach es X.env)).any (·.1) = false := by rfl) :
    PE X (.Call (.Name x p) (e :: es) [] pos) (tMakeS C sp dvs E t) := by
  refine ⟨fun pins s σ H Q I h => ?_⟩
  refine wpAny_Call_Name_kw (ld_glob I hg hm ?_ hdb)
  refine PySem.W.callWith_K (h₀ := X.base) I.ok.mod.kin M.kp (thn (ha.run pos pins s σ H _ I h) fun us s1 ⟨vs, H1, I1, r, q⟩ => ⟨I1.kIn, ?_⟩) he hpl
  exact run_makeS M F hr hb hd (hx σ) I1 r q
end
def makX (C : Addr) (fm : FMX) (dds : List D) (fa : AM) : Env → Option (Sum (D × Env) (Rz × Env)) := fun ρ => (fa ρ).bind fun p =>
  (evX fm dds (fun _ => some (.io p.2.length :: p.1, p.2 ++ [some (.own none (.ins C []))])) ρ).bind fun r => match r with
  | .inl q => match q.1 with
    | .non => match q.2[p.2.length]? with
      | some (some (.own none x)) => if (!hasRef p.1 || lfo x) = true then some (.inl (x, q.2.take p.2.length)) else none
      | _ => none
    | _ => none
  | .inr z => some (.inr (z.1, z.2.take p.2.length))
section
variable {X : Cx} {g : Gx} {fm : FMX} {dds : List D} {dvs : List V} {fa : AM} {C : Addr}
theorem makX_t (hdd : ∀ F, Reps X.K F dvs dds) {W : WX} {σ : L2.St} {H : Hp} {Q : VK} {F : Hp} {ρ : Env} (G : Gd X.K g F H σ ρ) {r : Sum (D × Env) (Rz × Env)} (e : makX C fm dds fa ρ = some r)
    (qn : ∀ d ρ', r = .inl (d, ρ') → ∀ v F' H', Gd X.K g F' H' σ ρ' → Same F F' → Rep X.K F' v d → Q v H') (qx : ∀ z ρ', r = .inr (z, ρ') → ∀ F' H', Gd X.K g F' H' σ ρ' → Same F F' → RzQ X.K F' H' σ W z) :
    tMakeS C (spX X.K fm) dvs (WE W) (tA X.K g fa) σ H Q := by
  obtain ⟨p, e0, hm⟩ := bnd e
  refine ⟨F, ρ, p.1, p.2, G, e0, fun vs F1 H1 G1 s1 r1 x dx hx hd ne => ?_⟩
  obtain ⟨rr0, e1, hm⟩ := bnd hm
  obtain ⟨p2, e2, e1⟩ := bnd e1
  cases e2
  dsimp only at e1
  have Gm := G1.more (C := C) hx hd ne
  have hs : σ.length = p.2.length := G1.len
  have r2 : OpdsOk X.K F1 (σ ++ [some (.ref x)]) (V.ref x :: vs) (.io p.2.length :: p.1) := .cons (show (σ ++ [some (.ref x)])[p.2.length]? = some (some (.ref x)) by rw [← hs]; simp) r1.more
  have hv' : (σ ++ [some (V.ref x)])[p.2.length]? = some (some (.ref x)) := by rw [← hs]; simp
  split at e1
  · rename_i hc
    obtain ⟨as, a1, e1⟩ := bnd e1
    obtain ⟨rr, a2, e1⟩ := bnd e1
    obtain ⟨ρ2, a3, e1⟩ := bnd e1
    have len2 : ρ2.length = p.2.length + 1 := by rw [putOuts_len a3]; simp
    have few : ∀ {F3 H3}, Gd X.K g F3 H3 (σ ++ [some (V.ref x)]) ρ2 → Gd X.K g F3 H3 σ (ρ2.take p.2.length) := fun G3 => G3.fewer hs (fun i hi => List.getElem?_append_left (by rw [hs]; exact hi)) (by omega)
    split at e1
    · rename_i hl
      refine callX_t (fm := fm) (p := (.io p.2.length :: p.1, p.2 ++ [some (.own none (.ins C []))])) (vs := V.ref x :: vs) (E := WE W σ) (ρ := ρ) hdd Gm r2 hc.1 hc.2 a1 a2 a3 hl (fun rs0 os er v F2 F3 H3 ad rep reps nn G3 sF rs => ?_) (fun z os er F2 F3 H3 rep G3 sF => ?_)
      · subst er
        dsimp only at e1
        obtain ⟨q, e4, e1⟩ := bnd e1
        cases e1
        dsimp only at hm
        have hq2 : q.2 = ρ2 := by
          cases rs0 with
          | d y =>
            simp only [finR, fin] at e4
            split at e4
            · cases e4; rfl
            · cases e4
          | n xs =>
            simp only [finR] at e4
            split at e4
            · cases e4; rfl
            · cases e4
          | r xs => simp only [finR] at e4; cases e4
        split at hm
        · rename_i hq1
          have hv : v = .non := by
            cases rs0 with
            | d y =>
              simp only [finR, fin] at e4
              split at e4
              · cases e4
                have hq1' : y = .non := hq1
                subst hq1'
                have rs' : Rep X.K F2 v .non := rs
                cases rs'
                rfl
              · cases e4
            | n xs =>
              simp only [finR] at e4
              split at e4
              · cases e4
                have hq1' : xs = .non := hq1
                subst hq1'
                obtain ⟨l, ws, rfl, h1, h2, hx2, h3, h4⟩ := rs
                cases h4
              · cases e4
            | r xs => simp only [finR] at e4; cases e4
          refine ⟨hv, ?_⟩
          split at hm
          · rename_i y hy
            split at hm
            · rename_i hg
              cases hm
              rw [hq2] at hy
              obtain ⟨l, o, hv2, tg, fl, hl3, ro⟩ := G3.slot p.2.length _ hy
              rw [hv'] at hv2
              cases hv2
              have ox : OwnAt H3 (σ ++ [some (.ref x)]) ρ2 p.2.length x := .of hv' hy
              have G4 := few G3
              have np : g.pin x = none := by
                cases e : g.pin x with
                | none => rfl
                | some u => exact absurd ox ((G3.pinned x u e).2.2 _)
              have no : ∀ i, ¬ OwnAt H3 σ (ρ2.take p.2.length) i x := fun i hi => by
                obtain ⟨s, hs2⟩ := hi.slot
                have hlt : i < p.2.length := by
                  have := (List.getElem?_eq_some_iff.mp hs2).1
                  simp at this; omega
                have := G3.dist i p.2.length x (hi.to (List.getElem?_append_left (by rw [hs]; exact hlt)) (List.getElem?_take_of_lt hlt).symm fun _ _ _ _ _ => rfl) ox
                omega
              have sm' : Same F3 (upd F3 x o) := fun b u e => by rw [upd_ne (ne_of_none e fl)]; exact e
              rw [hq2] at qn
              exact qn _ _ rfl _ _ H3 (G4.freeze hl3 fl tg np no) ((s1.trans sF).trans sm') ((ro.mono sm').rep upd_same)
            · cases hm
          · cases hm
        · cases hm
      · subst er
        dsimp only at e1
        split at e1
        · rename_i hz
          cases e1
          cases hm
          have z' := qx z _ rfl F3 H3 (few G3) (s1.trans sF)
          obtain ⟨C', f⟩ := z
          cases f with
          | none => exact z'
          | some fx => exact fun v d rv hd => z' v d (rep (fun h => by rw [h] at hz; simpa [lfZ] using hz) rv) hd
        · cases e1
    · cases e1
  · cases e1
theorem dx_make {k : Nat} {f : Addr} {fd : FuncData} {ps : List PySem.Str} {ds : List Value} {x : PySem.Str} {p pos : PySem.Pos} {e : Expr} {es : List Expr} (M : Mk X.K C f) (Fk : FnOk X.prog X.w X.K X.mg X.base (L2.CX X.prog X.w) k f fd ps (spX X.K fm)) (hr : Room (k + 1) X.A) (hg : Gl X x) (hm : X.mg x = some (.ref C)) (hb : Binds X.K fd ps ds) (hd : Vals dvs ds) (hdd : ∀ F, Reps X.K F dvs dds) (ha : DA X g (e :: es) fa) (hdb : (x == ("__debug__" : PySem.Str)) = false := by decide)
    (he : starEach (e :: es) X.env = (false, eval e X.env) :: starEach es X.env := by rfl) (hpl : (backTo pos (starEach es X.env)).any (·.1) = false := by rfl) : DX X g (.Call (.Name x p) (e :: es) [] pos) (makX C fm dds fa) := fun W tk =>
  ⟨_, pe_makeS (E := WE W) M Fk hr hg hm hb hd (passAt tk) ha hdb he hpl, fun σ H Q F ρ r G er qn qx => makX_t hdd G er qn qx⟩
end
section
variable {ρ : Env} {QC : Sum (D × Env) (Rz × Env) → Prop} {C : Addr} {fm : FMX} {dds : List D} {fa : AM}
def nonO : D → Option Unit
  | .non => some ()
  | _ => none
/-- what a making leaves -/
def makR (b : Bool) (n : Nat) (QC : Sum (D × Env) (Rz × Env) → Prop) : Sum (D × Env) (Rz × Env) → Prop
  | .inl q => Ex (nonO q.1) fun _ => Ex (ownNew q.2 n) fun x => (!b || lfo x) = true ∧ QC (.inl (x, q.2.take n))
  | .inr z => QC (.inr (z.1, z.2.take n))
theorem makR_l {b : Bool} {n : Nat} {q : D × Env} : makR b n QC (.inl q) = Ex (nonO q.1) fun _ => Ex (ownNew q.2 n) fun x => (!b || lfo x) = true ∧ QC (.inl (x, q.2.take n)) := rfl
theorem makR_z {b : Bool} {n : Nat} {z : Rz × Env} : makR b n QC (.inr z) = QC (.inr (z.1, z.2.take n)) := rfl
theorem nonO_n : nonO .non = some () := rfl
theorem x_makX : Ex (makX C fm dds fa ρ) QC = Ex (fa ρ) fun p => Ex (evX fm dds (fun _ => some (.io p.2.length :: p.1, p.2 ++ [some (.own none (.ins C []))])) ρ) (makR (hasRef p.1) p.2.length QC) := by
  simp only [ex_eq]
  unfold makX
  rw [ex0_bind]
  congr 1; funext p
  rw [ex0_bind]
  congr 1; funext r
  rcases r with ⟨d, ρ2⟩ | z
  · cases d with
    | non =>
      show Ex0 (match ρ2[p.2.length]? with
        | some (some (.own none x)) => if (!hasRef p.1 || lfo x) = true then some (.inl (x, ρ2.take p.2.length)) else none
        | _ => none) QC = Ex0 (some ()) fun _ => Ex0 (ownNew ρ2 p.2.length) fun x => (!hasRef p.1 || lfo x) = true ∧ QC (.inl (x, ρ2.take p.2.length))
      rw [ex0_some]
      unfold ownNew
      generalize ρ2[p.2.length]? = z
      rcases z with _ | _ | x | ⟨_ | t, x⟩ | ⟨t, x⟩ <;> simp only [ex0_some, ex0_none, ex0_guard]
    | _ => simp only [ex0_none]; rw [makR_l]; simp only [ex_eq, nonO, ex0_none]
  · simp only [ex0_some]; rfl
end
end L3

namespace L3
open PySem PySem.Spec PyProof.Rows L2
/-! ### upper of a text -/
def kUpp : D → Option D
  | .str a => if a.length ≤ 5592405 then some (.str (PySem.Txt.upper a)) else none
  | _ => none
theorem de_upper {X : Cx} {g : Gx} {a : Expr} {f : EM} {apos pos : PySem.Pos} (ha : DE X g a f) (hbase : attributeBase a "upper" X.env (eval a X.env) = eval a X.env := by rfl) (hline : (apos.endLine == pos.line) = true := by rfl) : DE X g (.Call (.Attribute a "upper" apos) [] [] pos) (eM0 kUpp f) :=
  weakPE (pe_m0 F.slot_str_upper F.type_str_upper mt_upper ha hbase hline) fun σ H Q q => m0_t (fun F H v a c Q s ra e q => by
    unfold kUpp at e
    split at e
    · split at e
      · rename_i h
        cases e; cases ra
        exact ⟨_, rfl, rfl, h, q _ F H (Ext.refl s) .str⟩
      · cases e
    · cases e) q
end L3


namespace My
open PySem L2 L3

/-- slots: 0 script, 1 at, 2 cell, 3 great -/
def B_w_source : SM :=
  sSeq (sSet 2 (eIf (tV (e2 kLt (oV (eV 1)) (oV (eL kLen (aC (oV (eV 0)) (aN)))))) (e2 kIx (oV (eV 0)) (oV (eV 1))) (eC (.int 0))))
    (sSeq (sSet 3 (eIf (tV (e2 kGe (oV (eL kAbs (aC (oV (eV 2)) (aN)))) (oV (e2 kPow (oV (eC (.int 10))) (oV (eC (.int 18))))))) (eL kAbs (aC (oV (eV 2)) (aN))) (eC (.int 0))))
    (sRetN (nLst (aC (oV (eV 3)) (aC (oV (e2 kAdd (oV (e2 kAdd (oV (e2 kAdd (oV (e2 kMod (oV (eL kInt (aC (oV (eV 2)) (aN)))) (oV (eC (.int 1000000000000000003))))) (oV (e2 kMul (oV (e2 kMul (oV (eC (.int 613))) (oV (eV 1)))) (oV (eV 1)))))) (oV (e2 kMul (oV (eC (.int 41))) (oV (eV 1)))))) (oV (eC (.int 7))))) (aC (oV (eC (.int 0))) (aN)))))))
def f_w_source : FM := mkF 2 4 (B_w_source)

def B_w_draw_1 : SM :=
  sIf (tV (e2 kGt (oV (e2 kIx (oR 0) (oV (eC (.int 0))))) (oV (eC (.int 0))))) (sSeq (sSet 2 (e2 kMod (oV (eL kInt (aC (oV (e2 kIx (oR 0) (oV (eC (.int 0))))) (aN)))) (oV (eV 1))))
    (sSeq (sPutL 0 (e2 kFdiv (oV (e2 kIx (oR 0) (oV (eC (.int 0))))) (oV (eV 1))) (eC (.int 0)))
    (sRet (eV 2)))) (sNx)

/-- slots: 0 source_here, 1 many, 2 digit, 3 primes, 4 turn, 5 base, 6 mixed -/
def B_w_draw : SM :=
  sSeq (B_w_draw_1)
    (sSeq (sSet 3 (eTup (aC (oV (eC (.int 2147483647))) (aC (oV (eC (.int 2147483629))) (aC (oV (eC (.int 2147483587))) (aC (oV (eC (.int 2147483579))) (aC (oV (eC (.int 2147483563))) (aC (oV (eC (.int 2147483549))) (aC (oV (eC (.int 2147483543))) (aN))))))))))
    (sSeq (sPutL 0 (e2 kAdd (oV (e2 kIx (oR 0) (oV (eC (.int 2))))) (oV (eC (.int 1)))) (eC (.int 2)))
    (sSeq (sSet 4 (e2 kIx (oR 0) (oV (eC (.int 2)))))
    (sSeq (sSet 5 (e2 kAdd (oV (e2 kAdd (oV (e2 kMul (oV (e2 kIx (oR 0) (oV (eC (.int 1))))) (oV (e2 kAdd (oV (e2 kMul (oV (eC (.int 2))) (oV (eV 4)))) (oV (eC (.int 1))))))) (oV (e2 kMul (oV (e2 kMul (oV (eC (.int 7001))) (oV (eV 4)))) (oV (eV 4)))))) (oV (eC (.int 59)))))
    (sSeq (sSet 6 (e2 kMod (oV (eL kInt (aC (oV (e2 kPow (oV (eV 5)) (oV (eC (.int 3))))) (aN)))) (oV (e2 kIx (oV (eV 3)) (oV (e2 kMod (oV (eL kInt (aC (oV (eV 4)) (aN)))) (oV (eC (.int 7)))))))))
    (sRet (e2 kMod (oV (e2 kFdiv (oV (e2 kMod (oV (eL kInt (aC (oV (e2 kMul (oV (eV 6)) (oV (e2 kAdd (oV (e2 kFdiv (oV (eV 6)) (oV (eC (.int 8191))))) (oV (eV 4)))))) (aN)))) (oV (e2 kIx (oV (eV 3)) (oV (e2 kMod (oV (eL kInt (aC (oV (e2 kAdd (oV (eV 4)) (oV (eC (.int 3))))) (aN)))) (oV (eC (.int 7))))))))) (oV (eC (.int 16))))) (oV (eV 1)))))))))
def f_w_draw : FM := mkF 2 7 (B_w_draw)

def B_w_rows_1 : SM :=
  sSeq (sSet 6 (e2 kAdd (oV (e2 kAdd (oV (eV 5)) (oV (eC (.int 1))))) (oV (eCall (f_w_draw) [] (aC (oI 0) (aC (oV (e2 kSub (oV (e2 kSub (oV (eV 3)) (oV (eC (.int 1))))) (oV (eV 5)))) (aN)))))))
    (sSeq (sSet 7 (e2 kAdd (oV (e2 kAdd (oV (eV 5)) (oV (eC (.int 1))))) (oV (eCall (f_w_draw) [] (aC (oI 0) (aC (oV (e2 kSub (oV (e2 kSub (oV (eV 3)) (oV (eC (.int 1))))) (oV (eV 5)))) (aN)))))))
    (sSeq (sSet 8 (e2 kAdd (oV (eC (.int 1))) (oV (eCall (f_w_draw) [] (aC (oI 0) (aC (oV (eV 2)) (aN)))))))
    (sSeq (sSet 9 (nLst (aC (oV (eTup (aC (oV (eC (.str "write"))) (aC (oV (eV 8)) (aC (oV (eV 7)) (aN)))))) (aC (oV (eTup (aC (oV (eC (.str "read"))) (aC (oV (eV 8)) (aC (oV (eV 6)) (aC (oV (eV 7)) (aN))))))) (aC (oV (eTup (aC (oV (eC (.str "write"))) (aC (oV (eV 8)) (aC (oV (eV 7)) (aN)))))) (aC (oV (eTup (aC (oV (eC (.str "drain"))) (aC (oV (eV 7)) (aN))))) (aN)))))))
    (sSeq (sSet 9 (e2 kAdd (oV (eV 9)) (oV (nLst (aC (oV (eTup (aC (oV (eC (.str "read"))) (aC (oV (eV 8)) (aC (oV (eV 6)) (aC (oV (eV 7)) (aN))))))) (aC (oV (eTup (aC (oV (eC (.str "stop"))) (aN)))) (aC (oV (eTup (aC (oV (eC (.str "close"))) (aN)))) (aC (oV (eTup (aC (oV (eC (.str "abort"))) (aN)))) (aC (oV (eTup (aC (oV (eC (.str "done"))) (aN)))) (aC (oV (eTup (aC (oV (eC (.str "fail"))) (aN)))) (aN)))))))))))
    (sApp 4 (e2 kIx (oV (eV 9)) (oV (eCall (f_w_draw) [] (aC (oI 0) (aC (oV (eC (.int 10))) (aN)))))))))))

/-- slots: 0 source_here, 1 many, 2 most, 3 size, 4 rows_here, 5 index, 6 end, 7 other, 8 amount, 9 menu -/
def B_w_rows : SM :=
  sSeq (sSet 3 (e2 kAdd (oV (eC (.int 2))) (oV (eCall (f_w_draw) [] (aC (oI 0) (aC (oV (e2 kSub (oV (eV 1)) (oV (eC (.int 1))))) (aN)))))))
    (sSeq (sOwn 4 (nLst (aN)))
    (sSeq (sFor (itR1 (aC (oV (e2 kSub (oV (eV 3)) (oV (eC (.int 1))))) (aN))) (gN 5) (B_w_rows_1))
    (sFrz 4 (sRet (e2 kAdd (oV (eV 4)) (oV (nLst (aC (oV (e2 kIx (oV (nLst (aC (oV (eTup (aC (oV (eC (.str "done"))) (aN)))) (aC (oV (eTup (aC (oV (eC (.str "fail"))) (aN)))) (aN))))) (oV (eCall (f_w_draw) [] (aC (oI 0) (aC (oV (eC (.int 2))) (aN))))))) (aN)))))))))
def f_w_rows : FM := mkF 3 10 (B_w_rows)

def B_w_spoiled_1 : SM :=
  sIf (tOr' (tNt (tV (eL (kIsi []) (aC (oV (eV 3)) (aC (oV (eC (.bty "tuple"))) (aN)))))) (tOr' (tV (e2 kEq (oV (eL kLen (aC (oV (eV 3)) (aN)))) (oV (eC (.int 0))))) (tNt (tV (eL (kIsi []) (aC (oV (e2 kIx (oV (eV 3)) (oV (eC (.int 0))))) (aC (oV (eC (.bty "str"))) (aN)))))))) (sRet (e2 kAdd (oV (e2 kAdd (oV (eSl (oV (eV 1)) (bN) (bS (eV 2)))) (oV (nLst (aC (oV (e2 kIx (oV (nLst (aC (oV (eTup (aC (oV (eC (.str "stop"))) (aN)))) (aC (oV (eC .non)) (aC (oV (eC (.int 3))) (aC (oV (eC (.str "done"))) (aN))))))) (oV (eCall (f_w_draw) [] (aC (oI 0) (aC (oV (eC (.int 4))) (aN))))))) (aN)))))) (oV (eSl (oV (eV 1)) (bS (e2 kAdd (oV (eV 2)) (oV (eC (.int 1))))) (bN))))) (sNx)

def B_w_spoiled_2 : SM :=
  sIf (tAn (tV (e2 kLt (oV (eV 6)) (oV (eL kLen (aC (oV (eV 3)) (aN)))))) (tV (e2 kGt (oV (eCall (f_w_draw) [] (aC (oI 0) (aC (oV (eC (.int 3))) (aN))))) (oV (eC (.int 0)))))) (sRet (e2 kAdd (oV (e2 kAdd (oV (eSl (oV (eV 1)) (bN) (bS (eV 2)))) (oV (nLst (aC (oV (e2 kAdd (oV (e2 kAdd (oV (eSl (oV (eV 3)) (bN) (bS (eV 6)))) (oV (eTup (aC (oV (eV 5)) (aN)))))) (oV (eSl (oV (eV 3)) (bS (e2 kAdd (oV (eV 6)) (oV (eC (.int 1))))) (bN))))) (aN)))))) (oV (eSl (oV (eV 1)) (bS (e2 kAdd (oV (eV 2)) (oV (eC (.int 1))))) (bN))))) (sNx)

/-- slots: 0 source_here, 1 rows_here, 2 at, 3 row, 4 numbers, 5 number, 6 place, 7 odd -/
def B_w_spoiled : SM :=
  sSeq (sSet 2 (eCall (f_w_draw) [] (aC (oI 0) (aC (oV (eL kLen (aC (oV (eV 1)) (aN)))) (aN)))))
    (sSeq (sSet 3 (e2 kIx (oV (eV 1)) (oV (eV 2))))
    (sSeq (B_w_spoiled_1)
    (sSeq (sSet 4 (nLst (aC (oV (eC (.int 0))) (aC (oV (e1 kNeg (oV (eC (.int 1))))) (aC (oV (eV 2)) (aC (oV (e2 kAdd (oV (eV 2)) (oV (eC (.int 1))))) (aC (oV (eL kLen (aC (oV (eV 1)) (aN)))) (aC (oV (e2 kSub (oV (eL kLen (aC (oV (eV 1)) (aN)))) (oV (eC (.int 1))))) (aC (oV (eC (.bl true))) (aC (oV (eC (.bl false))) (aC (oV (eC .non)) (aC (oV (eC (.str "1"))) (aC (oV (e2 kPow (oV (eC (.int 10))) (oV (eC (.int 18))))) (aC (oV (e2 kAdd (oV (e2 kPow (oV (eC (.int 10))) (oV (eC (.int 18))))) (oV (eC (.int 1))))) (aC (oV (eC (.int 2))) (aN))))))))))))))))
    (sSeq (sSet 5 (e2 kIx (oV (eV 4)) (oV (eCall (f_w_draw) [] (aC (oI 0) (aC (oV (eC (.int 13))) (aN)))))))
    (sSeq (sSet 6 (e2 kAdd (oV (eC (.int 1))) (oV (eCall (f_w_draw) [] (aC (oI 0) (aC (oV (eC (.int 3))) (aN)))))))
    (sSeq (sSet 7 (nLst (aC (oV (eC .non)) (aC (oV (eTup (aN))) (aC (oV (nLst (aN))) (aC (oV (e2 kIx (oV (eV 3)) (oV (eC (.int 0))))) (aC (oV (nL kList (aC (oV (eV 3)) (aN)))) (aC (oV (e2 kAdd (oV (eV 3)) (oV (eTup (aC (oV (eV 5)) (aN)))))) (aC (oV (eSl (oV (eV 3)) (bN) (bS (e2 kSub (oV (eL kLen (aC (oV (eV 3)) (aN)))) (oV (eC (.int 1))))))) (aC (oV (e2 kAdd (oV (eTup (aC (oV (eM0 kUpp (e2 kIx (oV (eV 3)) (oV (eC (.int 0)))))) (aN)))) (oV (eSl (oV (eV 3)) (bS (eC (.int 1))) (bN))))) (aN)))))))))))
    (sSeq (sSet 7 (e2 kAdd (oV (eV 7)) (oV (nLst (aC (oV (e2 kAdd (oV (eTup (aC (oV (eC .non)) (aN)))) (oV (eSl (oV (eV 3)) (bS (eC (.int 1))) (bN))))) (aC (oV (e2 kAdd (oV (eTup (aC (oV (e2 kIx (oV (nLst (aC (oV (eC (.str "read"))) (aC (oV (eC (.str "write"))) (aC (oV (eC (.str "drain"))) (aN)))))) (oV (eCall (f_w_draw) [] (aC (oI 0) (aC (oV (eC (.int 3))) (aN))))))) (aN)))) (oV (eSl (oV (eV 3)) (bS (eC (.int 1))) (bN))))) (aN)))))))
    (sSeq (B_w_spoiled_2)
    (sRet (e2 kAdd (oV (e2 kAdd (oV (eSl (oV (eV 1)) (bN) (bS (eV 2)))) (oV (nLst (aC (oV (e2 kIx (oV (eV 7)) (oV (eCall (f_w_draw) [] (aC (oI 0) (aC (oV (eC (.int 10))) (aN))))))) (aN)))))) (oV (eSl (oV (eV 1)) (bS (e2 kAdd (oV (eV 2)) (oV (eC (.int 1))))) (bN)))))))))))))
def f_w_spoiled : FM := mkF 2 8 (B_w_spoiled)

/-- slots: 0 value, 1 least, 2 most -/
def B_is_integer : SM :=
  sRet (eAnd (eL (kIsi []) (aC (oV (eV 0)) (aC (oV (eC (.bty "int"))) (aN)))) (eAnd (eNot (eL (kIsi []) (aC (oV (eV 0)) (aC (oV (eC (.bty "bool"))) (aN))))) (eChain kLe kLe (oV (eV 1)) (oV (eV 0)) (oV (eV 2)))))
def f_is_integer : FM := mkF 3 3 (B_is_integer)

/-- slots: 0 word -/
def B_targets_at : SM :=
  sRet (eIf (tV (e2 kEq (oV (eV 0)) (oV (eC (.str "drain"))))) (eC (.int 1)) (eC (.int 2)))
def f_targets_at : FM := mkF 1 1 (B_targets_at)

def B_is_row_1 : SM :=
  sIf (tOr' (tNt (tV (eL (kIsi []) (aC (oV (eV 0)) (aC (oV (eC (.bty "tuple"))) (aN)))))) (tOr' (tV (e2 kEq (oV (eL kLen (aC (oV (eV 0)) (aN)))) (oV (eC (.int 0))))) (tOr' (tNt (tV (eL (kIsi []) (aC (oV (e2 kIx (oV (eV 0)) (oV (eC (.int 0))))) (aC (oV (eC (.bty "str"))) (aN)))))) (tV (e2 (kIn true) (oV (e2 kIx (oV (eV 0)) (oV (eC (.int 0))))) (oV (eC (.ktp [.str "write", .str "read", .str "drain", .str "stop", .str "close", .str "abort", .str "done", .str "fail"])))))))) (sRet (eC (.bl false))) (sNx)

def B_is_row_2 : SM :=
  sIf (tV (e2 kNe (oV (eL kLen (aC (oV (eV 0)) (aN)))) (oV (eKGet [("write", .int 3), ("read", .int 4), ("drain", .int 2)] (eV 3) (eC (.int 1)))))) (sRet (eC (.bl false))) (sNx)

def B_is_row_3 : SM :=
  sIf (tAn (tV (e2 (kIn false) (oV (eV 3)) (oV (eTup (aC (oV (eC (.str "write"))) (aC (oV (eC (.str "read"))) (aN))))))) (tNt (tV (eCall (f_is_integer) [] (aC (oV (e2 kIx (oV (eV 0)) (oV (eC (.int 1))))) (aC (oV (eC (.int 1))) (aC (oV (eC (.int 1000000000000000000))) (aN)))))))) (sRet (eC (.bl false))) (sNx)

def B_is_row_4 : SM :=
  sRet (eL kAll (aC (oV (nLc (itT (eSl (oV (eV 0)) (bS (eCall (f_targets_at) [] (aC (oV (eV 3)) (aN)))) (bN))) (gN 4) (tYs) (eCall (f_is_integer) [] (aC (oV (eV 4)) (aC (oV (e2 kAdd (oV (eV 1)) (oV (eC (.int 1))))) (aC (oV (e2 kSub (oV (eV 2)) (oV (eC (.int 1))))) (aN))))) [4])) (aN)))

/-- slots: 0 value, 1 index, 2 many, 3 word, 4 target -/
def B_is_row : SM :=
  sSeq (B_is_row_1)
    (sSeq (sSet 3 (e2 kIx (oV (eV 0)) (oV (eC (.int 0)))))
    (sSeq (B_is_row_2)
    (sSeq (B_is_row_3)
    (B_is_row_4))))
def f_is_row : FM := mkF 3 5 (B_is_row)

/-- slots: 0 self, 1 rows, 2 index, 3 row -/
def B_c_Program_init (C_BadProgram : Addr) (C_Program : Addr) : SMX :=
  xSeq (xIf (tOr' (tNt (tV (eL (kIsiT []) (aC (oV (eV 1)) (aC (oV (eTup (aC (oV (eC (.bty "list"))) (aC (oV (eC (.bty "tuple"))) (aN))))) (aN)))))) (tNt (tV (eChain kLe kLe (oV (eC (.int 1))) (oV (eL kLen (aC (oV (eV 1)) (aN)))) (oV (eC (.int 24))))))) (xRai C_BadProgram "index" (e1 kNeg (oV (eC (.int 1))))) (xL sNx))
    (xSeq (xFor (itEA (aC (oV (eV 1)) (aN))) (gTp 2 (gsCons (gN 2) (gsCons (gN 3) (gsNil)))) (xIf (tNt (tV (eCall (f_is_row) [] (aC (oV (eV 3)) (aC (oV (eV 2)) (aC (oV (eL kLen (aC (oV (eV 1)) (aN)))) (aN))))))) (xRai C_BadProgram "index" (eV 2)) (xL sNx)))
    (xSeq (xIf (tV (e2 (kIn true) (oV (e2 kIx (oV (e2 kIx (oV (eV 1)) (oV (e1 kNeg (oV (eC (.int 1))))))) (oV (eC (.int 0))))) (oV (eC (.ktp [.str "done", .str "fail"]))))) (xRai C_BadProgram "index" (eL kLen (aC (oV (eV 1)) (aN)))) (xL sNx))
    (xL (sFld' 0 C_Program "listed" (eL kTuple (aC (oV (eV 1)) (aN)))))))
def f_c_Program_init (C_BadProgram : Addr) (C_Program : Addr) : FMX := mkX 2 4 (B_c_Program_init C_BadProgram C_Program)

/-- slots: 0 value, 1 e -/
def B_w_told (C_BadProgram : Addr) (C_Program : Addr) : SM :=
  sSeq (xTryR C_BadProgram "index" 1 (xExC (makX C_Program (f_c_Program_init C_BadProgram C_Program) [] (aC (oV (eV 0)) (aN)))) (fun y => some (y)))
    (sRet (eC .non))
def f_w_told (C_BadProgram : Addr) (C_Program : Addr) : FM := mkF 1 2 (B_w_told C_BadProgram C_Program)

/-- slots: 0 value, 1 least, 2 most -/
def B_w_is_number : SM :=
  sRet (eAnd (eL (kIsi []) (aC (oV (eV 0)) (aC (oV (eC (.bty "int"))) (aN)))) (eAnd (eNot (eL (kIsi []) (aC (oV (eV 0)) (aC (oV (eC (.bty "bool"))) (aN))))) (eChain kLe kLe (oV (eV 1)) (oV (eV 0)) (oV (eV 2)))))
def f_w_is_number : FM := mkF 3 3 (B_w_is_number)

def B_w_is_row_1 : SM :=
  sIf (tOr' (tNt (tV (eL (kIsi []) (aC (oV (eV 0)) (aC (oV (eC (.bty "tuple"))) (aN)))))) (tOr' (tV (e2 kEq (oV (eL kLen (aC (oV (eV 0)) (aN)))) (oV (eC (.int 0))))) (tOr' (tNt (tV (eL (kIsi []) (aC (oV (e2 kIx (oV (eV 0)) (oV (eC (.int 0))))) (aC (oV (eC (.bty "str"))) (aN)))))) (tV (e2 (kInD true) (oV (e2 kIx (oV (eV 0)) (oV (eC (.int 0))))) (oV (eV 3))))))) (sRet (eC (.bl false))) (sNx)

def B_w_is_row_2 : SM :=
  sIf (tOr' (tV (e2 kNe (oV (eL kLen (aC (oV (eV 0)) (aN)))) (oV (e2 kGet (oV (eV 3)) (oV (e2 kIx (oV (eV 0)) (oV (eC (.int 0))))))))) (tAn (tV (e2 (kIn false) (oV (e2 kIx (oV (eV 0)) (oV (eC (.int 0))))) (oV (eTup (aC (oV (eC (.str "write"))) (aC (oV (eC (.str "read"))) (aN))))))) (tNt (tV (eCall (f_w_is_number) [] (aC (oV (e2 kIx (oV (eV 0)) (oV (eC (.int 1))))) (aC (oV (eC (.int 1))) (aC (oV (e2 kPow (oV (eC (.int 10))) (oV (eC (.int 18))))) (aN))))))))) (sRet (eC (.bl false))) (sNx)

def B_w_is_row_3 : SM :=
  sRet (e2 (kIn true) (oV (eC (.bl false))) (oV (nLc (itT (eSl (oV (eV 0)) (bS (eV 4)) (bN))) (gN 5) (tYs) (eCall (f_w_is_number) [] (aC (oV (eV 5)) (aC (oV (e2 kAdd (oV (eV 1)) (oV (eC (.int 1))))) (aC (oV (e2 kSub (oV (eV 2)) (oV (eC (.int 1))))) (aN))))) [5])))

/-- slots: 0 row, 1 at, 2 many, 3 sizes, 4 begin, 5 target -/
def B_w_is_row : SM :=
  sSeq (sSet 3 (nDsp [(eC (.str "write"), eC (.int 3)), (eC (.str "read"), eC (.int 4)), (eC (.str "drain"), eC (.int 2)), (eC (.str "stop"), eC (.int 1)), (eC (.str "close"), eC (.int 1)), (eC (.str "abort"), eC (.int 1)), (eC (.str "done"), eC (.int 1)), (eC (.str "fail"), eC (.int 1))]))
    (sSeq (B_w_is_row_1)
    (sSeq (B_w_is_row_2)
    (sSeq (sSet 4 (eIf (tV (e2 kEq (oV (e2 kIx (oV (eV 0)) (oV (eC (.int 0))))) (oV (eC (.str "drain"))))) (eC (.int 1)) (eC (.int 2))))
    (B_w_is_row_3))))
def f_w_is_row : FM := mkF 3 6 (B_w_is_row)

def B_w_due_1 : SM :=
  sIf (tOr' (tNt (tV (eL (kIsiT []) (aC (oV (eV 0)) (aC (oV (eTup (aC (oV (eC (.bty "list"))) (aC (oV (eC (.bty "tuple"))) (aN))))) (aN)))))) (tNt (tV (eChain kLe kLe (oV (eC (.int 1))) (oV (eL kLen (aC (oV (eV 0)) (aN)))) (oV (eC (.int 24))))))) (sRet (e1 kNeg (oV (eC (.int 1))))) (sNx)

/-- slots: 0 value, 1 wrong, 2 at -/
def B_w_due : SM :=
  sSeq (B_w_due_1)
    (sSeq (sSetN 1 (nLc (itR1 (aC (oV (eL kLen (aC (oV (eV 0)) (aN)))) (aN))) (gN 2) (tNt (tV (eCall (f_w_is_row) [] (aC (oV (e2 kIx (oV (eV 0)) (oV (eV 2)))) (aC (oV (eV 2)) (aC (oV (eL kLen (aC (oV (eV 0)) (aN)))) (aN))))))) (eV 2) [2]))
    (sSeq (sIf (tV (e2 kNe (oV (eV 1)) (oV (nLst (aN))))) (sRet (e2 kIx (oV (eV 1)) (oV (eC (.int 0))))) (sNx))
    (sRet (eIf (tV (e2 (kIn false) (oV (e2 kIx (oV (e2 kIx (oV (eV 0)) (oV (e2 kSub (oV (eL kLen (aC (oV (eV 0)) (aN)))) (oV (eC (.int 1))))))) (oV (eC (.int 0))))) (oV (eTup (aC (oV (eC (.str "done"))) (aC (oV (eC (.str "fail"))) (aN))))))) (eC .non) (eL kLen (aC (oV (eV 0)) (aN)))))))
def f_w_due : FM := mkF 1 3 (B_w_due)

def B_law_1 : SM :=
  sFor (itR1 (aC (oV (eCall (f_w_draw) [] (aC (oI 2) (aC (oV (eC (.int 3))) (aN))))) (aN))) (gN 5) (sSet 4 (eCall (f_w_spoiled) [] (aC (oI 2) (aC (oV (eV 4)) (aN)))))

def B_law_2 : SM :=
  sIf (tV (e2 kEq (oV (eCall (f_w_draw) [] (aC (oI 2) (aC (oV (eC (.int 6))) (aN))))) (oV (eC (.int 0))))) (sSet 4 (e2 kAdd (oV (eV 4)) (oV (eSl (oV (nLst (aC (oV (eTup (aC (oV (eC (.str "stop"))) (aN)))) (aC (oV (eTup (aC (oV (eC (.str "close"))) (aN)))) (aC (oV (eTup (aC (oV (eC (.str "read"))) (aC (oV (eC (.int 1))) (aC (oV (eL kLen (aC (oV (eV 4)) (aN)))) (aC (oV (eL kLen (aC (oV (eV 4)) (aN)))) (aN))))))) (aN)))))) (bN) (bS (e2 kAdd (oV (eC (.int 1))) (oV (eCall (f_w_draw) [] (aC (oI 2) (aC (oV (eC (.int 3))) (aN))))))))))) (sNx)

def B_law_3 (C_BadProgram : Addr) (C_Program : Addr) : SM :=
  sIf (tOr' (tV (e2 kNe (oV (eL kRepr (aC (oV (eCall (f_w_told C_BadProgram C_Program) [] (aC (oV (eV 6)) (aN)))) (aN)))) (oV (eL kRepr (aC (oV (eCall (f_w_due) [] (aC (oV (eV 6)) (aN)))) (aN)))))) (tV (e2 kNe (oV (eL kRepr (aC (oV (eV 6)) (aN)))) (oV (eV 7))))) (sRet (eC (.bl false))) (sNx)

def B_law_4 (C_BadProgram : Addr) (C_Program : Addr) : SM :=
  sSeq (sSet 4 (eCall (f_w_rows) [] (aC (oI 2) (aC (oV (e2 kIx (oV (nLst (aC (oV (eC (.int 4))) (aC (oV (eC (.int 24))) (aN))))) (oV (eCall (f_w_draw) [] (aC (oI 2) (aC (oV (eC (.int 2))) (aN))))))) (aC (oV (e2 kIx (oV (nLst (aC (oV (eC (.int 5))) (aC (oV (e2 kPow (oV (eC (.int 10))) (oV (eC (.int 18))))) (aN))))) (oV (eCall (f_w_draw) [] (aC (oI 2) (aC (oV (eC (.int 2))) (aN))))))) (aN))))))
    (sSeq (B_law_1)
    (sSeq (B_law_2)
    (sSeq (sSet 6 (e2 kIx (oV (nLst (aC (oV (eV 4)) (aC (oV (eL kTuple (aC (oV (eV 4)) (aN)))) (aN))))) (oV (eCall (f_w_draw) [] (aC (oI 2) (aC (oV (eC (.int 2))) (aN)))))))
    (sSeq (sSet 7 (eL kRepr (aC (oV (eV 6)) (aN))))
    (B_law_3 C_BadProgram C_Program)))))

def B_law_5 (C_BadProgram : Addr) (C_Program : Addr) : SM :=
  sIf (tV (e2 kNe (oV (eL kRepr (aC (oV (eCall (f_w_told C_BadProgram C_Program) [] (aC (oV (e2 kAdd (oV (e2 kRep (oV (nLst (aC (oV (eTup (aC (oV (eC (.str "stop"))) (aN)))) (aN)))) (oV (eV 8)))) (oV (nLst (aC (oV (eTup (aC (oV (eC (.str "done"))) (aN)))) (aN)))))) (aN)))) (aN)))) (oV (eL kRepr (aC (oV (e2 kIx (oV (nLst (aC (oV (eC .non)) (aC (oV (e1 kNeg (oV (eC (.int 1))))) (aN))))) (oV (eL kInt (aC (oV (e2 kGt (oV (eV 8)) (oV (eC (.int 23))))) (aN)))))) (aN)))))) (sRet (eC (.bl false))) (sNx)

def B_law_6 (C_BadProgram : Addr) (C_Program : Addr) : SM :=
  sIf (tV (e2 kNe (oV (eL kRepr (aC (oV (eCall (f_w_told C_BadProgram C_Program) [] (aC (oV (eV 9)) (aN)))) (aN)))) (oV (eL kRepr (aC (oV (eCall (f_w_due) [] (aC (oV (eV 9)) (aN)))) (aN)))))) (sRet (eC (.bl false))) (sNx)

def B_law_7 (C_BadProgram : Addr) (C_Program : Addr) : SM :=
  sSeq (sOwn 2 (nCall (f_w_source) [] (aC (oV (eV 0)) (aC (oV (eV 1)) (aN)))))
    (sSeq (sFor (itR1 (aC (oV (eC (.int 4))) (aN))) (gN 3) (B_law_4 C_BadProgram C_Program))
    (sSeq (sSet 8 (e2 kAdd (oV (eC (.int 23))) (oV (eCall (f_w_draw) [] (aC (oI 2) (aC (oV (eC (.int 4))) (aN)))))))
    (sSeq (B_law_5 C_BadProgram C_Program)
    (sSeq (sSet 9 (e2 kIx (oV (nLst (aC (oV (nLst (aN))) (aC (oV (eTup (aN))) (aC (oV (eC .non)) (aC (oV (eC (.int 7))) (aC (oV (eC (.str "done"))) (aC (oV (eC (.bl true))) (aC (oV (eTup (aC (oV (eC (.str "done"))) (aN)))) (aC (oV (nLst (aC (oV (eTup (aC (oV (eC (.str "done"))) (aN)))) (aC (oV (nLst (aN))) (aN))))) (aC (oV (nLst (aC (oV (nLst (aC (oV (eC (.str "done"))) (aN)))) (aN)))) (aN)))))))))))) (oV (eCall (f_w_draw) [] (aC (oI 2) (aC (oV (eC (.int 9))) (aN)))))))
    (B_law_6 C_BadProgram C_Program)))))

def B_law_8 (C_BadProgram : Addr) (C_Program : Addr) : SM :=
  sFor (itR1 (aC (oV (eL kMax2 (aC (oV (eC (.int 1))) (aC (oV (eL kMin2 (aC (oV (eC (.int 4))) (aC (oV (eL kLen (aC (oV (eV 0)) (aN)))) (aN))))) (aN))))) (aN))) (gN 1) (B_law_7 C_BadProgram C_Program)

/-- slots: 0 script, 1 at, 2 source_here, 3 turn, 4 rows_here, 5 time, 6 value, 7 kept, 8 many, 9 odd -/
def B_law (C_BadProgram : Addr) (C_Program : Addr) : SM :=
  sSeq (B_law_8 C_BadProgram C_Program)
    (sRet (eC (.bl true)))
def f_law (C_BadProgram : Addr) (C_Program : Addr) : FM := mkF 1 10 (B_law C_BadProgram C_Program)

end My

namespace My
open PySem PySem.Spec PyProof.Rows L2 L3

def top (i : Nat) : Stmt := PySem.Challenge.pw_lastbytes_k03_programs_refused.main.body.getD i (.Pass ⟨0, 0, 0, 0⟩)
abbrev s_w_source : Stmt := top 17
abbrev N_w_source : List Str := ["_law_script", "_law_at", "_law_cell", "_law_great"]
theorem sc_w_source : FnScope N_w_source ["_law_script", "_law_at"] (defScope s_w_source) := ⟨rfl, rfl, rfl, by decide +kernel, rfl, by decide +kernel, by decide +kernel⟩
abbrev s_w_draw : Stmt := top 18
abbrev N_w_draw : List Str := ["_law_source_here", "_law_many", "_law_digit", "_law_primes", "_law_turn", "_law_base", "_law_mixed"]
theorem sc_w_draw : FnScope N_w_draw ["_law_source_here", "_law_many"] (defScope s_w_draw) := ⟨rfl, rfl, rfl, by decide +kernel, rfl, by decide +kernel, by decide +kernel⟩
abbrev s_w_rows : Stmt := top 19
abbrev N_w_rows : List Str := ["_law_source_here", "_law_many", "_law_most", "_law_size", "_law_rows_here", "_law_index", "_law_end", "_law_other", "_law_amount", "_law_menu"]
theorem sc_w_rows : FnScope N_w_rows ["_law_source_here", "_law_many", "_law_most"] (defScope s_w_rows) := ⟨rfl, rfl, rfl, by decide +kernel, rfl, by decide +kernel, by decide +kernel⟩
abbrev s_w_spoiled : Stmt := top 24
abbrev N_w_spoiled : List Str := ["_law_source_here", "_law_rows_here", "_law_at", "_law_row", "_law_numbers", "_law_number", "_law_place", "_law_odd"]
theorem sc_w_spoiled : FnScope N_w_spoiled ["_law_source_here", "_law_rows_here"] (defScope s_w_spoiled) := ⟨rfl, rfl, rfl, by decide +kernel, rfl, by decide +kernel, by decide +kernel⟩
abbrev s_is_integer : Stmt := top 11
abbrev N_is_integer : List Str := ["value", "least", "most"]
theorem sc_is_integer : FnScope N_is_integer ["value", "least", "most"] (defScope s_is_integer) := ⟨rfl, rfl, rfl, by decide +kernel, rfl, by decide +kernel, by decide +kernel⟩
abbrev s_targets_at : Stmt := top 12
abbrev N_targets_at : List Str := ["word"]
theorem sc_targets_at : FnScope N_targets_at ["word"] (defScope s_targets_at) := ⟨rfl, rfl, rfl, by decide +kernel, rfl, by decide +kernel, by decide +kernel⟩
abbrev s_is_row : Stmt := top 13
abbrev N_is_row : List Str := ["value", "index", "many", "word", "target"]
theorem sc_is_row : FnScope N_is_row ["value", "index", "many"] (defScope s_is_row) := ⟨rfl, rfl, rfl, by decide +kernel, rfl, by decide +kernel, by decide +kernel⟩
abbrev s_c_BadProgram_init : Stmt := inClass (top 2) 0
abbrev N_c_BadProgram_init : List Str := ["self", "index"]
theorem sc_c_BadProgram_init : FnScope N_c_BadProgram_init ["self", "index"] (defScope s_c_BadProgram_init) := ⟨rfl, rfl, rfl, by decide +kernel, rfl, by decide +kernel, by decide +kernel⟩
abbrev s_c_Program_init : Stmt := inClass (top 14) 0
abbrev N_c_Program_init : List Str := ["self", "rows", "index", "row"]
theorem sc_c_Program_init : FnScope N_c_Program_init ["self", "rows"] (defScope s_c_Program_init) := ⟨rfl, rfl, rfl, by decide +kernel, rfl, by decide +kernel, by decide +kernel⟩
abbrev s_w_told : Stmt := top 23
abbrev N_w_told : List Str := ["_law_value", "e"]
theorem sc_w_told : FnScope N_w_told ["_law_value"] (defScope s_w_told) := ⟨rfl, rfl, rfl, by decide +kernel, rfl, by decide +kernel, by decide +kernel⟩
abbrev s_w_is_number : Stmt := top 20
abbrev N_w_is_number : List Str := ["_law_value", "_law_least", "_law_most"]
theorem sc_w_is_number : FnScope N_w_is_number ["_law_value", "_law_least", "_law_most"] (defScope s_w_is_number) := ⟨rfl, rfl, rfl, by decide +kernel, rfl, by decide +kernel, by decide +kernel⟩
abbrev s_w_is_row : Stmt := top 21
abbrev N_w_is_row : List Str := ["_law_row", "_law_at", "_law_many", "_law_sizes", "_law_begin", "_law_target"]
theorem sc_w_is_row : FnScope N_w_is_row ["_law_row", "_law_at", "_law_many"] (defScope s_w_is_row) := ⟨rfl, rfl, rfl, by decide +kernel, rfl, by decide +kernel, by decide +kernel⟩
abbrev s_w_due : Stmt := top 22
abbrev N_w_due : List Str := ["_law_value", "_law_wrong", "_law_at"]
theorem sc_w_due : FnScope N_w_due ["_law_value"] (defScope s_w_due) := ⟨rfl, rfl, rfl, by decide +kernel, rfl, by decide +kernel, by decide +kernel⟩
abbrev s_law : Stmt := top 25
abbrev N_law : List Str := ["_law_script", "_law_at", "_law_source_here", "_law_turn", "_law_rows_here", "_law_time", "_law_value", "_law_kept", "_law_many", "_law_odd"]
theorem sc_law : FnScope N_law ["_law_script"] (defScope s_law) := ⟨rfl, rfl, rfl, by decide +kernel, rfl, by decide +kernel, by decide +kernel⟩
structure Txt (K : PySem.W.Frag) (w : World) (mg : Str → Option Value) : Prop where
  z_len : mg "len" = none
  z_abs : mg "abs" = none
  z_int : mg "int" = none
  g_w_draw : mg "_law_draw" = some (.ref (He.ga K "_law_draw"))
  z_range : mg "range" = none
  z_isinstance : mg "isinstance" = none
  z_tuple : mg "tuple" = none
  z_str : mg "str" = none
  z_list : mg "list" = none
  z_bool : mg "bool" = none
  gc_WORDS : GCon K mg "WORDS" (.ktp [.str "write", .str "read", .str "drain", .str "stop", .str "close", .str "abort", .str "done", .str "fail"])
  kt_SIZES : KTab K w mg "SIZES" [("write", .int 3), ("read", .int 4), ("drain", .int 2)]
  g_is_integer : mg "is_integer" = some (.ref (He.ga K "is_integer"))
  gc_MOST_AMOUNT : GCon K mg "MOST_AMOUNT" (.int 1000000000000000000)
  z_all : mg "all" = none
  g_targets_at : mg "targets_at" = some (.ref (He.ga K "targets_at"))
  ox_BadProgram : OexC K (He.ga K "BadProgram")
  nf_BadProgram_index : PySem.W.findIn K (.ref (He.ga K "BadProgram")) "index" = some none
  gc_MOST_ROWS : GCon K mg "MOST_ROWS" (.int 24)
  m_c_BadProgram_init : PySem.W.findIn K (.ref (He.ga K "BadProgram")) "__init__" = some (some (.ref (He.ma K (He.ga K "BadProgram") "__init__")))
  ty_c_BadProgram_init : PySem.W.typeIn K (.ref (He.ma K (He.ga K "BadProgram") "__init__")) = some (.type "function")
  g_BadProgram : mg "BadProgram" = some (.ref (He.ga K "BadProgram"))
  z_enumerate : mg "enumerate" = none
  g_is_row : mg "is_row" = some (.ref (He.ga K "is_row"))
  gc_VERDICTS : GCon K mg "VERDICTS" (.ktp [.str "done", .str "fail"])
  cl_Program : Cls K (He.ga K "Program")
  n_Program_listed : NoAttr K (He.ga K "Program") "listed"
  em_BadProgram : PySem.W.exmOne K (.ref (He.ga K "BadProgram")) (.ref (He.ga K "BadProgram")) = some true
  mk_Program : Mk K (He.ga K "Program") (He.ma K (He.ga K "Program") "__init__")
  g_Program : mg "Program" = some (.ref (He.ga K "Program"))
  ec_BadProgram : ExcC K (He.ga K "BadProgram")
  z_ValueError : mg "ValueError" = none
  ki_BadProgram_ValueError : PySem.W.kitOne K (.ref (He.ga K "BadProgram")) (.type "ValueError") = some true
  g_BadText : mg "BadText" = some (.ref (He.ga K "BadText"))
  g_BadLine : mg "BadLine" = some (.ref (He.ga K "BadLine"))
  ka_BadProgram_BadText_BadLine : PySem.W.kitAny K (.ref (He.ga K "BadProgram")) ([He.ga K "BadText", He.ga K "BadLine"].map Value.ref) = some false
  xf_BadProgram : XfC K (He.ga K "BadProgram")
  g_w_is_number : mg "_law_is_number" = some (.ref (He.ga K "_law_is_number"))
  g_w_is_row : mg "_law_is_row" = some (.ref (He.ga K "_law_is_row"))
  z_max : mg "max" = none
  z_min : mg "min" = none
  g_w_source : mg "_law_source" = some (.ref (He.ga K "_law_source"))
  g_w_rows : mg "_law_rows" = some (.ref (He.ga K "_law_rows"))
  g_w_spoiled : mg "_law_spoiled" = some (.ref (He.ga K "_law_spoiled"))
  z_repr : mg "repr" = none
  g_w_told : mg "_law_told" = some (.ref (He.ga K "_law_told"))
  g_w_due : mg "_law_due" = some (.ref (He.ga K "_law_due"))
section
variable {P : Program} {w : World} {K : PySem.W.Frag} {mg : Str → Option Value} {base : Heap}

theorem ok_w_source (T : Txt K w mg) {fd : FuncData} (W : Fd K "_law_source" "_law_source" s_w_source [] (He.ga K "_law_source") fd) :
    FnOk P w K mg base CX0 1 (He.ga K "_law_source") fd ["_law_script", "_law_at"] (spF K (f_w_source)) := by
  refine okD (k := 0) W sc_w_source (by decide) (fun cdv A outer s H E g hr => ?_)
  have nd := sc_w_source.nd
  have hu := hr.units
  exact dss_cons (ds_set nd rfl (by first | exact Or.inl rfl | exact Or.inr rfl) (de_if (dt_cmp op_lt ok_lt (do_v (de_v (pv 1))) (do_v (de_callB call_len ok_len (by rfl) T.z_len (by decide +kernel) (da_c (do_v (de_v (pv 0))) (da_n)))) (nomark _)) (de_ix ix_seq ok_ix (do_v (de_v (pv 0))) (do_v (de_v (pv 1)))) (de_int)))
    (dss_cons (ds_set nd rfl (by first | exact Or.inl rfl | exact Or.inr rfl) (de_if (dt_cmp op_ge ok_ge (do_v (de_callB call_abs ok_abs (by rfl) T.z_abs (by decide +kernel) (da_c (do_v (de_v (pv 2))) (da_n)))) (do_v (de_bin op_powW ok_pow (do_v (de_int)) (do_v (de_int)))) (nomark _)) (de_callB call_abs ok_abs (by rfl) T.z_abs (by decide +kernel) (da_c (do_v (de_v (pv 2))) (da_n))) (de_int)))
    (dss_one (ds_retN (dn_lst (da_c (do_v (de_v (pv 3))) (da_c (do_v (de_bin or_add ok_add (do_v (de_bin or_add ok_add (do_v (de_bin or_add ok_add (do_v (de_bin op_mod ok_mod (do_v (de_callTy call_int1 ok_int (by rfl) T.z_int (by decide +kernel) (da_c (do_v (de_v (pv 2))) (da_n)))) (do_v (de_int)))) (do_v (de_bin op_mulW ok_mul (do_v (de_bin op_mulW ok_mul (do_v (de_int)) (do_v (de_v (pv 1))))) (do_v (de_v (pv 1))))))) (do_v (de_bin op_mulW ok_mul (do_v (de_int)) (do_v (de_v (pv 1))))))) (do_v (de_int)))) (da_c (do_v (de_int)) (da_n)))) (la_c (la_c (la_c (la_n))))))))

theorem ok_w_draw (T : Txt K w mg) {fd : FuncData} (W : Fd K "_law_draw" "_law_draw" s_w_draw [] (He.ga K "_law_draw") fd) :
    FnOk P w K mg base CX0 1 (He.ga K "_law_draw") fd ["_law_source_here", "_law_many"] (spF K (f_w_draw)) := by
  refine okD (k := 0) W sc_w_draw (by decide) (fun cdv A outer s H E g hr => ?_)
  have nd := sc_w_draw.nd
  have hu := hr.units
  exact dss_cons (ds_if (dt_cmp op_gt ok_gt (do_v (de_ix ix_seq ok_ix (do_r (pv 0)) (do_v (de_int)))) (do_v (de_int)) (nomark _)) (dss_cons (ds_set nd rfl (by first | exact Or.inl rfl | exact Or.inr rfl) (de_bin op_mod ok_mod (do_v (de_callTy call_int1 ok_int (by rfl) T.z_int (by decide +kernel) (da_c (do_v (de_ix ix_seq ok_ix (do_r (pv 0)) (do_v (de_int)))) (da_n)))) (do_v (de_v (pv 1)))))
    (dss_cons (ds_putL (ps_asg (de_bin op_fdivW ok_fdiv (do_v (de_ix ix_seq ok_ix (do_r (pv 0)) (do_v (de_int)))) (do_v (de_v (pv 1)))) (pg_sub (pv 0) (de_int) set_list)))
    (dss_one (ds_ret (de_v (pv 2)))))) (dss_nil))
    (dss_cons (ds_set nd rfl (by first | exact Or.inl rfl | exact Or.inr rfl) (de_tup (da_c (do_v (de_int)) (da_c (do_v (de_int)) (da_c (do_v (de_int)) (da_c (do_v (de_int)) (da_c (do_v (de_int)) (da_c (do_v (de_int)) (da_c (do_v (de_int)) (da_n)))))))) (la_c (la_c (la_c (la_c (la_c (la_c (la_c (la_n))))))))))
    (dss_cons (ds_putL (ps_asg (de_bin or_add ok_add (do_v (de_ix ix_seq ok_ix (do_r (pv 0)) (do_v (de_int)))) (do_v (de_int))) (pg_sub (pv 0) (de_int) set_list)))
    (dss_cons (ds_set nd rfl (by first | exact Or.inl rfl | exact Or.inr rfl) (de_ix ix_seq ok_ix (do_r (pv 0)) (do_v (de_int))))
    (dss_cons (ds_set nd rfl (by first | exact Or.inl rfl | exact Or.inr rfl) (de_bin or_add ok_add (do_v (de_bin or_add ok_add (do_v (de_bin op_mulW ok_mul (do_v (de_ix ix_seq ok_ix (do_r (pv 0)) (do_v (de_int)))) (do_v (de_bin or_add ok_add (do_v (de_bin op_mulW ok_mul (do_v (de_int)) (do_v (de_v (pv 4))))) (do_v (de_int)))))) (do_v (de_bin op_mulW ok_mul (do_v (de_bin op_mulW ok_mul (do_v (de_int)) (do_v (de_v (pv 4))))) (do_v (de_v (pv 4))))))) (do_v (de_int))))
    (dss_cons (ds_set nd rfl (by first | exact Or.inl rfl | exact Or.inr rfl) (de_bin op_mod ok_mod (do_v (de_callTy call_int1 ok_int (by rfl) T.z_int (by decide +kernel) (da_c (do_v (de_bin op_powW ok_pow (do_v (de_v (pv 5))) (do_v (de_int)))) (da_n)))) (do_v (de_ix ix_seq ok_ix (do_v (de_v (pv 3))) (do_v (de_bin op_mod ok_mod (do_v (de_callTy call_int1 ok_int (by rfl) T.z_int (by decide +kernel) (da_c (do_v (de_v (pv 4))) (da_n)))) (do_v (de_int))))))))
    (dss_one (ds_ret (de_bin op_mod ok_mod (do_v (de_bin op_fdivW ok_fdiv (do_v (de_bin op_mod ok_mod (do_v (de_callTy call_int1 ok_int (by rfl) T.z_int (by decide +kernel) (da_c (do_v (de_bin op_mulW ok_mul (do_v (de_v (pv 6))) (do_v (de_bin or_add ok_add (do_v (de_bin op_fdivW ok_fdiv (do_v (de_v (pv 6))) (do_v (de_int)))) (do_v (de_v (pv 4))))))) (da_n)))) (do_v (de_ix ix_seq ok_ix (do_v (de_v (pv 3))) (do_v (de_bin op_mod ok_mod (do_v (de_callTy call_int1 ok_int (by rfl) T.z_int (by decide +kernel) (da_c (do_v (de_bin or_add ok_add (do_v (de_v (pv 4))) (do_v (de_int)))) (da_n)))) (do_v (de_int)))))))) (do_v (de_int)))) (do_v (de_v (pv 1)))))))))))

theorem ok_w_rows (T : Txt K w mg) {fd : FuncData} (W : Fd K "_law_rows" "_law_rows" s_w_rows [] (He.ga K "_law_rows") fd)
    {fd_w_draw : FuncData} (D_w_draw : Done P w K mg base 1 (He.ga K "_law_draw") ["_law_source_here", "_law_many"] (f_w_draw) [] fd_w_draw) :
    FnOk P w K mg base CX0 2 (He.ga K "_law_rows") fd ["_law_source_here", "_law_many", "_law_most"] (spF K (f_w_rows)) := by
  have G_w_draw := D_w_draw.ok
  refine okD (k := 1) W sc_w_rows (by decide) (fun cdv A outer s H E g hr => ?_)
  have nd := sc_w_rows.nd
  have hu := hr.units
  exact dss_cons (ds_set nd rfl (by first | exact Or.inl rfl | exact Or.inr rfl) (de_bin or_add ok_add (do_v (de_int)) (do_v (de_call G_w_draw (hr.mono (by decide)) (by rfl) T.g_w_draw D_w_draw.kp D_w_draw.bd .nil (fun _ => .nil) pass0 (da_c (do_i (pv 0)) (da_c (do_v (de_bin op_sub ok_sub (do_v (de_v (pv 1))) (do_v (de_int)))) (da_n)))))))
    (dss_cons (ds_own nd rfl (by first | exact Or.inl rfl | exact Or.inr rfl) (dn_lst (da_n) (la_n)))
    (dss_cons (ds_for PassesOwn.never rfl (di_r1 (by rfl) T.z_range (da_c (do_v (de_bin op_sub ok_sub (do_v (de_v (pv 3))) (do_v (de_int)))) (da_n))) (dg_n nd rfl (by first | exact Or.inl rfl | exact Or.inr rfl)) (dss_cons (ds_set nd rfl (by first | exact Or.inl rfl | exact Or.inr rfl) (de_bin or_add ok_add (do_v (de_bin or_add ok_add (do_v (de_v (pv 5))) (do_v (de_int)))) (do_v (de_call G_w_draw (hr.mono (by decide)) (by rfl) T.g_w_draw D_w_draw.kp D_w_draw.bd .nil (fun _ => .nil) pass0 (da_c (do_i (pv 0)) (da_c (do_v (de_bin op_sub ok_sub (do_v (de_bin op_sub ok_sub (do_v (de_v (pv 3))) (do_v (de_int)))) (do_v (de_v (pv 5))))) (da_n)))))))
    (dss_cons (ds_set nd rfl (by first | exact Or.inl rfl | exact Or.inr rfl) (de_bin or_add ok_add (do_v (de_bin or_add ok_add (do_v (de_v (pv 5))) (do_v (de_int)))) (do_v (de_call G_w_draw (hr.mono (by decide)) (by rfl) T.g_w_draw D_w_draw.kp D_w_draw.bd .nil (fun _ => .nil) pass0 (da_c (do_i (pv 0)) (da_c (do_v (de_bin op_sub ok_sub (do_v (de_bin op_sub ok_sub (do_v (de_v (pv 3))) (do_v (de_int)))) (do_v (de_v (pv 5))))) (da_n)))))))
    (dss_cons (ds_set nd rfl (by first | exact Or.inl rfl | exact Or.inr rfl) (de_bin or_add ok_add (do_v (de_int)) (do_v (de_call G_w_draw (hr.mono (by decide)) (by rfl) T.g_w_draw D_w_draw.kp D_w_draw.bd .nil (fun _ => .nil) pass0 (da_c (do_i (pv 0)) (da_c (do_v (de_v (pv 2))) (da_n)))))))
    (dss_cons (ds_set nd rfl (by first | exact Or.inl rfl | exact Or.inr rfl) (de_n (dn_lst (da_c (do_v (de_tup (da_c (do_v (de_str)) (da_c (do_v (de_v (pv 8))) (da_c (do_v (de_v (pv 7))) (da_n)))) (la_c (la_c (la_c (la_n)))))) (da_c (do_v (de_tup (da_c (do_v (de_str)) (da_c (do_v (de_v (pv 8))) (da_c (do_v (de_v (pv 6))) (da_c (do_v (de_v (pv 7))) (da_n))))) (la_c (la_c (la_c (la_c (la_n))))))) (da_c (do_v (de_tup (da_c (do_v (de_str)) (da_c (do_v (de_v (pv 8))) (da_c (do_v (de_v (pv 7))) (da_n)))) (la_c (la_c (la_c (la_n)))))) (da_c (do_v (de_tup (da_c (do_v (de_str)) (da_c (do_v (de_v (pv 7))) (da_n))) (la_c (la_c (la_n))))) (da_n))))) (la_c (la_c (la_c (la_c (la_n))))))))
    (dss_cons (ds_set nd rfl (by first | exact Or.inl rfl | exact Or.inr rfl) (de_bin or_add ok_add (do_v (de_v (pv 9))) (do_v (de_n (dn_lst (da_c (do_v (de_tup (da_c (do_v (de_str)) (da_c (do_v (de_v (pv 8))) (da_c (do_v (de_v (pv 6))) (da_c (do_v (de_v (pv 7))) (da_n))))) (la_c (la_c (la_c (la_c (la_n))))))) (da_c (do_v (de_tup (da_c (do_v (de_str)) (da_n)) (la_c (la_n)))) (da_c (do_v (de_tup (da_c (do_v (de_str)) (da_n)) (la_c (la_n)))) (da_c (do_v (de_tup (da_c (do_v (de_str)) (da_n)) (la_c (la_n)))) (da_c (do_v (de_tup (da_c (do_v (de_str)) (da_n)) (la_c (la_n)))) (da_c (do_v (de_tup (da_c (do_v (de_str)) (da_n)) (la_c (la_n)))) (da_n))))))) (la_c (la_c (la_c (la_c (la_c (la_c (la_n))))))))))))
    (dss_one (ds_app (pe_bm PySem.F.plainAttrs_list PySem.F.slot_list_append PySem.F.type_list_append mt_append (pv 4) (pa_cons (de_ix ix_seq ok_ix (do_v (de_v (pv 9))) (do_v (de_call G_w_draw (hr.mono (by decide)) (by rfl) T.g_w_draw D_w_draw.kp D_w_draw.bd .nil (fun _ => .nil) pass0 (da_c (do_i (pv 0)) (da_c (do_v (de_int)) (da_n)))))) pa_nil))))))))))
    (dss_one (ds_frz 4 (ds_ret (de_bin or_add ok_add (do_v (de_v (pv 4))) (do_v (de_n (dn_lst (da_c (do_v (de_ix ix_seq ok_ix (do_v (de_n (dn_lst (da_c (do_v (de_tup (da_c (do_v (de_str)) (da_n)) (la_c (la_n)))) (da_c (do_v (de_tup (da_c (do_v (de_str)) (da_n)) (la_c (la_n)))) (da_n))) (la_c (la_c (la_n)))))) (do_v (de_call G_w_draw (hr.mono (by decide)) (by rfl) T.g_w_draw D_w_draw.kp D_w_draw.bd .nil (fun _ => .nil) pass0 (da_c (do_i (pv 0)) (da_c (do_v (de_int)) (da_n))))))) (da_n)) (la_c (la_n)))))))))))

theorem ok_w_spoiled (T : Txt K w mg) {fd : FuncData} (W : Fd K "_law_spoiled" "_law_spoiled" s_w_spoiled [] (He.ga K "_law_spoiled") fd)
    {fd_w_draw : FuncData} (D_w_draw : Done P w K mg base 1 (He.ga K "_law_draw") ["_law_source_here", "_law_many"] (f_w_draw) [] fd_w_draw) :
    FnOk P w K mg base CX0 2 (He.ga K "_law_spoiled") fd ["_law_source_here", "_law_rows_here"] (spF K (f_w_spoiled)) := by
  have G_w_draw := D_w_draw.ok
  refine okD (k := 1) W sc_w_spoiled (by decide) (fun cdv A outer s H E g hr => ?_)
  have nd := sc_w_spoiled.nd
  have hu := hr.units
  exact dss_cons (ds_set nd rfl (by first | exact Or.inl rfl | exact Or.inr rfl) (de_call G_w_draw (hr.mono (by decide)) (by rfl) T.g_w_draw D_w_draw.kp D_w_draw.bd .nil (fun _ => .nil) pass0 (da_c (do_i (pv 0)) (da_c (do_v (de_callB call_len ok_len (by rfl) T.z_len (by decide +kernel) (da_c (do_v (de_v (pv 1))) (da_n)))) (da_n)))))
    (dss_cons (ds_set nd rfl (by first | exact Or.inl rfl | exact Or.inr rfl) (de_ix ix_seq ok_ix (do_v (de_v (pv 1))) (do_v (de_v (pv 2)))))
    (dss_cons (ds_if (dt_w (dw_or (dt_not (dt_v (de_callB call_isi (ok_isi (fun C h => nomatch h)) (by rfl) T.z_isinstance (by decide +kernel) (da_c (do_v (de_v (pv 3))) (da_c (do_v (de_bty (pe_bltn (by rfl) T.z_tuple (by decide +kernel) rfl))) (da_n)))))) (dw_or (dt_cmp (op_eqD hu) ok_eq (do_v (de_callB call_len ok_len (by rfl) T.z_len (by decide +kernel) (da_c (do_v (de_v (pv 3))) (da_n)))) (do_v (de_int)) (nomark _)) (dw_or1 (dt_not (dt_v (de_callB call_isi (ok_isi (fun C h => nomatch h)) (by rfl) T.z_isinstance (by decide +kernel) (da_c (do_v (de_ix ix_seq ok_ix (do_v (de_v (pv 3))) (do_v (de_int)))) (da_c (do_v (de_bty (pe_bltn (by rfl) T.z_str (by decide +kernel) rfl))) (da_n)))))))))) (dss_one (ds_ret (de_bin or_add ok_add (do_v (de_bin or_add ok_add (do_v (de_sl (do_v (de_v (pv 1))) (db_n) (db_s (de_v (pv 2))))) (do_v (de_n (dn_lst (da_c (do_v (de_ix ix_seq ok_ix (do_v (de_n (dn_lst (da_c (do_v (de_tup (da_c (do_v (de_str)) (da_n)) (la_c (la_n)))) (da_c (do_v (de_non)) (da_c (do_v (de_int)) (da_c (do_v (de_str)) (da_n))))) (la_c (la_c (la_c (la_c (la_n)))))))) (do_v (de_call G_w_draw (hr.mono (by decide)) (by rfl) T.g_w_draw D_w_draw.kp D_w_draw.bd .nil (fun _ => .nil) pass0 (da_c (do_i (pv 0)) (da_c (do_v (de_int)) (da_n))))))) (da_n)) (la_c (la_n))))))) (do_v (de_sl (do_v (de_v (pv 1))) (db_s (de_bin or_add ok_add (do_v (de_v (pv 2))) (do_v (de_int)))) (db_n)))))) (dss_nil))
    (dss_cons (ds_set nd rfl (by first | exact Or.inl rfl | exact Or.inr rfl) (de_n (dn_lst (da_c (do_v (de_int)) (da_c (do_v (de_un un_neg ok_neg (do_v (de_int)))) (da_c (do_v (de_v (pv 2))) (da_c (do_v (de_bin or_add ok_add (do_v (de_v (pv 2))) (do_v (de_int)))) (da_c (do_v (de_callB call_len ok_len (by rfl) T.z_len (by decide +kernel) (da_c (do_v (de_v (pv 1))) (da_n)))) (da_c (do_v (de_bin op_sub ok_sub (do_v (de_callB call_len ok_len (by rfl) T.z_len (by decide +kernel) (da_c (do_v (de_v (pv 1))) (da_n)))) (do_v (de_int)))) (da_c (do_v (de_bl)) (da_c (do_v (de_bl)) (da_c (do_v (de_non)) (da_c (do_v (de_str)) (da_c (do_v (de_bin op_powW ok_pow (do_v (de_int)) (do_v (de_int)))) (da_c (do_v (de_bin or_add ok_add (do_v (de_bin op_powW ok_pow (do_v (de_int)) (do_v (de_int)))) (do_v (de_int)))) (da_c (do_v (de_int)) (da_n)))))))))))))) (la_c (la_c (la_c (la_c (la_c (la_c (la_c (la_c (la_c (la_c (la_c (la_c (la_c (la_n)))))))))))))))))
    (dss_cons (ds_set nd rfl (by first | exact Or.inl rfl | exact Or.inr rfl) (de_ix ix_seq ok_ix (do_v (de_v (pv 4))) (do_v (de_call G_w_draw (hr.mono (by decide)) (by rfl) T.g_w_draw D_w_draw.kp D_w_draw.bd .nil (fun _ => .nil) pass0 (da_c (do_i (pv 0)) (da_c (do_v (de_int)) (da_n)))))))
    (dss_cons (ds_set nd rfl (by first | exact Or.inl rfl | exact Or.inr rfl) (de_bin or_add ok_add (do_v (de_int)) (do_v (de_call G_w_draw (hr.mono (by decide)) (by rfl) T.g_w_draw D_w_draw.kp D_w_draw.bd .nil (fun _ => .nil) pass0 (da_c (do_i (pv 0)) (da_c (do_v (de_int)) (da_n)))))))
    (dss_cons (ds_set nd rfl (by first | exact Or.inl rfl | exact Or.inr rfl) (de_n (dn_lst (da_c (do_v (de_non)) (da_c (do_v (de_tup (da_n) (la_n))) (da_c (do_v (de_n (dn_lst (da_n) (la_n)))) (da_c (do_v (de_ix ix_seq ok_ix (do_v (de_v (pv 3))) (do_v (de_int)))) (da_c (do_v (de_n (dn_callTy call_list_of ok_list (by rfl) T.z_list (by decide +kernel) (da_c (do_v (de_v (pv 3))) (da_n))))) (da_c (do_v (de_bin or_add ok_add (do_v (de_v (pv 3))) (do_v (de_tup (da_c (do_v (de_v (pv 5))) (da_n)) (la_c (la_n)))))) (da_c (do_v (de_sl (do_v (de_v (pv 3))) (db_n) (db_s (de_bin op_sub ok_sub (do_v (de_callB call_len ok_len (by rfl) T.z_len (by decide +kernel) (da_c (do_v (de_v (pv 3))) (da_n)))) (do_v (de_int)))))) (da_c (do_v (de_bin or_add ok_add (do_v (de_tup (da_c (do_v (de_upper (de_ix ix_seq ok_ix (do_v (de_v (pv 3))) (do_v (de_int))))) (da_n)) (la_c (la_n)))) (do_v (de_sl (do_v (de_v (pv 3))) (db_s (de_int)) (db_n))))) (da_n))))))))) (la_c (la_c (la_c (la_c (la_c (la_c (la_c (la_c (la_n))))))))))))
    (dss_cons (ds_set nd rfl (by first | exact Or.inl rfl | exact Or.inr rfl) (de_bin or_add ok_add (do_v (de_v (pv 7))) (do_v (de_n (dn_lst (da_c (do_v (de_bin or_add ok_add (do_v (de_tup (da_c (do_v (de_non)) (da_n)) (la_c (la_n)))) (do_v (de_sl (do_v (de_v (pv 3))) (db_s (de_int)) (db_n))))) (da_c (do_v (de_bin or_add ok_add (do_v (de_tup (da_c (do_v (de_ix ix_seq ok_ix (do_v (de_n (dn_lst (da_c (do_v (de_str)) (da_c (do_v (de_str)) (da_c (do_v (de_str)) (da_n)))) (la_c (la_c (la_c (la_n))))))) (do_v (de_call G_w_draw (hr.mono (by decide)) (by rfl) T.g_w_draw D_w_draw.kp D_w_draw.bd .nil (fun _ => .nil) pass0 (da_c (do_i (pv 0)) (da_c (do_v (de_int)) (da_n))))))) (da_n)) (la_c (la_n)))) (do_v (de_sl (do_v (de_v (pv 3))) (db_s (de_int)) (db_n))))) (da_n))) (la_c (la_c (la_n))))))))
    (dss_cons (ds_if (dt_w (dw_and (dt_cmp op_lt ok_lt (do_v (de_v (pv 6))) (do_v (de_callB call_len ok_len (by rfl) T.z_len (by decide +kernel) (da_c (do_v (de_v (pv 3))) (da_n)))) (nomark _)) (dw_and1 (dt_cmp op_gt ok_gt (do_v (de_call G_w_draw (hr.mono (by decide)) (by rfl) T.g_w_draw D_w_draw.kp D_w_draw.bd .nil (fun _ => .nil) pass0 (da_c (do_i (pv 0)) (da_c (do_v (de_int)) (da_n))))) (do_v (de_int)) (nomark _))))) (dss_one (ds_ret (de_bin or_add ok_add (do_v (de_bin or_add ok_add (do_v (de_sl (do_v (de_v (pv 1))) (db_n) (db_s (de_v (pv 2))))) (do_v (de_n (dn_lst (da_c (do_v (de_bin or_add ok_add (do_v (de_bin or_add ok_add (do_v (de_sl (do_v (de_v (pv 3))) (db_n) (db_s (de_v (pv 6))))) (do_v (de_tup (da_c (do_v (de_v (pv 5))) (da_n)) (la_c (la_n)))))) (do_v (de_sl (do_v (de_v (pv 3))) (db_s (de_bin or_add ok_add (do_v (de_v (pv 6))) (do_v (de_int)))) (db_n))))) (da_n)) (la_c (la_n))))))) (do_v (de_sl (do_v (de_v (pv 1))) (db_s (de_bin or_add ok_add (do_v (de_v (pv 2))) (do_v (de_int)))) (db_n)))))) (dss_nil))
    (dss_one (ds_ret (de_bin or_add ok_add (do_v (de_bin or_add ok_add (do_v (de_sl (do_v (de_v (pv 1))) (db_n) (db_s (de_v (pv 2))))) (do_v (de_n (dn_lst (da_c (do_v (de_ix ix_seq ok_ix (do_v (de_v (pv 7))) (do_v (de_call G_w_draw (hr.mono (by decide)) (by rfl) T.g_w_draw D_w_draw.kp D_w_draw.bd .nil (fun _ => .nil) pass0 (da_c (do_i (pv 0)) (da_c (do_v (de_int)) (da_n))))))) (da_n)) (la_c (la_n))))))) (do_v (de_sl (do_v (de_v (pv 1))) (db_s (de_bin or_add ok_add (do_v (de_v (pv 2))) (do_v (de_int)))) (db_n))))))))))))))

theorem ok_is_integer (T : Txt K w mg) {fd : FuncData} (W : Fd K "is_integer" "is_integer" s_is_integer [] (He.ga K "is_integer") fd) :
    FnOk P w K mg base CX0 1 (He.ga K "is_integer") fd ["value", "least", "most"] (spF K (f_is_integer)) := by
  refine okD (k := 0) W sc_is_integer (by decide) (fun cdv A outer s H E g hr => ?_)
  have nd := sc_is_integer.nd
  have hu := hr.units
  exact dss_one (ds_ret (de_and (de_callB call_isi (ok_isi (fun C h => nomatch h)) (by rfl) T.z_isinstance (by decide +kernel) (da_c (do_v (de_v (pv 0))) (da_c (do_v (de_bty (pe_bltn (by rfl) T.z_int (by decide +kernel) rfl))) (da_n)))) (de_and (de_not (de_callB call_isi (ok_isi (fun C h => nomatch h)) (by rfl) T.z_isinstance (by decide +kernel) (da_c (do_v (de_v (pv 0))) (da_c (do_v (de_bty (pe_bltn (by rfl) T.z_bool (by decide +kernel) rfl))) (da_n))))) (de_one (de_chain ok_le ok_le (pe_chain op_le op_le (do_v (de_v (pv 1))) (do_v (de_v (pv 0))) (do_v (de_v (pv 2)))))))))

theorem ok_targets_at (T : Txt K w mg) {fd : FuncData} (W : Fd K "targets_at" "targets_at" s_targets_at [] (He.ga K "targets_at") fd) :
    FnOk P w K mg base CX0 1 (He.ga K "targets_at") fd ["word"] (spF K (f_targets_at)) := by
  refine okD (k := 0) W sc_targets_at (by decide) (fun cdv A outer s H E g hr => ?_)
  have nd := sc_targets_at.nd
  have hu := hr.units
  exact dss_one (ds_ret (de_if (dt_cmp (op_eqD hu) ok_eq (do_v (de_v (pv 0))) (do_v (de_str)) (nomark _)) (de_int) (de_int)))

theorem ok_is_row (T : Txt K w mg) {fd : FuncData} (W : Fd K "is_row" "is_row" s_is_row [] (He.ga K "is_row") fd)
    {fd_is_integer : FuncData} (D_is_integer : Done P w K mg base 1 (He.ga K "is_integer") ["value", "least", "most"] (f_is_integer) [] fd_is_integer)
    {fd_targets_at : FuncData} (D_targets_at : Done P w K mg base 1 (He.ga K "targets_at") ["word"] (f_targets_at) [] fd_targets_at) :
    FnOk P w K mg base CX0 2 (He.ga K "is_row") fd ["value", "index", "many"] (spF K (f_is_row)) := by
  have G_is_integer := D_is_integer.ok
  have G_targets_at := D_targets_at.ok
  refine okD (k := 1) W sc_is_row (by decide) (fun cdv A outer s H E g hr => ?_)
  have nd := sc_is_row.nd
  have hu := hr.units
  exact dss_cons (ds_if (dt_w (dw_or (dt_not (dt_v (de_callB call_isi (ok_isi (fun C h => nomatch h)) (by rfl) T.z_isinstance (by decide +kernel) (da_c (do_v (de_v (pv 0))) (da_c (do_v (de_bty (pe_bltn (by rfl) T.z_tuple (by decide +kernel) rfl))) (da_n)))))) (dw_or (dt_cmp (op_eqD hu) ok_eq (do_v (de_callB call_len ok_len (by rfl) T.z_len (by decide +kernel) (da_c (do_v (de_v (pv 0))) (da_n)))) (do_v (de_int)) (nomark _)) (dw_or (dt_not (dt_v (de_callB call_isi (ok_isi (fun C h => nomatch h)) (by rfl) T.z_isinstance (by decide +kernel) (da_c (do_v (de_ix ix_seq ok_ix (do_v (de_v (pv 0))) (do_v (de_int)))) (da_c (do_v (de_bty (pe_bltn (by rfl) T.z_str (by decide +kernel) rfl))) (da_n)))))) (dw_or1 (dt_cmp op_notIn_seq ok_in (do_v (de_ix ix_seq ok_ix (do_v (de_v (pv 0))) (do_v (de_int)))) (do_v (de_gc (by rfl) T.gc_WORDS)))))))) (dss_one (ds_ret (de_bl))) (dss_nil))
    (dss_cons (ds_set nd rfl (by first | exact Or.inl rfl | exact Or.inr rfl) (de_ix ix_seq ok_ix (do_v (de_v (pv 0))) (do_v (de_int))))
    (dss_cons (ds_if (dt_cmp (op_neD hu) ok_ne (do_v (de_callB call_len ok_len (by rfl) T.z_len (by decide +kernel) (da_c (do_v (de_v (pv 0))) (da_n)))) (do_v (de_kget2 (by rfl) T.kt_SIZES (de_v (pv 3)) (de_int) ⟨by rfl, by rfl, by rfl, by rfl⟩)) (nomark _)) (dss_one (ds_ret (de_bl))) (dss_nil))
    (dss_cons (ds_if (dt_w (dw_and (dt_cmp op_in_seq ok_in (do_v (de_v (pv 3))) (do_v (de_tup (da_c (do_v (de_str)) (da_c (do_v (de_str)) (da_n))) (la_c (la_c (la_n)))))) (dw_and1 (dt_not (dt_v (de_call G_is_integer (hr.mono (by decide)) (by rfl) T.g_is_integer D_is_integer.kp D_is_integer.bd .nil (fun _ => .nil) pass0 (da_c (do_v (de_ix ix_seq ok_ix (do_v (de_v (pv 0))) (do_v (de_int)))) (da_c (do_v (de_int)) (da_c (do_v (de_gc (by rfl) T.gc_MOST_AMOUNT)) (da_n)))))))))) (dss_one (ds_ret (de_bl))) (dss_nil))
    (dss_one (ds_ret (de_callB (cr_all rfl) ok_all (by rfl) T.z_all (by decide +kernel) (da_c (do_v (de_n (dn_lc (own := [("target", 4)]) rfl nd (di_tup (de_sl (do_v (de_v (pv 0))) (db_s (de_call G_targets_at (hr.mono (by decide)) (by rfl) T.g_targets_at D_targets_at.kp D_targets_at.bd .nil (fun _ => .nil) pass0 (da_c (do_v (de_v (pv 3))) (da_n)))) (db_n))) (blkOk_by (own := [("target", 4)]) (N := N_is_row) (sc := defScope s_is_row) (by decide +kernel)) (fun _ _ _ _ _ g => dg_n nd rfl (by first | exact Or.inl rfl | exact Or.inr rfl)) (fun _ _ _ _ _ g => dts_nil) (fun _ _ _ _ _ g => de_call G_is_integer (hr.mono (by decide)) (by rfl) T.g_is_integer D_is_integer.kp D_is_integer.bd .nil (fun _ => .nil) pass0 (da_c (do_v (de_v (pv 4))) (da_c (do_v (de_bin or_add ok_add (do_v (de_v (pv 1))) (do_v (de_int)))) (da_c (do_v (de_bin op_sub ok_sub (do_v (de_v (pv 2))) (do_v (de_int)))) (da_n))))) (by decide)))) (da_n))))))))

theorem ok_c_BadProgram_init (T : Txt K w mg) {fd : FuncData} (W : Fd K "__init__" "BadProgram.__init__" s_c_BadProgram_init [] (He.ma K (He.ga K "BadProgram") "__init__") fd) :
    FnOk P w K mg base CX0 1 (He.ma K (He.ga K "BadProgram") "__init__") fd ["self", "index"] (spEI (He.ga K "BadProgram") "index") := by
  refine okEI (k := 0) T.ox_BadProgram T.nf_BadProgram_index W sc_c_BadProgram_init (fun cdv A outer s H E => ?_)
  exact pss_one (ps_ost (pv 0) (pv 1))

theorem ok_c_Program_init (T : Txt K w mg) {fd : FuncData} (W : Fd K "__init__" "Program.__init__" s_c_Program_init [] (He.ma K (He.ga K "Program") "__init__") fd)
    {fd_c_BadProgram_init : FuncData} (D_c_BadProgram_init : DoneI P w K mg base 1 (He.ma K (He.ga K "BadProgram") "__init__") ["self", "index"] (He.ga K "BadProgram") "index" fd_c_BadProgram_init)
    {fd_is_row : FuncData} (D_is_row : Done P w K mg base 2 (He.ga K "is_row") ["value", "index", "many"] (f_is_row) [] fd_is_row) :
    FnOk P w K mg base (L2.CX P w) 3 (He.ma K (He.ga K "Program") "__init__") fd ["self", "rows"] (spX K (f_c_Program_init (He.ga K "BadProgram") (He.ga K "Program"))) := by
  have G_c_BadProgram_init := D_c_BadProgram_init.ok
  have G_is_row := D_is_row.ok
  refine okDX (k := 2) W sc_c_Program_init (by decide) (fun cdv A outer s H E g hr => ?_)
  have nd := sc_c_Program_init.nd
  have hu := hr.units
  exact dssX_cons (dsX_if (dt_w (dw_or (dt_not (dt_v (de_callB call_isiT (ok_isiT (fun C h => nomatch h)) (by rfl) T.z_isinstance (by decide +kernel) (da_c (do_v (de_v (pv 1))) (da_c (do_v (de_tup (da_c (do_v (de_bty (pe_bltn (by rfl) T.z_list (by decide +kernel) rfl))) (da_c (do_v (de_bty (pe_bltn (by rfl) T.z_tuple (by decide +kernel) rfl))) (da_n))) (la_c (la_c (la_n))))) (da_n)))))) (dw_or1 (dt_not (dt_chain ok_le ok_le (pt_chain op_le op_le (do_v (de_int)) (do_v (de_callB call_len ok_len (by rfl) T.z_len (by decide +kernel) (da_c (do_v (de_v (pv 1))) (da_n)))) (do_v (de_gc (by rfl) T.gc_MOST_ROWS)))))))) (dssX_one (dsX_raise rfl T.ox_BadProgram T.m_c_BadProgram_init T.ty_c_BadProgram_init G_c_BadProgram_init (hr.mono (by decide)) D_c_BadProgram_init.bd (by rfl) T.g_BadProgram (de_un un_neg ok_neg (do_v (de_int))))) (dssX_l dss_nil))
    (dssX_cons (dsX_for (L2.passes_of rfl) rfl (di_enumA (by rfl) T.z_enumerate (da_c (do_v (de_v (pv 1))) (da_n))) (dg_tup rfl (dgs_cons (dg_n nd rfl (by first | exact Or.inl rfl | exact Or.inr rfl)) (dgs_cons (dg_n nd rfl (by first | exact Or.inl rfl | exact Or.inr rfl)) (dgs_nil)))) (dssX_one (dsX_if (dt_not (dt_v (de_call G_is_row (hr.mono (by decide)) (by rfl) T.g_is_row D_is_row.kp D_is_row.bd .nil (fun _ => .nil) pass0 (da_c (do_v (de_v (pv 3))) (da_c (do_v (de_v (pv 2))) (da_c (do_v (de_callB call_len ok_len (by rfl) T.z_len (by decide +kernel) (da_c (do_v (de_v (pv 1))) (da_n)))) (da_n))))))) (dssX_one (dsX_raise rfl T.ox_BadProgram T.m_c_BadProgram_init T.ty_c_BadProgram_init G_c_BadProgram_init (hr.mono (by decide)) D_c_BadProgram_init.bd (by rfl) T.g_BadProgram (de_v (pv 2)))) (dssX_l dss_nil))))
    (dssX_cons (dsX_if (dt_cmp op_notIn_seq ok_in (do_v (de_ix ix_seq ok_ix (do_v (de_ix ix_seq ok_ix (do_v (de_v (pv 1))) (do_v (de_un un_neg ok_neg (do_v (de_int)))))) (do_v (de_int)))) (do_v (de_gc (by rfl) T.gc_VERDICTS))) (dssX_one (dsX_raise rfl T.ox_BadProgram T.m_c_BadProgram_init T.ty_c_BadProgram_init G_c_BadProgram_init (hr.mono (by decide)) D_c_BadProgram_init.bd (by rfl) T.g_BadProgram (de_callB call_len ok_len (by rfl) T.z_len (by decide +kernel) (da_c (do_v (de_v (pv 1))) (da_n))))) (dssX_l dss_nil))
    (dssX_one (dsX_l (ds_fld T.cl_Program T.n_Program_listed (ps_fld (pv 0) (de_callTy call_tuple_of ok_tuple (by rfl) T.z_tuple (by decide +kernel) (da_c (do_v (de_v (pv 1))) (da_n))) rfl))))))

theorem ok_w_told (T : Txt K w mg) {fd : FuncData} (W : Fd K "_law_told" "_law_told" s_w_told [] (He.ga K "_law_told") fd)
    {fd_c_Program_init : FuncData} (D_c_Program_init : DoneX P w K mg base 3 (He.ma K (He.ga K "Program") "__init__") ["self", "rows"] (f_c_Program_init (He.ga K "BadProgram") (He.ga K "Program")) [] fd_c_Program_init) :
    FnOk P w K mg base CX0 5 (He.ga K "_law_told") fd ["_law_value"] (spF K (f_w_told (He.ga K "BadProgram") (He.ga K "Program"))) := by
  have G_c_Program_init := D_c_Program_init.ok
  refine okD (k := 4) W sc_w_told (by decide) (fun cdv A outer s H E g hr => ?_)
  have nd := sc_w_told.nd
  have hu := hr.units
  exact dss_cons (ds_tryRet (fe := fun a y => eIf (tAn (tV (eXk 1 a (.bl true))) (tNt (tV (eXk 1 a (.bl false))))) (eXk 1 a y) (eC (.str "other"))) rfl rfl nd (i := 1) rfl rfl ⟨by rfl, by decide, .inl T.g_BadProgram⟩ T.em_BadProgram (fun pn xe hp => dssX_one (dsX_ex (dx_make T.mk_Program G_c_Program_init (hr.mono (by decide)) (by rfl) T.g_Program D_c_Program_init.bd .nil (fun _ => .nil) (da_c (do_v (de_v (pv 0))) (da_n))))) (fun a oe pn F1 v dd y hz hfl rr => de_if (dt_w (dw_and (dt_v (de_isX1 (c := .ty "ValueError") (cv := .type "ValueError") T.ec_BadProgram hz hfl (by rfl) T.z_isinstance (pv 1) (pe_bltn (by rfl) T.z_ValueError (by decide +kernel) rfl) (fun u r => r) T.ki_BadProgram_ValueError)) (dw_and1 (dt_not (dt_v (de_isXT (Bs := [(He.ga K "BadText"), (He.ga K "BadLine")]) T.ec_BadProgram hz hfl (by rfl) T.z_isinstance (pv 1) (de_tup (da_c (do_v (de_cls (pe_glob (by rfl) T.g_BadText rfl))) (da_c (do_v (de_cls (pe_glob (by rfl) T.g_BadLine rfl))) (da_n))) (la_c (la_c (la_n)))) (fun _ => rfl) T.ka_BadProgram_BadText_BadLine)))))) (de_xf T.xf_BadProgram T.nf_BadProgram_index hz hfl rr (pv 1)) (de_str)) (fun a y r ρ h e => by cases e; simp [eIf, tAn, tOr', tNt, tV, eC, eXk_at h]))
    (dss_one (ds_ret (de_non)))

theorem ok_w_is_number (T : Txt K w mg) {fd : FuncData} (W : Fd K "_law_is_number" "_law_is_number" s_w_is_number [] (He.ga K "_law_is_number") fd) :
    FnOk P w K mg base CX0 1 (He.ga K "_law_is_number") fd ["_law_value", "_law_least", "_law_most"] (spF K (f_w_is_number)) := by
  refine okD (k := 0) W sc_w_is_number (by decide) (fun cdv A outer s H E g hr => ?_)
  have nd := sc_w_is_number.nd
  have hu := hr.units
  exact dss_one (ds_ret (de_and (de_callB call_isi (ok_isi (fun C h => nomatch h)) (by rfl) T.z_isinstance (by decide +kernel) (da_c (do_v (de_v (pv 0))) (da_c (do_v (de_bty (pe_bltn (by rfl) T.z_int (by decide +kernel) rfl))) (da_n)))) (de_and (de_not (de_callB call_isi (ok_isi (fun C h => nomatch h)) (by rfl) T.z_isinstance (by decide +kernel) (da_c (do_v (de_v (pv 0))) (da_c (do_v (de_bty (pe_bltn (by rfl) T.z_bool (by decide +kernel) rfl))) (da_n))))) (de_one (de_chain ok_le ok_le (pe_chain op_le op_le (do_v (de_v (pv 1))) (do_v (de_v (pv 0))) (do_v (de_v (pv 2)))))))))

theorem ok_w_is_row (T : Txt K w mg) {fd : FuncData} (W : Fd K "_law_is_row" "_law_is_row" s_w_is_row [] (He.ga K "_law_is_row") fd)
    {fd_w_is_number : FuncData} (D_w_is_number : Done P w K mg base 1 (He.ga K "_law_is_number") ["_law_value", "_law_least", "_law_most"] (f_w_is_number) [] fd_w_is_number) :
    FnOk P w K mg base CX0 2 (He.ga K "_law_is_row") fd ["_law_row", "_law_at", "_law_many"] (spF K (f_w_is_row)) := by
  have G_w_is_number := D_w_is_number.ok
  refine okD (k := 1) W sc_w_is_row (by decide) (fun cdv A outer s H E g hr => ?_)
  have nd := sc_w_is_row.nd
  have hu := hr.units
  exact dss_cons (ds_set nd rfl (by first | exact Or.inl rfl | exact Or.inr rfl) (de_n (dn_dsp (pps_cons (pex fun g => de_str) (pex fun g => de_int) (pps_cons (pex fun g => de_str) (pex fun g => de_int) (pps_cons (pex fun g => de_str) (pex fun g => de_int) (pps_cons (pex fun g => de_str) (pex fun g => de_int) (pps_cons (pex fun g => de_str) (pex fun g => de_int) (pps_cons (pex fun g => de_str) (pex fun g => de_int) (pps_cons (pex fun g => de_str) (pex fun g => de_int) (pps_cons (pex fun g => de_str) (pex fun g => de_int) (pps_nil))))))))) (by rfl) (by rfl) (fun z => by cases z) (by decide) (by decide))))
    (dss_cons (ds_if (dt_w (dw_or (dt_not (dt_v (de_callB call_isi (ok_isi (fun C h => nomatch h)) (by rfl) T.z_isinstance (by decide +kernel) (da_c (do_v (de_v (pv 0))) (da_c (do_v (de_bty (pe_bltn (by rfl) T.z_tuple (by decide +kernel) rfl))) (da_n)))))) (dw_or (dt_cmp (op_eqD hu) ok_eq (do_v (de_callB call_len ok_len (by rfl) T.z_len (by decide +kernel) (da_c (do_v (de_v (pv 0))) (da_n)))) (do_v (de_int)) (nomark _)) (dw_or (dt_not (dt_v (de_callB call_isi (ok_isi (fun C h => nomatch h)) (by rfl) T.z_isinstance (by decide +kernel) (da_c (do_v (de_ix ix_seq ok_ix (do_v (de_v (pv 0))) (do_v (de_int)))) (da_c (do_v (de_bty (pe_bltn (by rfl) T.z_str (by decide +kernel) rfl))) (da_n)))))) (dw_or1 (dt_dnotin (pt_cmp (pc_dnotin (hu_of hr) (do_v (de_ix ix_seq ok_ix (do_v (de_v (pv 0))) (do_v (de_int)))) (do_v (de_v (pv 3)))) rfl))))))) (dss_one (ds_ret (de_bl))) (dss_nil))
    (dss_cons (ds_if (dt_w (dw_or (dt_cmp (op_neD hu) ok_ne (do_v (de_callB call_len ok_len (by rfl) T.z_len (by decide +kernel) (da_c (do_v (de_v (pv 0))) (da_n)))) (do_v (de_dget (pe_dget (hu_of hr) (do_v (de_v (pv 3))) (do_v (de_ix ix_seq ok_ix (do_v (de_v (pv 0))) (do_v (de_int)))) (fun _ _ => rfl)))) (nomark _)) (dw_or1 (dt_w (dw_and (dt_cmp op_in_seq ok_in (do_v (de_ix ix_seq ok_ix (do_v (de_v (pv 0))) (do_v (de_int)))) (do_v (de_tup (da_c (do_v (de_str)) (da_c (do_v (de_str)) (da_n))) (la_c (la_c (la_n)))))) (dw_and1 (dt_not (dt_v (de_call G_w_is_number (hr.mono (by decide)) (by rfl) T.g_w_is_number D_w_is_number.kp D_w_is_number.bd .nil (fun _ => .nil) pass0 (da_c (do_v (de_ix ix_seq ok_ix (do_v (de_v (pv 0))) (do_v (de_int)))) (da_c (do_v (de_int)) (da_c (do_v (de_bin op_powW ok_pow (do_v (de_int)) (do_v (de_int)))) (da_n))))))))))))) (dss_one (ds_ret (de_bl))) (dss_nil))
    (dss_cons (ds_set nd rfl (by first | exact Or.inl rfl | exact Or.inr rfl) (de_if (dt_cmp (op_eqD hu) ok_eq (do_v (de_ix ix_seq ok_ix (do_v (de_v (pv 0))) (do_v (de_int)))) (do_v (de_str)) (nomark _)) (de_int) (de_int)))
    (dss_one (ds_ret (de_cmp op_notIn_seq ok_in (do_v (de_bl)) (do_v (de_n (dn_lc (own := [("_law_target", 5)]) rfl nd (di_tup (de_sl (do_v (de_v (pv 0))) (db_s (de_v (pv 4))) (db_n))) (blkOk_by (own := [("_law_target", 5)]) (N := N_w_is_row) (sc := defScope s_w_is_row) (by decide +kernel)) (fun _ _ _ _ _ g => dg_n nd rfl (by first | exact Or.inl rfl | exact Or.inr rfl)) (fun _ _ _ _ _ g => dts_nil) (fun _ _ _ _ _ g => de_call G_w_is_number (hr.mono (by decide)) (by rfl) T.g_w_is_number D_w_is_number.kp D_w_is_number.bd .nil (fun _ => .nil) pass0 (da_c (do_v (de_v (pv 5))) (da_c (do_v (de_bin or_add ok_add (do_v (de_v (pv 1))) (do_v (de_int)))) (da_c (do_v (de_bin op_sub ok_sub (do_v (de_v (pv 2))) (do_v (de_int)))) (da_n))))) (by decide))))))))))

theorem ok_w_due (T : Txt K w mg) {fd : FuncData} (W : Fd K "_law_due" "_law_due" s_w_due [] (He.ga K "_law_due") fd)
    {fd_w_is_row : FuncData} (D_w_is_row : Done P w K mg base 2 (He.ga K "_law_is_row") ["_law_row", "_law_at", "_law_many"] (f_w_is_row) [] fd_w_is_row) :
    FnOk P w K mg base CX0 3 (He.ga K "_law_due") fd ["_law_value"] (spF K (f_w_due)) := by
  have G_w_is_row := D_w_is_row.ok
  refine okD (k := 2) W sc_w_due (by decide) (fun cdv A outer s H E g hr => ?_)
  have nd := sc_w_due.nd
  have hu := hr.units
  exact dss_cons (ds_if (dt_w (dw_or (dt_not (dt_v (de_callB call_isiT (ok_isiT (fun C h => nomatch h)) (by rfl) T.z_isinstance (by decide +kernel) (da_c (do_v (de_v (pv 0))) (da_c (do_v (de_tup (da_c (do_v (de_bty (pe_bltn (by rfl) T.z_list (by decide +kernel) rfl))) (da_c (do_v (de_bty (pe_bltn (by rfl) T.z_tuple (by decide +kernel) rfl))) (da_n))) (la_c (la_c (la_n))))) (da_n)))))) (dw_or1 (dt_not (dt_chain ok_le ok_le (pt_chain op_le op_le (do_v (de_int)) (do_v (de_callB call_len ok_len (by rfl) T.z_len (by decide +kernel) (da_c (do_v (de_v (pv 0))) (da_n)))) (do_v (de_int)))))))) (dss_one (ds_ret (de_un un_neg ok_neg (do_v (de_int))))) (dss_nil))
    (dss_cons (ds_setLc (own := [("_law_at", 2)]) rfl nd rfl rfl (sw_true rfl rfl rfl (by decide +kernel)) (di_r1 (by rfl) T.z_range (da_c (do_v (de_callB call_len ok_len (by rfl) T.z_len (by decide +kernel) (da_c (do_v (de_v (pv 0))) (da_n)))) (da_n))) (blkOk_by (own := [("_law_at", 2)]) (N := N_w_due) (sc := defScope s_w_due) (by decide +kernel)) (fun _ _ _ _ _ g => dg_n nd rfl (by first | exact Or.inl rfl | exact Or.inr rfl)) (fun _ _ _ _ _ g => dts_one (dt_not (dt_v (de_call G_w_is_row (hr.mono (by decide)) (by rfl) T.g_w_is_row D_w_is_row.kp D_w_is_row.bd .nil (fun _ => .nil) pass0 (da_c (do_v (de_ix ix_seq ok_ix (do_v (de_v (pv 0))) (do_v (de_v (pv 2))))) (da_c (do_v (de_v (pv 2))) (da_c (do_v (de_callB call_len ok_len (by rfl) T.z_len (by decide +kernel) (da_c (do_v (de_v (pv 0))) (da_n)))) (da_n)))))))) (fun _ _ _ _ _ g => de_v (pv 2)) (by decide))
    (dss_cons (ds_if (dt_cmp (op_neD hu) ok_ne (do_v (de_v (pv 1))) (do_v (de_n (dn_lst (da_n) (la_n)))) (nomark _)) (dss_one (ds_ret (de_ix ix_seq ok_ix (do_v (de_v (pv 1))) (do_v (de_int))))) (dss_nil))
    (dss_one (ds_ret (de_if (dt_cmp op_in_seq ok_in (do_v (de_ix ix_seq ok_ix (do_v (de_ix ix_seq ok_ix (do_v (de_v (pv 0))) (do_v (de_bin op_sub ok_sub (do_v (de_callB call_len ok_len (by rfl) T.z_len (by decide +kernel) (da_c (do_v (de_v (pv 0))) (da_n)))) (do_v (de_int)))))) (do_v (de_int)))) (do_v (de_tup (da_c (do_v (de_str)) (da_c (do_v (de_str)) (da_n))) (la_c (la_c (la_n)))))) (de_non) (de_callB call_len ok_len (by rfl) T.z_len (by decide +kernel) (da_c (do_v (de_v (pv 0))) (da_n))))))))

theorem ok_law (T : Txt K w mg) {fd : FuncData} (W : Fd K "law" "law" s_law [] (He.ga K "law") fd)
    {fd_w_source : FuncData} (D_w_source : Done P w K mg base 1 (He.ga K "_law_source") ["_law_script", "_law_at"] (f_w_source) [] fd_w_source)
    {fd_w_rows : FuncData} (D_w_rows : Done P w K mg base 2 (He.ga K "_law_rows") ["_law_source_here", "_law_many", "_law_most"] (f_w_rows) [] fd_w_rows)
    {fd_w_draw : FuncData} (D_w_draw : Done P w K mg base 1 (He.ga K "_law_draw") ["_law_source_here", "_law_many"] (f_w_draw) [] fd_w_draw)
    {fd_w_spoiled : FuncData} (D_w_spoiled : Done P w K mg base 2 (He.ga K "_law_spoiled") ["_law_source_here", "_law_rows_here"] (f_w_spoiled) [] fd_w_spoiled)
    {fd_w_told : FuncData} (D_w_told : Done P w K mg base 5 (He.ga K "_law_told") ["_law_value"] (f_w_told (He.ga K "BadProgram") (He.ga K "Program")) [] fd_w_told)
    {fd_w_due : FuncData} (D_w_due : Done P w K mg base 3 (He.ga K "_law_due") ["_law_value"] (f_w_due) [] fd_w_due) :
    FnG P w K mg base CX0 6 (He.ga K "law") fd ["_law_script"] (spF K (f_law (He.ga K "BadProgram") (He.ga K "Program"))) := by
  have G_w_source := D_w_source.ok
  have G_w_rows := D_w_rows.ok
  have G_w_draw := D_w_draw.ok
  have G_w_spoiled := D_w_spoiled.ok
  have G_w_told := D_w_told.ok
  have G_w_due := D_w_due.ok
  refine okDG (k := 5) W sc_law (by decide) (fun cdv A outer s H E g hgd hr => ?_)
  have nd := sc_law.nd
  have hu := hr.units
  exact dss_cons (ds_for PassesOwn.never rfl (di_r1 (by rfl) T.z_range (da_c (do_v (de_callB (call_max2 rfl) ok_max2 (by rfl) T.z_max (by decide +kernel) (da_c (do_v (de_int)) (da_c (do_v (de_callB (call_min2 rfl) ok_min2 (by rfl) T.z_min (by decide +kernel) (da_c (do_v (de_int)) (da_c (do_v (de_callB call_len ok_len (by rfl) T.z_len (by decide +kernel) (da_c (do_v (de_v (pv 0))) (da_n)))) (da_n))))) (da_n))))) (da_n))) (dg_n nd rfl (by first | exact Or.inl rfl | exact Or.inr rfl)) (dss_cons (ds_own nd rfl (by first | exact Or.inl rfl | exact Or.inr rfl) (dn_call G_w_source (hr.mono (by decide)) (by rfl) T.g_w_source D_w_source.kp D_w_source.bd .nil (fun _ => .nil) pass0 (da_c (do_v (de_v (pv 0))) (da_c (do_v (de_v (pv 1))) (da_n)))))
    (dss_cons (ds_for PassesOwn.never rfl (di_r1 (by rfl) T.z_range (da_c (do_v (de_int)) (da_n))) (dg_n nd rfl (by first | exact Or.inl rfl | exact Or.inr rfl)) (dss_cons (ds_set nd rfl (by first | exact Or.inl rfl | exact Or.inr rfl) (de_call G_w_rows (hr.mono (by decide)) (by rfl) T.g_w_rows D_w_rows.kp D_w_rows.bd .nil (fun _ => .nil) pass0 (da_c (do_i (pv 2)) (da_c (do_v (de_ix ix_seq ok_ix (do_v (de_n (dn_lst (da_c (do_v (de_int)) (da_c (do_v (de_int)) (da_n))) (la_c (la_c (la_n)))))) (do_v (de_call G_w_draw (hr.mono (by decide)) (by rfl) T.g_w_draw D_w_draw.kp D_w_draw.bd .nil (fun _ => .nil) pass0 (da_c (do_i (pv 2)) (da_c (do_v (de_int)) (da_n))))))) (da_c (do_v (de_ix ix_seq ok_ix (do_v (de_n (dn_lst (da_c (do_v (de_int)) (da_c (do_v (de_bin op_powW ok_pow (do_v (de_int)) (do_v (de_int)))) (da_n))) (la_c (la_c (la_n)))))) (do_v (de_call G_w_draw (hr.mono (by decide)) (by rfl) T.g_w_draw D_w_draw.kp D_w_draw.bd .nil (fun _ => .nil) pass0 (da_c (do_i (pv 2)) (da_c (do_v (de_int)) (da_n))))))) (da_n))))))
    (dss_cons (ds_for PassesOwn.never rfl (di_r1 (by rfl) T.z_range (da_c (do_v (de_call G_w_draw (hr.mono (by decide)) (by rfl) T.g_w_draw D_w_draw.kp D_w_draw.bd .nil (fun _ => .nil) pass0 (da_c (do_i (pv 2)) (da_c (do_v (de_int)) (da_n))))) (da_n))) (dg_n nd rfl (by first | exact Or.inl rfl | exact Or.inr rfl)) (dss_one (ds_set nd rfl (by first | exact Or.inl rfl | exact Or.inr rfl) (de_call G_w_spoiled (hr.mono (by decide)) (by rfl) T.g_w_spoiled D_w_spoiled.kp D_w_spoiled.bd .nil (fun _ => .nil) pass0 (da_c (do_i (pv 2)) (da_c (do_v (de_v (pv 4))) (da_n)))))))
    (dss_cons (ds_if (dt_cmp (op_eqD hu) ok_eq (do_v (de_call G_w_draw (hr.mono (by decide)) (by rfl) T.g_w_draw D_w_draw.kp D_w_draw.bd .nil (fun _ => .nil) pass0 (da_c (do_i (pv 2)) (da_c (do_v (de_int)) (da_n))))) (do_v (de_int)) (nomark _)) (dss_one (ds_set nd rfl (by first | exact Or.inl rfl | exact Or.inr rfl) (de_bin or_add ok_add (do_v (de_v (pv 4))) (do_v (de_sl (do_v (de_n (dn_lst (da_c (do_v (de_tup (da_c (do_v (de_str)) (da_n)) (la_c (la_n)))) (da_c (do_v (de_tup (da_c (do_v (de_str)) (da_n)) (la_c (la_n)))) (da_c (do_v (de_tup (da_c (do_v (de_str)) (da_c (do_v (de_int)) (da_c (do_v (de_callB call_len ok_len (by rfl) T.z_len (by decide +kernel) (da_c (do_v (de_v (pv 4))) (da_n)))) (da_c (do_v (de_callB call_len ok_len (by rfl) T.z_len (by decide +kernel) (da_c (do_v (de_v (pv 4))) (da_n)))) (da_n))))) (la_c (la_c (la_c (la_c (la_n))))))) (da_n)))) (la_c (la_c (la_c (la_n))))))) (db_n) (db_s (de_bin or_add ok_add (do_v (de_int)) (do_v (de_call G_w_draw (hr.mono (by decide)) (by rfl) T.g_w_draw D_w_draw.kp D_w_draw.bd .nil (fun _ => .nil) pass0 (da_c (do_i (pv 2)) (da_c (do_v (de_int)) (da_n)))))))))))) (dss_nil))
    (dss_cons (ds_set nd rfl (by first | exact Or.inl rfl | exact Or.inr rfl) (de_ix ix_seq ok_ix (do_v (de_n (dn_lst (da_c (do_v (de_v (pv 4))) (da_c (do_v (de_callTy call_tuple_of ok_tuple (by rfl) T.z_tuple (by decide +kernel) (da_c (do_v (de_v (pv 4))) (da_n)))) (da_n))) (la_c (la_c (la_n)))))) (do_v (de_call G_w_draw (hr.mono (by decide)) (by rfl) T.g_w_draw D_w_draw.kp D_w_draw.bd .nil (fun _ => .nil) pass0 (da_c (do_i (pv 2)) (da_c (do_v (de_int)) (da_n)))))))
    (dss_cons (ds_set nd rfl (by first | exact Or.inl rfl | exact Or.inr rfl) (de_callB (call_repr hgd hu) ok_repr (by rfl) T.z_repr (by decide +kernel) (da_c (do_v (de_v (pv 6))) (da_n))))
    (dss_one (ds_if (dt_w (dw_or (dt_cmp (op_neD hu) ok_ne (do_v (de_callB (call_repr hgd hu) ok_repr (by rfl) T.z_repr (by decide +kernel) (da_c (do_v (de_call G_w_told (hr.mono (by decide)) (by rfl) T.g_w_told D_w_told.kp D_w_told.bd .nil (fun _ => .nil) pass0 (da_c (do_v (de_v (pv 6))) (da_n)))) (da_n)))) (do_v (de_callB (call_repr hgd hu) ok_repr (by rfl) T.z_repr (by decide +kernel) (da_c (do_v (de_call G_w_due (hr.mono (by decide)) (by rfl) T.g_w_due D_w_due.kp D_w_due.bd .nil (fun _ => .nil) pass0 (da_c (do_v (de_v (pv 6))) (da_n)))) (da_n)))) (nomark _)) (dw_or1 (dt_cmp (op_neD hu) ok_ne (do_v (de_callB (call_repr hgd hu) ok_repr (by rfl) T.z_repr (by decide +kernel) (da_c (do_v (de_v (pv 6))) (da_n)))) (do_v (de_v (pv 7))) (nomark _))))) (dss_one (ds_ret (de_bl))) (dss_nil)))))))))
    (dss_cons (ds_set nd rfl (by first | exact Or.inl rfl | exact Or.inr rfl) (de_bin or_add ok_add (do_v (de_int)) (do_v (de_call G_w_draw (hr.mono (by decide)) (by rfl) T.g_w_draw D_w_draw.kp D_w_draw.bd .nil (fun _ => .nil) pass0 (da_c (do_i (pv 2)) (da_c (do_v (de_int)) (da_n)))))))
    (dss_cons (ds_if (dt_cmp (op_neD hu) ok_ne (do_v (de_callB (call_repr hgd hu) ok_repr (by rfl) T.z_repr (by decide +kernel) (da_c (do_v (de_call G_w_told (hr.mono (by decide)) (by rfl) T.g_w_told D_w_told.kp D_w_told.bd .nil (fun _ => .nil) pass0 (da_c (do_v (de_bin or_add ok_add (do_v (de_bin op_rep ok_rep (do_v (de_n (dn_lst (da_c (do_v (de_tup (da_c (do_v (de_str)) (da_n)) (la_c (la_n)))) (da_n)) (la_c (la_n))))) (do_v (de_v (pv 8))))) (do_v (de_n (dn_lst (da_c (do_v (de_tup (da_c (do_v (de_str)) (da_n)) (la_c (la_n)))) (da_n)) (la_c (la_n))))))) (da_n)))) (da_n)))) (do_v (de_callB (call_repr hgd hu) ok_repr (by rfl) T.z_repr (by decide +kernel) (da_c (do_v (de_ix ix_seq ok_ix (do_v (de_n (dn_lst (da_c (do_v (de_non)) (da_c (do_v (de_un un_neg ok_neg (do_v (de_int)))) (da_n))) (la_c (la_c (la_n)))))) (do_v (de_callTy call_int1 ok_int (by rfl) T.z_int (by decide +kernel) (da_c (do_v (de_cmp op_gt ok_gt (do_v (de_v (pv 8))) (do_v (de_int)) (nomark _))) (da_n)))))) (da_n)))) (nomark _)) (dss_one (ds_ret (de_bl))) (dss_nil))
    (dss_cons (ds_set nd rfl (by first | exact Or.inl rfl | exact Or.inr rfl) (de_ix ix_seq ok_ix (do_v (de_n (dn_lst (da_c (do_v (de_n (dn_lst (da_n) (la_n)))) (da_c (do_v (de_tup (da_n) (la_n))) (da_c (do_v (de_non)) (da_c (do_v (de_int)) (da_c (do_v (de_str)) (da_c (do_v (de_bl)) (da_c (do_v (de_tup (da_c (do_v (de_str)) (da_n)) (la_c (la_n)))) (da_c (do_v (de_n (dn_lst (da_c (do_v (de_tup (da_c (do_v (de_str)) (da_n)) (la_c (la_n)))) (da_c (do_v (de_n (dn_lst (da_n) (la_n)))) (da_n))) (la_c (la_c (la_n)))))) (da_c (do_v (de_n (dn_lst (da_c (do_v (de_n (dn_lst (da_c (do_v (de_str)) (da_n)) (la_c (la_n))))) (da_n)) (la_c (la_n))))) (da_n)))))))))) (la_c (la_c (la_c (la_c (la_c (la_c (la_c (la_c (la_c (la_n))))))))))))) (do_v (de_call G_w_draw (hr.mono (by decide)) (by rfl) T.g_w_draw D_w_draw.kp D_w_draw.bd .nil (fun _ => .nil) pass0 (da_c (do_i (pv 2)) (da_c (do_v (de_int)) (da_n)))))))
    (dss_one (ds_if (dt_cmp (op_neD hu) ok_ne (do_v (de_callB (call_repr hgd hu) ok_repr (by rfl) T.z_repr (by decide +kernel) (da_c (do_v (de_call G_w_told (hr.mono (by decide)) (by rfl) T.g_w_told D_w_told.kp D_w_told.bd .nil (fun _ => .nil) pass0 (da_c (do_v (de_v (pv 9))) (da_n)))) (da_n)))) (do_v (de_callB (call_repr hgd hu) ok_repr (by rfl) T.z_repr (by decide +kernel) (da_c (do_v (de_call G_w_due (hr.mono (by decide)) (by rfl) T.g_w_due D_w_due.kp D_w_due.bd .nil (fun _ => .nil) pass0 (da_c (do_v (de_v (pv 9))) (da_n)))) (da_n)))) (nomark _)) (dss_one (ds_ret (de_bl))) (dss_nil)))))))))
    (dss_one (ds_ret (de_bl)))

end
def faL : List He.Fa := [.free "len", .free "abs", .free "int", .glo "_law_draw", .free "range", .free "isinstance", .free "tuple", .free "str", .free "list", .free "bool", .glo "is_integer", .free "all", .glo "targets_at", .meth "BadProgram" "__init__", .glo "BadProgram", .free "enumerate", .glo "is_row", .cls "Program", .noat "Program" "listed", .mkr "Program", .glo "Program", .free "ValueError", .glo "BadText", .glo "BadLine", .glo "_law_is_number", .glo "_law_is_row", .free "max", .free "min", .glo "_law_source", .glo "_law_rows", .glo "_law_spoiled", .free "repr", .glo "_law_told", .glo "_law_due", .glo "law", .glo "SIZES"]
def fxL : List Fx := [.bool (gcB "WORDS" (.ktp [.str "write", .str "read", .str "drain", .str "stop", .str "close", .str "abort", .str "done", .str "fail"])), .bool (ktB "SIZES" [("write", .int 3), ("read", .int 4), ("drain", .int 2)]), .bool (gcB "MOST_AMOUNT" (.int 1000000000000000000)), .bool (oexB "BadProgram"), .bool (fun K => decide (PySem.W.findIn K (.ref (He.ga K "BadProgram")) "index" = some none)), .bool (gcB "MOST_ROWS" (.int 24)), .bool (fun K => decide (PySem.W.typeIn K (.ref (He.ma K (He.ga K "BadProgram") "__init__")) = some (.type "function"))), .bool (gcB "VERDICTS" (.ktp [.str "done", .str "fail"])), .bool (fun K => decide (PySem.W.exmOne K (.ref (He.ga K "BadProgram")) (.ref (He.ga K "BadProgram")) = some true)), .bool (excCB "BadProgram"), .bool (fun K => decide (PySem.W.kitOne K (.ref (He.ga K "BadProgram")) (.type "ValueError") = some true)), .bool (fun K => decide (PySem.W.kitAny K (.ref (He.ga K "BadProgram")) ([He.ga K "BadText", He.ga K "BadLine"].map Value.ref) = some false)), .bool (fun K => xfB K (He.ga K "BadProgram"))]
def fnL : List Df := [⟨.glo "_law_source", "_law_source", "_law_source", s_w_source, [], []⟩,
  ⟨.glo "_law_draw", "_law_draw", "_law_draw", s_w_draw, [], []⟩,
  ⟨.glo "_law_rows", "_law_rows", "_law_rows", s_w_rows, [], []⟩,
  ⟨.glo "_law_spoiled", "_law_spoiled", "_law_spoiled", s_w_spoiled, [], []⟩,
  ⟨.glo "is_integer", "is_integer", "is_integer", s_is_integer, [], []⟩,
  ⟨.glo "targets_at", "targets_at", "targets_at", s_targets_at, [], []⟩,
  ⟨.glo "is_row", "is_row", "is_row", s_is_row, [], []⟩,
  ⟨.mth "BadProgram" "__init__", "__init__", "BadProgram.__init__", s_c_BadProgram_init, [], []⟩,
  ⟨.mth "Program" "__init__", "__init__", "Program.__init__", s_c_Program_init, [], []⟩,
  ⟨.glo "_law_told", "_law_told", "_law_told", s_w_told, [], []⟩,
  ⟨.glo "_law_is_number", "_law_is_number", "_law_is_number", s_w_is_number, [], []⟩,
  ⟨.glo "_law_is_row", "_law_is_row", "_law_is_row", s_w_is_row, [], []⟩,
  ⟨.glo "_law_due", "_law_due", "_law_due", s_w_due, [], []⟩,
  ⟨.glo "law", "law", "law", s_law, [], []⟩]
def tbL : List Tb := [("SIZES", ["write", "read", "drain"])]
theorem txt_of {K : PySem.W.Frag} {w : World} {h : Heap} {mg : Str → Option Value} (X : K.In h) (G : h.Ns mainGlobals mg) (c : SaysE faL fxL fnL tbL w K) : Txt K w mg :=
  ⟨He.free_ok X G (c.atA 0 (f := .free "len") rfl),
    He.free_ok X G (c.atA 1 (f := .free "abs") rfl),
    He.free_ok X G (c.atA 2 (f := .free "int") rfl),
    He.glo_ok X G (c.atA 3 (f := .glo "_law_draw") rfl),
    He.free_ok X G (c.atA 4 (f := .free "range") rfl),
    He.free_ok X G (c.atA 5 (f := .free "isinstance") rfl),
    He.free_ok X G (c.atA 6 (f := .free "tuple") rfl),
    He.free_ok X G (c.atA 7 (f := .free "str") rfl),
    He.free_ok X G (c.atA 8 (f := .free "list") rfl),
    He.free_ok X G (c.atA 9 (f := .free "bool") rfl),
    gcB_ok X G (c.atX 0 (f := .bool (gcB "WORDS" (.ktp [.str "write", .str "read", .str "drain", .str "stop", .str "close", .str "abort", .str "done", .str "fail"]))) rfl),
    ktab_of (He.glo_ok X G (c.atA 35 (f := .glo "SIZES") rfl)) (c.tab 0 rfl) (c.atX 1 (f := .bool (ktB "SIZES" [("write", .int 3), ("read", .int 4), ("drain", .int 2)])) rfl),
    He.glo_ok X G (c.atA 10 (f := .glo "is_integer") rfl),
    gcB_ok X G (c.atX 2 (f := .bool (gcB "MOST_AMOUNT" (.int 1000000000000000000))) rfl),
    He.free_ok X G (c.atA 11 (f := .free "all") rfl),
    He.glo_ok X G (c.atA 12 (f := .glo "targets_at") rfl),
    oexB_ok (c.atX 3 (f := .bool (oexB "BadProgram")) rfl),
    of_decide_eq_true (c.atX 4 (f := .bool (fun K => decide (PySem.W.findIn K (.ref (He.ga K "BadProgram")) "index" = some none))) rfl),
    gcB_ok X G (c.atX 5 (f := .bool (gcB "MOST_ROWS" (.int 24))) rfl),
    (He.meth_ok (c.atA 13 (f := .meth "BadProgram" "__init__") rfl)).at_,
    of_decide_eq_true (c.atX 6 (f := .bool (fun K => decide (PySem.W.typeIn K (.ref (He.ma K (He.ga K "BadProgram") "__init__")) = some (.type "function")))) rfl),
    He.glo_ok X G (c.atA 14 (f := .glo "BadProgram") rfl),
    He.free_ok X G (c.atA 15 (f := .free "enumerate") rfl),
    He.glo_ok X G (c.atA 16 (f := .glo "is_row") rfl),
    gcB_ok X G (c.atX 7 (f := .bool (gcB "VERDICTS" (.ktp [.str "done", .str "fail"]))) rfl),
    He.cls_ok (c.atA 17 (f := .cls "Program") rfl),
    He.noat_ok (c.atA 18 (f := .noat "Program" "listed") rfl),
    of_decide_eq_true (c.atX 8 (f := .bool (fun K => decide (PySem.W.exmOne K (.ref (He.ga K "BadProgram")) (.ref (He.ga K "BadProgram")) = some true))) rfl),
    He.mkr_ok (c.atA 19 (f := .mkr "Program") rfl),
    He.glo_ok X G (c.atA 20 (f := .glo "Program") rfl),
    excCB_ok (c.atX 9 (f := .bool (excCB "BadProgram")) rfl),
    He.free_ok X G (c.atA 21 (f := .free "ValueError") rfl),
    of_decide_eq_true (c.atX 10 (f := .bool (fun K => decide (PySem.W.kitOne K (.ref (He.ga K "BadProgram")) (.type "ValueError") = some true))) rfl),
    He.glo_ok X G (c.atA 22 (f := .glo "BadText") rfl),
    He.glo_ok X G (c.atA 23 (f := .glo "BadLine") rfl),
    of_decide_eq_true (c.atX 11 (f := .bool (fun K => decide (PySem.W.kitAny K (.ref (He.ga K "BadProgram")) ([He.ga K "BadText", He.ga K "BadLine"].map Value.ref) = some false))) rfl),
    xfB_ok (c.atX 12 (f := .bool (fun K => xfB K (He.ga K "BadProgram"))) rfl),
    He.glo_ok X G (c.atA 24 (f := .glo "_law_is_number") rfl),
    He.glo_ok X G (c.atA 25 (f := .glo "_law_is_row") rfl),
    He.free_ok X G (c.atA 26 (f := .free "max") rfl),
    He.free_ok X G (c.atA 27 (f := .free "min") rfl),
    He.glo_ok X G (c.atA 28 (f := .glo "_law_source") rfl),
    He.glo_ok X G (c.atA 29 (f := .glo "_law_rows") rfl),
    He.glo_ok X G (c.atA 30 (f := .glo "_law_spoiled") rfl),
    He.free_ok X G (c.atA 31 (f := .free "repr") rfl),
    He.glo_ok X G (c.atA 32 (f := .glo "_law_told") rfl),
    He.glo_ok X G (c.atA 33 (f := .glo "_law_due") rfl)⟩
theorem facts {P : Program} {w : World} {K : PySem.W.Frag} {h : Heap} {mg : Str → Option Value} {f : Addr} (X : K.In h) (G : h.Ns mainGlobals mg) (hfa : mg ("law" : Str) = some (.ref f)) (c : SaysE faL fxL fnL tbL w K) :
    ∃ fd : FuncData, (∀ (s : Shared) (v : Value), BindsTo s fd ⟨[v], []⟩ [("_law_script", v)]) ∧ ∀ base : Heap, K.In base → base.Ns mainGlobals mg → FnG P w K mg base CX0 6 f fd ["_law_script"] (spF K (f_law (He.ga K "BadProgram") (He.ga K "Program"))) := by
  obtain ⟨fd_w_source, W_w_source⟩ := c.atF 0 rfl
  obtain ⟨fd_w_draw, W_w_draw⟩ := c.atF 1 rfl
  obtain ⟨fd_w_rows, W_w_rows⟩ := c.atF 2 rfl
  obtain ⟨fd_w_spoiled, W_w_spoiled⟩ := c.atF 3 rfl
  obtain ⟨fd_is_integer, W_is_integer⟩ := c.atF 4 rfl
  obtain ⟨fd_targets_at, W_targets_at⟩ := c.atF 5 rfl
  obtain ⟨fd_is_row, W_is_row⟩ := c.atF 6 rfl
  obtain ⟨fd_c_BadProgram_init, W_c_BadProgram_init⟩ := c.atF 7 rfl
  obtain ⟨fd_c_Program_init, W_c_Program_init⟩ := c.atF 8 rfl
  obtain ⟨fd_w_told, W_w_told⟩ := c.atF 9 rfl
  obtain ⟨fd_w_is_number, W_w_is_number⟩ := c.atF 10 rfl
  obtain ⟨fd_w_is_row, W_w_is_row⟩ := c.atF 11 rfl
  obtain ⟨fd_w_due, W_w_due⟩ := c.atF 12 rfl
  obtain ⟨fd_law, W_law⟩ := c.atF 13 rfl
  have T := txt_of X G c
  have e := hfa.symm.trans (He.glo_ok X G (c.atA 34 (f := .glo "law") rfl))
  cases e
  have b := FunD.bindsA (ps := ["_law_script"]) W_law fun _ _ _ _ _ _ us hl => match us, hl with | [_], _ => rfl
  refine ⟨fd_law, fun s v => b s [v] rfl, fun base _ _ => ?_⟩
  have D_w_source : Done P w K mg base 1 (He.ga K "_law_source") ["_law_script", "_law_at"] (f_w_source) [] fd_w_source := ⟨ok_w_source T W_w_source, W_w_source.kp,
    (FunD.bindsN (ps := ["_law_script", "_law_at"]) W_w_source fun _ _ _ _ _ _ us hl => match us, hl with | [_, _], _ => rfl),
    ⟨[], .nil, FunD.bindsN (ps := ["_law_script", "_law_at"]) W_w_source fun _ _ _ _ _ _ us hl => match us, hl with | [_, _], _ => rfl⟩⟩
  have D_w_draw : Done P w K mg base 1 (He.ga K "_law_draw") ["_law_source_here", "_law_many"] (f_w_draw) [] fd_w_draw := ⟨ok_w_draw T W_w_draw, W_w_draw.kp,
    (FunD.bindsN (ps := ["_law_source_here", "_law_many"]) W_w_draw fun _ _ _ _ _ _ us hl => match us, hl with | [_, _], _ => rfl),
    ⟨[], .nil, FunD.bindsN (ps := ["_law_source_here", "_law_many"]) W_w_draw fun _ _ _ _ _ _ us hl => match us, hl with | [_, _], _ => rfl⟩⟩
  have D_w_rows : Done P w K mg base 2 (He.ga K "_law_rows") ["_law_source_here", "_law_many", "_law_most"] (f_w_rows) [] fd_w_rows := ⟨ok_w_rows T W_w_rows D_w_draw, W_w_rows.kp,
    (FunD.bindsN (ps := ["_law_source_here", "_law_many", "_law_most"]) W_w_rows fun _ _ _ _ _ _ us hl => match us, hl with | [_, _, _], _ => rfl),
    ⟨[], .nil, FunD.bindsN (ps := ["_law_source_here", "_law_many", "_law_most"]) W_w_rows fun _ _ _ _ _ _ us hl => match us, hl with | [_, _, _], _ => rfl⟩⟩
  have D_w_spoiled : Done P w K mg base 2 (He.ga K "_law_spoiled") ["_law_source_here", "_law_rows_here"] (f_w_spoiled) [] fd_w_spoiled := ⟨ok_w_spoiled T W_w_spoiled D_w_draw, W_w_spoiled.kp,
    (FunD.bindsN (ps := ["_law_source_here", "_law_rows_here"]) W_w_spoiled fun _ _ _ _ _ _ us hl => match us, hl with | [_, _], _ => rfl),
    ⟨[], .nil, FunD.bindsN (ps := ["_law_source_here", "_law_rows_here"]) W_w_spoiled fun _ _ _ _ _ _ us hl => match us, hl with | [_, _], _ => rfl⟩⟩
  have D_is_integer : Done P w K mg base 1 (He.ga K "is_integer") ["value", "least", "most"] (f_is_integer) [] fd_is_integer := ⟨ok_is_integer T W_is_integer, W_is_integer.kp,
    (FunD.bindsN (ps := ["value", "least", "most"]) W_is_integer fun _ _ _ _ _ _ us hl => match us, hl with | [_, _, _], _ => rfl),
    ⟨[], .nil, FunD.bindsN (ps := ["value", "least", "most"]) W_is_integer fun _ _ _ _ _ _ us hl => match us, hl with | [_, _, _], _ => rfl⟩⟩
  have D_targets_at : Done P w K mg base 1 (He.ga K "targets_at") ["word"] (f_targets_at) [] fd_targets_at := ⟨ok_targets_at T W_targets_at, W_targets_at.kp,
    (FunD.bindsN (ps := ["word"]) W_targets_at fun _ _ _ _ _ _ us hl => match us, hl with | [_], _ => rfl),
    ⟨[], .nil, FunD.bindsN (ps := ["word"]) W_targets_at fun _ _ _ _ _ _ us hl => match us, hl with | [_], _ => rfl⟩⟩
  have D_is_row : Done P w K mg base 2 (He.ga K "is_row") ["value", "index", "many"] (f_is_row) [] fd_is_row := ⟨ok_is_row T W_is_row D_is_integer D_targets_at, W_is_row.kp,
    (FunD.bindsN (ps := ["value", "index", "many"]) W_is_row fun _ _ _ _ _ _ us hl => match us, hl with | [_, _, _], _ => rfl),
    ⟨[], .nil, FunD.bindsN (ps := ["value", "index", "many"]) W_is_row fun _ _ _ _ _ _ us hl => match us, hl with | [_, _, _], _ => rfl⟩⟩
  have D_c_BadProgram_init : DoneI P w K mg base 1 (He.ma K (He.ga K "BadProgram") "__init__") ["self", "index"] (He.ga K "BadProgram") "index" fd_c_BadProgram_init := ⟨ok_c_BadProgram_init T W_c_BadProgram_init, W_c_BadProgram_init.kp,
    (FunD.bindsN (ps := ["self", "index"]) W_c_BadProgram_init fun _ _ _ _ _ _ us hl => match us, hl with | [_, _], _ => rfl)⟩
  have D_c_Program_init : DoneX P w K mg base 3 (He.ma K (He.ga K "Program") "__init__") ["self", "rows"] (f_c_Program_init (He.ga K "BadProgram") (He.ga K "Program")) [] fd_c_Program_init := ⟨ok_c_Program_init T W_c_Program_init D_c_BadProgram_init D_is_row, W_c_Program_init.kp,
    (FunD.bindsN (ps := ["self", "rows"]) W_c_Program_init fun _ _ _ _ _ _ us hl => match us, hl with | [_, _], _ => rfl),
    ⟨[], .nil, FunD.bindsN (ps := ["self", "rows"]) W_c_Program_init fun _ _ _ _ _ _ us hl => match us, hl with | [_, _], _ => rfl⟩⟩
  have D_w_told : Done P w K mg base 5 (He.ga K "_law_told") ["_law_value"] (f_w_told (He.ga K "BadProgram") (He.ga K "Program")) [] fd_w_told := ⟨ok_w_told T W_w_told D_c_Program_init, W_w_told.kp,
    (FunD.bindsN (ps := ["_law_value"]) W_w_told fun _ _ _ _ _ _ us hl => match us, hl with | [_], _ => rfl),
    ⟨[], .nil, FunD.bindsN (ps := ["_law_value"]) W_w_told fun _ _ _ _ _ _ us hl => match us, hl with | [_], _ => rfl⟩⟩
  have D_w_is_number : Done P w K mg base 1 (He.ga K "_law_is_number") ["_law_value", "_law_least", "_law_most"] (f_w_is_number) [] fd_w_is_number := ⟨ok_w_is_number T W_w_is_number, W_w_is_number.kp,
    (FunD.bindsN (ps := ["_law_value", "_law_least", "_law_most"]) W_w_is_number fun _ _ _ _ _ _ us hl => match us, hl with | [_, _, _], _ => rfl),
    ⟨[], .nil, FunD.bindsN (ps := ["_law_value", "_law_least", "_law_most"]) W_w_is_number fun _ _ _ _ _ _ us hl => match us, hl with | [_, _, _], _ => rfl⟩⟩
  have D_w_is_row : Done P w K mg base 2 (He.ga K "_law_is_row") ["_law_row", "_law_at", "_law_many"] (f_w_is_row) [] fd_w_is_row := ⟨ok_w_is_row T W_w_is_row D_w_is_number, W_w_is_row.kp,
    (FunD.bindsN (ps := ["_law_row", "_law_at", "_law_many"]) W_w_is_row fun _ _ _ _ _ _ us hl => match us, hl with | [_, _, _], _ => rfl),
    ⟨[], .nil, FunD.bindsN (ps := ["_law_row", "_law_at", "_law_many"]) W_w_is_row fun _ _ _ _ _ _ us hl => match us, hl with | [_, _, _], _ => rfl⟩⟩
  have D_w_due : Done P w K mg base 3 (He.ga K "_law_due") ["_law_value"] (f_w_due) [] fd_w_due := ⟨ok_w_due T W_w_due D_w_is_row, W_w_due.kp,
    (FunD.bindsN (ps := ["_law_value"]) W_w_due fun _ _ _ _ _ _ us hl => match us, hl with | [_], _ => rfl),
    ⟨[], .nil, FunD.bindsN (ps := ["_law_value"]) W_w_due fun _ _ _ _ _ _ us hl => match us, hl with | [_], _ => rfl⟩⟩
  exact ok_law T W_law D_w_source D_w_rows D_w_draw D_w_spoiled D_w_told D_w_due

end My

namespace My
open PySem L2 L3
local macro_rules
  | `(tactic| nofun) => `(tactic| simp only [↓x_eC, ↓x_eIxO, intD_i, ↓x_sDrop, datR_d, ↓x_eJs, ↓x_jsC, ↓x_jsN, x_fmtI, x_fmtS, strD_s, ↓x_eV, ↓x_oV, ↓x_oR, ↓x_oI, ↓x_fin, ↓x_finN, ↓x_e1, ↓x_e2, ↓x_eL, ↓x_nL, ↓x_aN, ↓x_aC, ↓x_resAll, ↓x_valsOf, ↓x_tV, ↓x_tNt, ↓x_tAn, ↓x_tOr, ↓x_tYs, ↓x_eB, ↓x_eIf, ↓x_eAnd, ↓x_eOr, ↓x_eNot, ↓x_eTup, ↓x_nLst, ↓x_eChain,
      ↓x_sNx, ↓x_xFor, ↓x_makX, makR_l, makR_z, nonO_n, brkX_nx, brkX_ct, brkX_br, brkX_rt, brkX_z, ↓x_xL, ↓x_xSeq, ↓x_xIf, ↓x_xRai, ↓x_xTryR, ↓x_evX, ↓x_xRetC, ↓x_xSetC, ↓x_xExC, ↓x_mkX, seqX_nx, seqX_rt, seqX_rn, seqX_z, mkK_l, mkK_z, evK_l, evK_z, retK_l, retK_z, setK_l, setK_z, exK_l, exK_z, tryK_l, tryK_z, noS_y, outsX_l, outsX_z, ↓x_eM0, ↓x_sStar, ↓x_itZM, zipN_t, zipN_k, ↓x1L_c, ↓x_itEA, enumA_l, enumA_t, enumA_k, ↓x_sSeq, ↓x_sRet, ↓x_sRetN, ↓x_sRetO, ↓x_sIf, ↓x_sSet, ↓x_sSetN, ↓x_sOwn, ↓x_sEx, ↓x_sFrz, ↓x_sBr, ↓x_sCt, ↓x_sAsg, ↓x_gN, ↓x_gTp, ↓x_gsN, ↓x_gsC, ↓x_sPar2, two_2, ↓x_sApp, ↓x_sPutL, ↓x_sPutD, ↓x_itV, ↓x_itT, ↓x_itR1, ↓x_itR2, ↓x_sFor, ↓x_nLc,
      ↓x_mkF, ↓x_callO, ↓x_eCall, ↓x_eCallS, ↓x_nCall, ↓x_eMeth, ↓x_eProp, ↓x_eCMeth, ↓x_nMake, ↓x_nMakeL, ↓x_eInO, ↓x_sFld, ↓x_loop_n, ↓x_loop_c, ↓x_nDsp, ↓x_dspN, ↓x_dspC, ↓x_kAddL, ↓x_kAddT, ↓x_eSl, ↓x_bN, ↓x_bS, ↓x_itZ, ↓x_itE, ↓x_nMeth, ↓x_nLcO, ↓x_eFldR, ↓x_sLst0, ↓x_eM1, ↓x_eUnO, ↓x_eBinO, ↓x_eNeO, ↓x_nLc2, ↓x_eKGet, ↓x_eKIn, ↓x_eDGet2, ↓x_aS, ↓x_eTupS, ↓x_nLstS, ↓x_valsApp, strO_s, dkD_k, seqItems_t, seqItems_kt, seqItems_l, ↓x_sParN, ↓x_sParE, ↓x_sParB, ↓x_lcLoop_n, ↓x_lcLoop_c, ↓x_gTl, ↓x_kMul, ↓x_kFdiv, ↓x_kMod, ↓x_kPow,
      ex_some, ex_none, ex_bind, seqK_nx, seqK_br, seqK_ct, seqK_rt, seqK_rn, seqK_rr, brk_nx, brk_ct, brk_br, brk_rt, brk_rn, brk_rr, finR_d, finR_n, retO, dAt, ownAny, ownNew, ownL, ownK, ownIn, res_v, res_r, res_i, isVal_v, isVal_r, isVal_i, resAll_n, valsOf_n, int1, int2,
      wide_10, wide_2, kFld_hit, kSl_l, kSl_t, kIsi_ll, kIsi_tt, kIsN_n, kNotN_n, isN_n, isN_i, isN_s, isN_t, cutL_map, cutL_1, zipD_map, zipM_l, kList_l, kTuple_l, kTuple_t, isS, putFD_n, keyOf_i, keyOf_s, kSorted_k0, kSorted_dset, dset_len, tupItems_t, tupItems_kt, lstItems_l, lstItems_sc, lstOnly_l, oneOpd_1, resOf_rt, resOf_rn, resOf_nx, resL_n, resL_d, isNon_d, isCls_c, insOf_i, insOk_i, conts_v, conts_r, conts_i, strOk_s, blOk_b, lfo_l, lfo_k, lfo_i, kRev_l, kInX_t, kNotInX_t, kInX_p, kNotInX_p, kEq_pd, kNe_pd, kEq_pp, kNe_pp, kEq_i, kNe_i, kEq_b, kNe_b, kEq_pn, kEq_nn, kNe_nn, kNe_pn, kIx_p0, kIx_p1, tupItems_p, lf_pair, kAny_bls, kAll_bls, kSorted_pairs, kSorted_ints, lfs_ints, lfs_bls, lfs_pairs, kAdd_i, kSub_i, kLt_i, kLe_i, kGt_i, kGe_i, kNeg_i, kInt_i, kInt_b, kAbs_i, kMax_i, kMin_i, kLen_l, kLen_t, kLen_k, kLen_s, kIx_t, kIx_k, kIx_l, kIx_s, atI_0, atI_1, atI_2, atI_3, ixN_0, ixN_1, ixN_2, ixN_3, isOwn, allVal, lf, lfs, lff, lfk, wipeE, Nat.reduceBEq, entry, L3.collect, resD_d, resD_n, argsOf, putOuts, ios, okOs, hasRef, isRef,
      List.getElem?_cons_zero, List.getElem?_cons_succ, List.getElem?_nil, List.set_cons_zero, List.set_cons_succ, List.length_cons, List.length_nil, List.replicate_succ, List.replicate_zero, List.nil_append, List.cons_append, List.append_nil, List.map_cons, List.map_nil, List.any_cons, List.any_nil, List.all_cons, List.all_nil, List.nodup_cons, List.nodup_nil, List.not_mem_nil, List.contains_nil, List.contains_cons, List.take_succ_cons, List.take_zero, List.length_append, List.length_map,
      D.bl.injEq, Res.d.injEq, D.int.injEq, exists_eq_left', exists_eq_left, true_and, and_true, and_self, or_true, true_or, false_or, or_false, if_true, if_false, ite_true, ite_false, true_implies, false_implies, not_true_eq_false, not_false_eq_true, eq_self, beq_self_eq_true, Bool.true_beq, beq_true, Bool.false_beq, beq_false, Bool.not_not, decide_true, decide_false, decide_eq_true_eq, decide_eq_false_iff_not, Bool.and_true, Bool.true_and, Bool.and_self, Bool.not_true, Bool.not_false, Bool.or_self, Bool.false_or, Bool.or_false, Bool.true_or, Bool.or_true, Bool.and_false, Bool.false_and, Option.bind_some, Option.bind_none, Bool.false_eq_true, false_and, and_false, reduceCtorEq, Nat.reduceAdd, Nat.reduceSub, Nat.reduceLT, Nat.reduceLeDiff, Int.reduceLE, Int.reduceLT, Int.reduceNeg, Int.reduceToNat, Int.reducePow, Int.reduceMul, Int.reduceAdd, Int.reduceSub, reduceIte, forall_const, not_and, Bool.not_eq_true, Bool.not_eq_false])
-- end of the rule
def Src (n : Nat) (d : D) : Prop := ∃ g s t : Int, d = .lst [.int g, .int s, .int t] ∧ 0 ≤ g ∧ 0 ≤ s ∧ s < 2 ^ 64 ∧ 0 ≤ t ∧ t ≤ n
theorem Src.le {n m : Nat} {d : D} (h : Src n d) (l : n ≤ m) : Src m d := by
  obtain ⟨g, s, t, e, h1, h2, h3, h4, h5⟩ := h
  exact ⟨g, s, t, e, h1, h2, h3, h4, by omega⟩
theorem primes_at {i : Int} {Q : D → Prop} (h0 : 0 ≤ i) (h7 : i < 7) (k : ∀ p : Int, 0 < p → p < 2 ^ 32 → Q (.int p)) :
    Ex (atI [D.int 2147483647, D.int 2147483629, D.int 2147483587, D.int 2147483579, D.int 2147483563, D.int 2147483549, D.int 2147483543] i) Q := by
  rw [atI_at h0 (by simpa using h7)]
  obtain ⟨n, rfl⟩ := Int.eq_ofNat_of_zero_le h0
  have hn : n < 7 := by omega
  match n, hn with
  | 0, _ => exact ⟨_, rfl, k _ (by decide) (by decide)⟩
  | 1, _ => exact ⟨_, rfl, k _ (by decide) (by decide)⟩
  | 2, _ => exact ⟨_, rfl, k _ (by decide) (by decide)⟩
  | 3, _ => exact ⟨_, rfl, k _ (by decide) (by decide)⟩
  | 4, _ => exact ⟨_, rfl, k _ (by decide) (by decide)⟩
  | 5, _ => exact ⟨_, rfl, k _ (by decide) (by decide)⟩
  | 6, _ => exact ⟨_, rfl, k _ (by decide) (by decide)⟩
theorem draw_ok {n : Nat} {d : D} {m : Int} {Q : Res × List D → Prop} (hs : Src n d) (hn : n < 2 ^ 40) (hm : 0 < m) (hw : m < 2 ^ 200) (k : ∀ r d', 0 ≤ r → r < m → Src (n + 1) d' → Q (.d (.int r), [d'])) : Ex (f_w_draw [.io d, .v (.int m)]) Q := by
  obtain ⟨g, s, t, rfl, hg, hs0, hs1, ht0, ht1⟩ := hs
  unfold f_w_draw B_w_draw B_w_draw_1
  nofun
  have wm : wide m = true := wide_of (by omega) (by omega)
  refine ⟨fun h => ⟨hm, ⟨hm, wm⟩, ?_⟩, fun h => ?_⟩
  · exact k _ _ (Int.emod_nonneg _ (by omega)) (Int.emod_lt_of_pos _ hm) ⟨_, _, _, rfl, Int.ediv_nonneg hg (by omega), hs0, hs1, ht0, by omega⟩
  · have ht : t + 1 ≤ 2 ^ 41 := by omega
    have b1 : s * (2 * (t + 1) + 1) ≤ 2 ^ 64 * 2 ^ 43 := mul_bd hs0 (by omega) (by omega) (by omega)
    have b1' : 0 ≤ s * (2 * (t + 1) + 1) := Int.mul_nonneg hs0 (by omega)
    have b2 : 7001 * (t + 1) * (t + 1) ≤ 2 ^ 60 * 2 ^ 41 := mul_bd (by omega) (by omega) (by omega) (by omega)
    have b2' : 0 ≤ 7001 * (t + 1) * (t + 1) := Int.mul_nonneg (by omega) (by omega)
    refine ⟨wide_of (by omega) (by omega), ⟨wide_of (by omega) (by omega), wide_of (by omega) (by omega)⟩, ⟨wide_of (by omega) (by omega), wide_of (by omega) (by omega)⟩, ⟨wide_of (by omega) (by omega), wide_of (by omega) (by omega)⟩, wide_of (by omega) (by omega), ?_⟩
    refine primes_at (Int.emod_nonneg _ (by omega)) (Int.emod_lt_of_pos _ (by omega)) fun p hp0 hp1 => ?_
    nofun
    refine ⟨hp0, ?_⟩
    have m0 := Int.emod_nonneg ((s * (2 * (t + 1) + 1) + 7001 * (t + 1) * (t + 1) + 59) ^ 3) (show p ≠ 0 by omega)
    have m1 := Int.emod_lt_of_pos ((s * (2 * (t + 1) + 1) + 7001 * (t + 1) * (t + 1) + 59) ^ 3) hp0
    generalize (s * (2 * (t + 1) + 1) + 7001 * (t + 1) * (t + 1) + 59) ^ 3 % p = x at m0 m1 ⊢
    have d0 : 0 ≤ x / 8191 := Int.ediv_nonneg m0 (by omega)
    have d1 : x / 8191 ≤ x := Int.ediv_le_self _ m0
    refine ⟨wide_of (by omega) (by omega), ⟨wide_of (by omega) (by omega), wide_of (by omega) (by omega)⟩, ?_⟩
    refine primes_at (Int.emod_nonneg _ (by omega)) (Int.emod_lt_of_pos _ (by omega)) fun q hq0 hq1 => ?_
    nofun
    refine ⟨hq0, wide_of (by omega) (by omega), hm, ?_⟩
    exact k _ _ (Int.emod_nonneg _ (by omega)) (Int.emod_lt_of_pos _ hm) ⟨_, _, _, rfl, hg, hs0, hs1, by omega, by omega⟩
theorem source_ok {ns : List Int} {k : Int} {Q : Res × List D → Prop} (h0 : 0 ≤ k) (h1 : k ≤ 63) (kk : ∀ d, Src 0 d → Q (.n d, [])) : Ex (f_w_source [.v (.scr ns), .v (.int k)]) Q := by
  unfold f_w_source B_w_source
  have wk : ∀ i : Int, 0 ≤ i → i ≤ 2 ^ 100 → wide i = true := fun i a b => wide_of (by omega) (by omega)
  have fin : ∀ c : Int, ∀ g : Int, 0 ≤ g → Src 0 (.lst [.int g, .int (c % 1000000000000000003 + 613 * k * k + 41 * k + 7), .int 0]) := fun c g hg => by
    have b1 := Int.emod_nonneg c (show (1000000000000000003 : Int) ≠ 0 by omega)
    have b2 := Int.emod_lt_of_pos c (show (0 : Int) < 1000000000000000003 by omega)
    have b3 : 613 * k * k ≤ (613 * 63) * 63 := mul_bd (by omega) h0 (by omega) h1
    have b4 : 0 ≤ 613 * k * k := Int.mul_nonneg (by omega) h0
    exact ⟨_, _, _, rfl, hg, by omega, by omega, by omega, by omega⟩
  have bk : 613 * k ≤ 613 * 63 := by omega
  nofun
  refine ⟨fun h => ?_, fun h => ?_⟩
  · rw [atI_at h0 h, List.getElem?_eq_getElem (by omega)]
    generalize ns[k.toNat]'(by omega) = c
    nofun
    refine ⟨fun h => ?_, fun h => ?_⟩
    · exact ⟨⟨wk _ (by omega) (by omega), wk _ (by omega) (by omega)⟩, ⟨wk _ (by omega) (by omega), wk _ (by omega) (by omega)⟩, ⟨wk _ (by omega) (by omega), wk _ (by omega) (by omega)⟩, kk _ (fin _ _ (by split <;> omega))⟩
    · exact ⟨⟨wk _ (by omega) (by omega), wk _ (by omega) (by omega)⟩, ⟨wk _ (by omega) (by omega), wk _ (by omega) (by omega)⟩, ⟨wk _ (by omega) (by omega), wk _ (by omega) (by omega)⟩, kk _ (fin _ _ (by omega))⟩
  · exact ⟨⟨wk _ (by omega) (by omega), wk _ (by omega) (by omega)⟩, ⟨wk _ (by omega) (by omega), wk _ (by omega) (by omega)⟩, ⟨wk _ (by omega) (by omega), wk _ (by omega) (by omega)⟩, kk _ (fin 0 _ (by omega))⟩
theorem rng3 : rng 0 3 = [.int 0, .int 1, .int 2] := rfl
theorem filterMap_some {α β : Type} (f : α → β) : ∀ l : List α, l.filterMap (fun x => some (f x)) = l.map f
  | [] => rfl
  | x :: l => by simp
/-! ### rows of programs -/
inductive Wd where
  | stop | close | abort | done | fail
  deriving DecidableEq
def Wd.str : Wd → PySem.Str
  | .stop => "stop"
  | .close => "close"
  | .abort => "abort"
  | .done => "done"
  | .fail => "fail"
inductive Row where
  | write (a t : Int) | read (a e o : Int) | drain (t : Int) | one (w : Wd)
  deriving DecidableEq
def rowD : Row → D
  | .write a t => .tup [.str "write", .int a, .int t]
  | .read a e o => .tup [.str "read", .int a, .int e, .int o]
  | .drain t => .tup [.str "drain", .int t]
  | .one w => .tup [.str w.str]
def Row.word : Row → PySem.Str
  | .write _ _ => "write"
  | .read _ _ _ => "read"
  | .drain _ => "drain"
  | .one w => w.str
def Row.len : Row → Int
  | .write _ _ => 3
  | .read _ _ _ => 4
  | .drain _ => 2
  | .one _ => 1
def Row.amount : Row → Option Int
  | .write a _ => some a
  | .read a _ _ => some a
  | _ => none
def Row.targets : Row → List Int
  | .write _ t => [t]
  | .read _ e o => [e, o]
  | .drain t => [t]
  | .one _ => []
def Row.isDr : Row → Bool
  | .drain _ => true
  | _ => false
def Row.ends : Row → Bool
  | .one .done => true
  | .one .fail => true
  | _ => false
def Row.pre : Row → List D
  | .write a _ => [.str "write", .int a]
  | .read a _ _ => [.str "read", .int a]
  | .drain _ => [.str "drain"]
  | .one w => [.str w.str]
def Row.map (f : Int → Int) : Row → Row
  | .write a t => .write a (f t)
  | .read a e o => .read a (f e) (f o)
  | .drain t => .drain (f t)
  | .one w => .one w
theorem row_ix0 (r : Row) : kIx (rowD r) (.int 0) = some (.str r.word) := by cases r <;> rfl
theorem row_len (r : Row) : kLen [rowD r] = some (.int r.len) := by cases r <;> rfl
theorem row_words (r : Row) : kIn true (.str r.word) (.ktp [.str "write", .str "read", .str "drain", .str "stop", .str "close", .str "abort", .str "done", .str "fail"]) = some (.bl false) := by
  cases r with
  | one w => cases w <;> kernel_rfl
  | _ => kernel_rfl
theorem row_size (r : Row) : ((([("write", .int 3), ("read", .int 4), ("drain", .int 2)] : List (PySem.Str × D)).lookup r.word).getD (.int 1)) = .int r.len := by
  cases r with
  | one w => cases w <;> kernel_rfl
  | _ => kernel_rfl
theorem row_am (r : Row) : kIn false (.str r.word) (.tup [.str "write", .str "read"]) = some (.bl r.amount.isSome) := by
  cases r with
  | one w => cases w <;> kernel_rfl
  | _ => kernel_rfl
theorem row_dr (r : Row) : kEq (.str r.word) (.str "drain") = some (.bl r.isDr) := by
  cases r with
  | one w => cases w <;> kernel_rfl
  | _ => kernel_rfl
theorem row_end (r : Row) : kIn true (.str r.word) (.ktp [.str "done", .str "fail"]) = some (.bl (!r.ends)) := by
  cases r with
  | one w => cases w <;> kernel_rfl
  | _ => kernel_rfl
theorem row_ix1 {r : Row} {a : Int} (h : r.amount = some a) : kIx (rowD r) (.int 1) = some (.int a) := by
  cases r <;> first | (cases h; rfl) | cases h
def Row.tat (r : Row) : Int := if r.isDr then 1 else 2
theorem row_pre (r : Row) : kSl none (some r.tat) (rowD r) = some (.tup r.pre) := by cases r <;> rfl
theorem row_post (r : Row) : kSl (some r.tat) none (rowD r) = some (.tup (r.targets.map D.int)) := by cases r <;> rfl
theorem row_join (r : Row) (f : Int → Int) : D.tup (r.pre ++ (r.targets.map f).map D.int) = rowD (r.map f) := by cases r <;> rfl
theorem row_isi (r : Row) : kIsi [] [rowD r, .bty "tuple"] = some (.bl true) := by cases r <;> exact kIsi_tt
theorem kIsi_si {s : PySem.Str} : kIsi [] [.str s, .bty "str"] = some (.bl true) := kIsi_b (n := "str") rfl (by decide)
theorem kIsi_ii {i : Int} : kIsi [] [.int i, .bty "int"] = some (.bl true) := kIsi_b (n := "int") rfl (by decide)
theorem kIsi_ib {i : Int} : kIsi [] [.int i, .bty "bool"] = some (.bl false) := kIsi_b (n := "int") rfl (by decide)
theorem kIsiT_l {l : List D} : kIsiT [] [.lst l, .tup [.bty "list", .bty "tuple"]] = some (.bl true) := by
  unfold kIsiT
  show (if inCs [] (.inl "list") = true then (isiAny [] (.inl "list") [.bty "list", .bty "tuple"]).bind fun b => some (D.bl b) else none) = _
  rfl
theorem integer_ok {x l m : Int} {Q : Res × List D → Prop} (k : Q (.d (.bl (decide (l ≤ x) && decide (x ≤ m))), [])) : Ex (f_is_integer [.v (.int x), .v (.int l), .v (.int m)]) Q := by
  unfold f_is_integer B_is_integer
  nofun
  rw [kIsi_ii]
  nofun
  rw [kIsi_ib]
  nofun
  refine ⟨fun h => ?_, fun h => ?_⟩
  · rw [decide_eq_true h, Bool.true_and] at k
    exact k
  · rw [decide_eq_false h, Bool.false_and] at k
    exact k
theorem targets_ok {r : Row} {Q : Res × List D → Prop} (k : Q (.d (.int r.tat), [])) : Ex (f_targets_at [.v (.str r.word)]) Q := by
  unfold f_targets_at B_targets_at
  nofun
  rw [row_dr]
  nofun
  unfold Row.tat at k
  refine ⟨fun h => ?_, fun h => ?_⟩
  · rw [if_pos h] at k; exact k
  · rw [if_neg (by rw [h]; decide)] at k; exact k
/-- a right row of a program with n rows, at i -/
def RowOk (n i : Int) (r : Row) : Prop := (∀ t ∈ r.targets, i + 1 ≤ t ∧ t ≤ n - 1) ∧ ∀ a, r.amount = some a → 1 ≤ a ∧ a ≤ 1000000000000000000
def progD (C : Addr) (rs : List Row) : D := .ins C [("listed", .tup (rs.map rowD))]
structure ProgOk (rs : List Row) : Prop where
  l1 : 1 ≤ rs.length
  l2 : rs.length ≤ 24
  rows : ∀ (i : Nat) (r : Row), rs[i]? = some r → RowOk rs.length i r
  last : ∃ r, rs.getLast? = some r ∧ r.ends = true
theorem kIsiT_t {l : List D} : kIsiT [] [.tup l, .tup [.bty "list", .bty "tuple"]] = some (.bl true) := by
  unfold kIsiT
  show (if inCs [] (.inl "tuple") = true then (isiAny [] (.inl "tuple") [.bty "list", .bty "tuple"]).bind fun b => some (D.bl b) else none) = _
  rfl
structure RowsAt (m : Int) (rs : List Row) : Prop where
  rows : ∀ (i : Nat) (r : Row), rs[i]? = some r → RowOk m i r
theorem RowsAt.snoc {m : Int} {rs : List Row} {r : Row} (h : RowsAt m rs) (hr : RowOk m rs.length r) : RowsAt m (rs ++ [r]) := by
  refine ⟨fun i x hx => ?_⟩
  by_cases c : i < rs.length
  · rw [List.getElem?_append_left c] at hx
    exact h.rows i x hx
  · rw [List.getElem?_append_right (by omega)] at hx
    have e : i - rs.length = 0 := by
      have := (List.getElem?_eq_some_iff.mp hx).1
      simp only [List.length_cons, List.length_nil] at this
      omega
    rw [e] at hx
    cases hx
    rw [show i = rs.length by omega]
    exact hr
theorem row1_ok {n : Nat} {d : D} {m i q : Int} {rs : List Row} {b c e f g : Option S} {Q : Out × L3.Env → Prop} (hs : Src n d) (hn : n < 2 ^ 39) (hi : i = rs.length) (h0 : i < m - 1) (hm : m ≤ 24) (hq1 : 1 ≤ q) (hq2 : q ≤ 1000000000000000000) (hr : RowsAt m rs)
    (k : ∀ r d' b c e f, RowOk m i r → Src (n + 4) d' → Q (.nx, [some (.own (some 0) d'), g, some (.d (.int q)), some (.d (.int m)), some (.own none (.lst ((rs ++ [r]).map rowD))), some (.d (.int i)), b, c, e, f])) :
    Ex (B_w_rows_1 [some (.own (some 0) d), g, some (.d (.int q)), some (.d (.int m)), some (.own none (.lst (rs.map rowD))), some (.d (.int i)), b, c, e, f]) Q := by
  unfold B_w_rows_1
  nofun
  refine draw_ok hs (by omega) (by omega) (by omega) fun r1 d1 g1 g2 s1 => ?_
  nofun
  refine draw_ok s1 (by omega) (by omega) (by omega) fun r2 d2 g3 g4 s2 => ?_
  nofun
  refine draw_ok s2 (by omega) (by omega) (by omega) fun r3 d3 g5 g6 s3 => ?_
  nofun
  refine draw_ok s3 (by omega) (by omega) (by omega) fun r4 d4 g7 g8 s4 => ?_
  nofun
  refine ex_at (l := [Row.write (1 + r3) (i + 1 + r2), Row.read (1 + r3) (i + 1 + r1) (i + 1 + r2), Row.write (1 + r3) (i + 1 + r2), Row.drain (i + 1 + r2), Row.read (1 + r3) (i + 1 + r1) (i + 1 + r2), Row.one .stop, Row.one .close, Row.one .abort, Row.one .done, Row.one .fail]) (f := rowD) g7 (by simpa using g8) fun r hr' => ?_
  have hk : RowOk m i r := by
    have hw : RowOk m i (Row.write (1 + r3) (i + 1 + r2)) := by
      refine ⟨fun t ht => ?_, fun a ha => ?_⟩
      · have e : t = i + 1 + r2 := by simpa [Row.targets] using ht
        omega
      · cases ha
        omega
    have hre : RowOk m i (Row.read (1 + r3) (i + 1 + r1) (i + 1 + r2)) := by
      refine ⟨fun t ht => ?_, fun a ha => ?_⟩
      · have e : t = i + 1 + r1 ∨ t = i + 1 + r2 := by simpa [Row.targets] using ht
        omega
      · cases ha
        omega
    have hd : RowOk m i (Row.drain (i + 1 + r2)) := by
      refine ⟨fun t ht => ?_, fun a ha => by cases ha⟩
      have e : t = i + 1 + r2 := by simpa [Row.targets] using ht
      omega
    have ho : ∀ w, RowOk m i (Row.one w) := fun w => ⟨fun t ht => by simp [Row.targets] at ht, fun a ha => by cases ha⟩
    simp only [List.mem_cons, List.not_mem_nil, or_false] at hr'
    rcases hr' with e | e | e | e | e | e | e | e | e | e <;> subst e <;> first | exact hw | exact hre | exact hd | exact ho _
  nofun
  have e : rs.map rowD ++ [rowD r] = (rs ++ [r]).map rowD := by rw [List.map_append]; rfl
  rw [e]
  exact ⟨by omega, k r d4 _ _ _ _ hk s4⟩
theorem law_rows_ok {n : Nat} {d : D} {m q : Int} {Q : Res × List D → Prop} (hs : Src n d) (hn : n < 2 ^ 38) (h2 : 2 ≤ m) (hm : m ≤ 24) (hq1 : 1 ≤ q) (hq2 : q ≤ 1000000000000000000) (k : ∀ rs d', ProgOk rs → (rs.length : Int) ≤ m → 2 ≤ rs.length → Src (n + 100) d' → Q (.d (.lst (rs.map rowD)), [d'])) : Ex (f_w_rows [.io d, .v (.int m), .v (.int q)]) Q := by
  unfold f_w_rows B_w_rows
  nofun
  refine draw_ok hs (by omega) (by omega) (by omega) fun r1 d1 g1 g2 s1 => ?_
  nofun
  refine ⟨decide_eq_true (by omega), ?_⟩
  refine ex_loop _ (fun i ρ => ∃ rs d b c e f g, Src (n + 1 + 4 * i) d ∧ rs.length = i ∧ RowsAt (2 + r1) rs ∧ ρ = [some (.own (some 0) d), some (.d (.int m)), some (.d (.int q)), some (.d (.int (2 + r1))), some (.own none (.lst (rs.map rowD))), g, b, c, e, f]) ⟨[], _, _, _, _, _, _, s1, rfl, ⟨fun i r h => by cases h⟩, rfl⟩ ?_ ?_
  · rintro i x ρ hx ⟨rs, d2, b, c, e, f, g, h1, h2', h3, rfl⟩
    obtain ⟨rfl, hi⟩ := rng_get hx
    have hi' : (i : Int) < 1 + r1 := by omega
    nofun
    refine row1_ok (i := 0 + (i : Int)) h1 (by omega) (by omega) (by omega) (by omega) hq1 hq2 h3 fun r d' b c e f hr s2 => ?_
    refine ⟨rs ++ [r], d', b, c, e, f, _, ?_, ?_, h3.snoc (by rw [h2']; rwa [Int.zero_add] at hr), rfl⟩
    · rw [show n + 1 + 4 * (i + 1) = n + 1 + 4 * i + 4 by omega]
      exact s2
    · rw [List.length_append, h2']; rfl
  · rintro ρ ⟨rs, d2, b, c, e, f, g, h1, h2', h3, rfl⟩
    rw [rng_len] at h1 h2'
    nofun
    refine draw_ok h1 (by omega) (by omega) (by omega) fun r2 d3 g3 g4 s3 => ?_
    nofun
    refine ex_at (l := [Row.one .done, Row.one .fail]) (f := rowD) g3 (by simpa using g4) fun r hr' => ?_
    have hr : r = .one .done ∨ r = .one .fail := by simpa using hr'
    nofun
    have e : rs.map rowD ++ [rowD r] = (rs ++ [r]).map rowD := by rw [List.map_append]; rfl
    have hl : (rs ++ [r]).length = rs.length + 1 := by rw [List.length_append]; rfl
    have hn : ((rs ++ [r]).length : Int) = 2 + r1 := by rw [hl]; omega
    have ho : RowOk (2 + r1) rs.length r := by rcases hr with e | e <;> subst e <;> exact ⟨fun t ht => by simp [Row.targets] at ht, fun a ha => by cases ha⟩
    rw [e]
    refine ⟨by omega, k _ _ ⟨by omega, by omega, ?_, ⟨r, by simp, by rcases hr with e | e <;> subst e <;> rfl⟩⟩ (by omega) (by omega) (s3.le (by omega))⟩
    rw [hn]
    exact (h3.snoc ho).rows
/-! ### texts of numbers, parts split and joined -/
abbrev spT : PySem.Str := Str.ofString " "
theorem spT_S : spT = SX.S [32] := by kernel_rfl
theorem nT_S (n : Nat) : nT n = SX.S (TL.numL n) := SX.num_S n
theorem tl_nT (n : Nat) : (nT n).cps.toList = TL.numL n := by rw [nT_S]
theorem nT_split (n : Nat) : (nT n).length = (TL.numL n).length := by rw [nT_S, SX.S_len]
theorem numL_pos (n : Nat) : 1 ≤ (TL.numL n).length := by
  have := TL.numL_ne n
  cases h : TL.numL n with
  | nil => exact absurd h this
  | cons a l => simp
theorem uni_digit : ∀ c : Nat, 48 ≤ c → c ≤ 57 → Unicode.isDigit c = true := by
  have k : ∀ n : Fin 10, Unicode.isDigit (48 + n.val) = true := by decide +kernel
  intro c h1 h2
  have := k ⟨c - 48, by omega⟩
  rwa [show 48 + (c - 48) = c by omega] at this
theorem nT_isdigit (n : Nat) : Txt.isdigit (nT n) = true := by
  unfold Txt.isdigit
  rw [Bool.and_eq_true]
  refine ⟨decide_eq_true ?_, ?_⟩
  · rw [nT_split]; exact numL_pos n
  · rw [← Array.all_toList, tl_nT, List.all_eq_true]
    intro c hc
    obtain ⟨h1, h2⟩ := TL.numL_digits n c hc
    exact uni_digit c h1 h2
theorem nT_isascii (n : Nat) : Txt.isascii (nT n) = true := by
  unfold Txt.isascii
  rw [← Array.all_toList, tl_nT, List.all_eq_true]
  intro c hc
  obtain ⟨h1, h2⟩ := TL.numL_digits n c hc
  exact decide_eq_true (by omega)
theorem nT_int {n k : Nat} (hk : (nT n).length ≤ k) (h2 : k ≤ 4300) : intText? (nT n) = some (n : Int) := TL.int_num (by rw [← nT_split]; omega)
theorem numL_head : ∀ n : Nat, 0 < n → ∃ c l, TL.numL n = c :: l ∧ c ≠ 48 := by
  intro n
  induction n using Nat.strongRecOn with
  | _ n ih =>
    intro h
    by_cases g : n < 10
    · exact ⟨_, _, TL.numL_lt g, by omega⟩
    · rw [TL.numL_step (by omega)]
      obtain ⟨c, l, e, hc⟩ := ih (n / 10) (by omega) (by omega)
      exact ⟨c, l ++ [48 + n % 10], by rw [e]; rfl, hc⟩
theorem nT_zero : nT (0 : Nat) = Str.ofString "0" := rfl
theorem nT_lenN {n k : Nat} (hk : 0 < k) (h : n < 10 ^ k) : (nT n).length ≤ k := by rw [nT_split]; exact TL.numL_len hk h
theorem nT_free (n : Nat) : 32 ∉ (nT n).cps.toList := by rw [tl_nT]; exact TL.numL_free (.inl (by omega))
/-- what number_of's last line tells of a number's text -/
theorem nT_first {n : Nat} (h : 0 < n) (hz : (nT n).length ≤ 16777216) : ∃ c, kIx (.str (nT n)) (.int 0) = some (.str ⟨#[c]⟩) ∧ c ≠ 48 := by
  obtain ⟨c, l, e, hc⟩ := numL_head n h
  refine ⟨c, ?_, hc⟩
  show (if (nT n).length ≤ 16777216 then (atI (nT n).cps.toList 0).bind fun c => some (D.str ⟨#[c]⟩) else none) = _
  rw [if_pos hz, tl_nT, e, atI_0]
  rfl
theorem split_join {ps : List PySem.Str} (hne : ps ≠ []) (h : ∀ p ∈ ps, 32 ∉ p.cps.toList) : Txt.split (Txt.join spT ps) spT = ps := by
  have e : ps = (ps.map TL.tl).map SX.S := by
    rw [List.map_map]
    exact ((List.map_congr_left fun p _ => SX.S_tl p).trans (List.map_id ps)).symm
  rw [spT_S]
  conv => lhs; rw [e]
  rw [SX.join_S, SX.split_S (by simp) rfl, SX.spl_join (by simpa using hne) (fun p hp => ?_), ← e]
  obtain ⟨q, hq, rfl⟩ := List.mem_map.mp hp
  exact h q hq
theorem join_snoc0 (s : PySem.Str) : ∀ (ps : List PySem.Str) (x : PySem.Str), ps ≠ [] → Str.join s (ps ++ [x]) = Str.join s ps ++ s ++ x
  | [], _, h => absurd rfl h
  | [p], x, _ => rfl
  | p :: q :: r, x, _ => by
    show p ++ s ++ Str.join s ((q :: r) ++ [x]) = (p ++ s ++ Str.join s (q :: r)) ++ s ++ x
    rw [join_snoc0 s (q :: r) x (by simp)]
    simp only [Str.append_assoc]
theorem join_snoc (s : PySem.Str) (ps : List PySem.Str) (x : PySem.Str) (h : ps ≠ []) : Txt.join s (ps ++ [x]) = Txt.join s ps ++ s ++ x := by
  rw [TL.join_eq, TL.join_eq, join_snoc0 s ps x h]
theorem join_one (s p : PySem.Str) : Txt.join s [p] = p := by rw [TL.join_eq]; rfl
theorem dig_t (x : PySem.Str) : kDig (.str x) = some (.bl (Txt.isdigit x)) := rfl
theorem asc_t (x : PySem.Str) : kAsc (.str x) = some (.bl (Txt.isascii x)) := rfl
theorem kEq_tt {x y : PySem.Str} (hx : PyData.strOk x = true) (hy : PyData.strOk y = true) : kEq (.str x) (.str y) = some (.bl (x == y)) := by
  rw [kEq_sh (shS hx) (shS hy)]
  simp only [dEq]
theorem kNe_tt {x y : PySem.Str} (hx : PyData.strOk x = true) (hy : PyData.strOk y = true) : kNe (.str x) (.str y) = some (.bl (!(x == y))) := by
  rw [kNe_sh (shS hx) (shS hy)]
  simp only [dEq]
theorem okT_dig {c : Nat} (h1 : 48 ≤ c) (h2 : c ≤ 57) : PyData.strOk ⟨#[c]⟩ = true := by
  have k : ∀ n : Fin 10, PyData.strOk ⟨#[48 + n.val]⟩ = true := by decide +kernel
  have := k ⟨c - 48, by omega⟩
  rwa [show 48 + (c - 48) = c by omega] at this
theorem nT_first' {n : Nat} (h : 0 < n) (hz : (nT n).length ≤ 16777216) : ∃ x, kIx (.str (nT n)) (.int 0) = some (.str x) ∧ kNe (.str x) (.str "0") = some (.bl true) := by
  obtain ⟨c, l, e, hc⟩ := numL_head n h
  obtain ⟨g1, g2⟩ := TL.numL_digits n c (by rw [e]; exact List.mem_cons_self)
  refine ⟨⟨#[c]⟩, ?_, ?_⟩
  · show (if (nT n).length ≤ 16777216 then (atI (nT n).cps.toList 0).bind fun c => some (D.str ⟨#[c]⟩) else none) = _
    rw [if_pos hz, tl_nT, e, atI_0]
    rfl
  · rw [kNe_tt (okT_dig g1 g2) (okT_of "0")]
    have e0 : (Str.ofString "0") = SX.S [48] := by kernel_rfl
    have e1 : (⟨#[c]⟩ : PySem.Str) = SX.S [c] := rfl
    rw [e0, e1, SX.S_beq_eq, decide_eq_false (by intro e; injection e with e; exact hc e)]
    rfl
theorem kIntS_n {n k : Nat} (hk : (nT n).length ≤ k) (h2 : k ≤ 640) : kIntS [.str (nT n)] = some (.int n) := by
  show (if (nT n).length ≤ 640 then (intText? (nT n)).bind fun n => some (D.int n) else none) = _
  rw [if_pos (by omega), nT_int hk (by omega)]
  rfl
theorem kLen_tx {x : PySem.Str} (h : x.length ≤ 16777216) : kLen [.str x] = some (.int x.length) := if_pos h
theorem kJoin_ok {s : PySem.Str} {ps : List PySem.Str} (h : joinFits s ps = true) : kJoin (.str s) (.lst (ps.map D.str)) = some (.str (Txt.join s ps)) := by
  unfold kJoin
  dsimp only [Option.bind_some]
  have e : strsOf (ps.map D.str) = some ps := by
    have := strsOf_map (f := fun x : PySem.Str => x) ps
    rwa [List.map_id'] at this
  rw [e]
  dsimp only [Option.bind_some]
  rw [if_pos h]
theorem join_len0 (s : PySem.Str) : ∀ ps : List PySem.Str, (Str.join s ps).length ≤ (ps.map (·.length)).sum + ps.length * s.length
  | [] => Nat.zero_le _
  | [p] => by
    show p.length ≤ _
    simp
  | p :: q :: r => by
    have ih := join_len0 s (q :: r)
    show (p ++ s ++ Str.join s (q :: r)).length ≤ _
    rw [Str.length_append, Str.length_append, List.map_cons, List.sum_cons, List.length_cons, Nat.succ_mul]
    omega
theorem join_len (s : PySem.Str) (ps : List PySem.Str) : (Txt.join s ps).length ≤ (ps.map (·.length)).sum + ps.length * s.length := by
  rw [TL.join_eq]
  exact join_len0 s ps
theorem okT_joinT {s : PySem.Str} (hs : PyData.strOk s = true) {l : List PySem.Str} (h : ∀ x ∈ l, PyData.strOk x = true) : PyData.strOk (Txt.join s l) = true := by
  rw [TL.join_eq]
  exact okT_join hs h
theorem fmap_some {α β : Type} (f : α → β) (l : List α) : l.filterMap (fun x => some (f x)) = l.map f := by
  rw [show (fun x => some (f x)) = some ∘ f from rfl, List.filterMap_eq_map]
theorem kIsi_st {s : PySem.Str} : kIsi [] [.str s, .bty "str"] = some (.bl true) := kIsi_b (n := "str") rfl (by decide)
theorem kAdd_t {x y : PySem.Str} (h : x.length + y.length ≤ 16777216) : kAdd (.str x) (.str y) = some (.str (x ++ y)) := by
  show (if x.length + y.length ≤ 16777216 then some (D.str (x ++ y)) else none) = _
  rw [if_pos h]
/-! ### what plain data's repr is like: a text of so many signs -/
structure ShwX (n k : Nat) (x : PyData) : Prop where
  s : x.showable = true
  h : x.hasDict = false
  d : x.depth ≤ k
  o : PyData.strOk x.shown = true
  l : x.shown.length ≤ n
def Shw (n k : Nat) (d : D) : Prop := ∃ x, toPy d = some x ∧ ShwX n k x
theorem shw_non : Shw 4 0 .non := ⟨.none, rfl, by simp only [PyData.showable], by simp only [PyData.hasDict], by unfold PyData.depth; omega, by simp only [PyData.shown]; exact okT_of _, by simp only [PyData.shown]; decide⟩
theorem shw_int {i : Int} (h : i.natAbs < 10 ^ 40) : Shw 41 0 (.int i) := ⟨.int i, rfl, by
  unfold PyData.showable
  have := smallI_of h
  refine decide_eq_true ?_
  by_cases h0 : i.natAbs = 0
  · rw [h0]; decide
  · exact (Nat.log2_lt h0).mpr (Nat.lt_trans h (by decide +kernel)), by simp only [PyData.hasDict], by unfold PyData.depth; omega, by simp only [PyData.shown]; exact okT_num i, by simp only [PyData.shown]; exact nT_len h⟩
theorem shw_str {x : PySem.Str} {n : Nat} (h1 : PyData.strOk (reprText x) = true) (h2 : (reprText x).length ≤ n) : Shw n 0 (.str x) := ⟨.str x, rfl, by simp only [PyData.showable], by simp only [PyData.hasDict], by unfold PyData.depth; omega, by simp only [PyData.shown]; exact h1, by simp only [PyData.shown]; exact h2⟩
theorem shws {n k : Nat} : ∀ {l : List D}, (∀ d ∈ l, Shw n k d) → ∃ xs, toPys l = some xs ∧ PyData.showableAll xs = true ∧ PyData.hasDictAll xs = false ∧ PyData.depthAll xs ≤ k ∧ xs.length = l.length ∧ ∀ t ∈ PyData.shownAll xs, PyData.strOk t = true ∧ t.length ≤ n
  | [], _ => ⟨[], rfl, by simp only [PyData.showableAll], by simp only [PyData.hasDictAll], by unfold PyData.depthAll; omega, rfl, fun t ht => by simp only [PyData.shownAll, List.not_mem_nil] at ht⟩
  | d :: l, h => by
    obtain ⟨x, e, a⟩ := h d List.mem_cons_self
    obtain ⟨xs, e2, b1, b2, b3, b4, b5⟩ := shws (l := l) fun d hd => h d (List.mem_cons_of_mem _ hd)
    refine ⟨x :: xs, by simp only [toPys, e, e2, Option.bind_some], by simp only [PyData.showableAll, a.s, b1, Bool.and_self], by simp only [PyData.hasDictAll, a.h, b2, Bool.or_self], by unfold PyData.depthAll; have := a.d; omega, by rw [List.length_cons, List.length_cons, b4], fun t ht => ?_⟩
    simp only [PyData.shownAll, List.mem_cons] at ht
    rcases ht with ht | ht
    · rw [ht]; exact ⟨a.o, a.l⟩
    · exact b5 t ht
theorem shownAll_len : ∀ xs : List PyData, (PyData.shownAll xs).length = xs.length
  | [] => by simp only [PyData.shownAll, List.length_nil]
  | x :: xs => by simp only [PyData.shownAll, List.length_cons, shownAll_len xs]
theorem jn_len {n : Nat} {ts : List PySem.Str} (h : ∀ t ∈ ts, t.length ≤ n) : (Str.join ", " ts).length ≤ (n + 2) * ts.length := by
  refine Nat.le_trans (join_len0 _ ts) ?_
  have := sum_le (l := ts) (f := fun t : PySem.Str => t.length) h
  have e : (Str.ofString ", ").length = 2 := by rw [ofS_len]; rfl
  show _ + ts.length * (Str.ofString ", ").length ≤ _
  rw [e, Nat.add_mul, Nat.mul_comm n, Nat.mul_comm 2]
  omega
theorem okT_jn {ts : List PySem.Str} (h : ∀ t ∈ ts, PyData.strOk t = true) : PyData.strOk (Str.join ", " ts) = true := okT_join (okT_of _) h
theorem shw_tupX {n k : Nat} {l : List D} {xs : List PyData} (h : PyData.showableAll xs = true ∧ PyData.hasDictAll xs = false ∧ PyData.depthAll xs ≤ k ∧ xs.length = l.length ∧ ∀ t ∈ PyData.shownAll xs, PyData.strOk t = true ∧ t.length ≤ n) : ShwX ((n + 2) * l.length + 3) (k + 1) (.tuple xs) := by
  obtain ⟨b1, b2, b3, b4, b5⟩ := h
  have j1 := jn_len fun t ht => (b5 t ht).2
  have j2 := okT_jn fun t ht => (b5 t ht).1
  rw [shownAll_len, b4] at j1
  refine ⟨by simp only [PyData.showable, b1], by simp only [PyData.hasDict, b2], by unfold PyData.depth; omega, ?_, ?_⟩
  · simp only [PyData.shown]
    unfold tupleText
    refine okT_app (okT_app (okT_of _) j2) ?_
    split <;> exact okT_of _
  · simp only [PyData.shown]
    unfold tupleText
    rw [Str.length_append, Str.length_append, ofS_len]
    have : (Str.ofString (if ((PyData.shownAll xs).length == 1) = true then ",)" else ")")).length ≤ 2 := by
      rw [ofS_len]; split <;> decide
    have e1 : "(".length = 1 := rfl
    omega
theorem shw_tup {n k : Nat} {l : List D} (h : ∀ d ∈ l, Shw n k d) : Shw ((n + 2) * l.length + 3) (k + 1) (.tup l) := by
  obtain ⟨xs, e, b⟩ := shws h
  exact ⟨.tuple xs, by simp only [toPy, e, Option.bind_some], shw_tupX b⟩
theorem shw_ktp {n k : Nat} {l : List D} (h : ∀ d ∈ l, Shw n k d) : Shw ((n + 2) * l.length + 3) (k + 1) (.ktp l) := by
  obtain ⟨xs, e, b⟩ := shws h
  exact ⟨.tuple xs, by simp only [toPy, e, Option.bind_some], shw_tupX b⟩
theorem Shw.le {n k m j : Nat} {d : D} (h : Shw n k d) (h1 : n ≤ m) (h2 : k ≤ j) : Shw m j d := by
  obtain ⟨x, e, a⟩ := h
  exact ⟨x, e, a.s, a.h, Nat.le_trans a.d h2, a.o, Nat.le_trans a.l h1⟩
theorem repr_ok {n k : Nat} {d : D} (h : Shw n k d) (h1 : n ≤ 16777216) (h2 : k ≤ 50) : ∃ s, kRepr [d] = some (.str s) ∧ PyData.strOk s = true := by
  obtain ⟨x, e, a⟩ := h
  refine ⟨x.shown, ?_, a.o⟩
  show (toPy d).bind _ = _
  rw [e, Option.bind_some, if_pos ⟨a.s, a.h, Nat.le_trans a.d h2, Nat.le_trans a.l h1⟩]
theorem repr_ne {n k : Nat} {d : D} (h : Shw n k d) (h1 : n ≤ 16777216) (h2 : k ≤ 50) : ∃ s, kRepr [d] = some (.str s) ∧ kNe (.str s) (.str s) = some (.bl false) ∧ kEq (.str s) (.str s) = some (.bl true) := by
  obtain ⟨s, e, o⟩ := repr_ok h h1 h2
  exact ⟨s, e, by rw [kNe_tt o o, beq_self_eq_true]; rfl, by rw [kEq_tt o o, beq_self_eq_true]⟩
end My

namespace My
open PySem L2 L3
local macro_rules
  | `(tactic| nofun) => `(tactic| simp only [↓x_eC, ↓x_eIxO, intD_i, ↓x_sDrop, datR_d, ↓x_eJs, ↓x_jsC, ↓x_jsN, x_fmtI, x_fmtS, strD_s, ↓x_eV, ↓x_oV, ↓x_oR, ↓x_oI, ↓x_fin, ↓x_finN, ↓x_e1, ↓x_e2, ↓x_eL, ↓x_nL, ↓x_aN, ↓x_aC, ↓x_resAll, ↓x_valsOf, ↓x_tV, ↓x_tNt, ↓x_tAn, ↓x_tOr, ↓x_tYs, ↓x_eB, ↓x_eIf, ↓x_eAnd, ↓x_eOr, ↓x_eNot, ↓x_eTup, ↓x_nLst, ↓x_eChain,
      ↓x_sNx, ↓x_xFor, ↓x_makX, makR_l, makR_z, nonO_n, brkX_nx, brkX_ct, brkX_br, brkX_rt, brkX_z, ↓x_xL, ↓x_xSeq, ↓x_xIf, ↓x_xRai, ↓x_xTryR, ↓x_evX, ↓x_xRetC, ↓x_xSetC, ↓x_xExC, ↓x_mkX, seqX_nx, seqX_rt, seqX_rn, seqX_z, mkK_l, mkK_z, evK_l, evK_z, retK_l, retK_z, setK_l, setK_z, exK_l, exK_z, tryK_l, tryK_z, noS_y, outsX_l, outsX_z, ↓x_eM0, ↓x_sStar, ↓x_itZM, zipN_t, zipN_k, ↓x1L_c, ↓x_itEA, enumA_l, enumA_t, enumA_k, ↓x_sSeq, ↓x_sRet, ↓x_sRetN, ↓x_sRetO, ↓x_sIf, ↓x_sSet, ↓x_sSetN, ↓x_sOwn, ↓x_sEx, ↓x_sFrz, ↓x_sBr, ↓x_sCt, ↓x_sAsg, ↓x_gN, ↓x_gTp, ↓x_gsN, ↓x_gsC, ↓x_sPar2, two_2, ↓x_sApp, ↓x_sPutL, ↓x_sPutD, ↓x_itV, ↓x_itT, ↓x_itR1, ↓x_itR2, ↓x_sFor, ↓x_nLc,
      ↓x_mkF, ↓x_callO, ↓x_eCall, ↓x_eCallS, ↓x_nCall, ↓x_eMeth, ↓x_eProp, ↓x_eCMeth, ↓x_nMake, ↓x_nMakeL, ↓x_eInO, ↓x_sFld, ↓x_loop_n, ↓x_loop_c, ↓x_nDsp, ↓x_dspN, ↓x_dspC, ↓x_kAddL, ↓x_kAddT, ↓x_eSl, ↓x_bN, ↓x_bS, ↓x_itZ, ↓x_itE, ↓x_nMeth, ↓x_nLcO, ↓x_eFldR, ↓x_sLst0, ↓x_eM1, ↓x_eUnO, ↓x_eBinO, ↓x_eNeO, ↓x_nLc2, ↓x_eKGet, ↓x_eKIn, ↓x_eDGet2, ↓x_aS, ↓x_eTupS, ↓x_nLstS, ↓x_valsApp, strO_s, dkD_k, seqItems_t, seqItems_kt, seqItems_l, ↓x_sParN, ↓x_sParE, ↓x_sParB, ↓x_lcLoop_n, ↓x_lcLoop_c, ↓x_gTl, ↓x_kMul, ↓x_kFdiv, ↓x_kMod, ↓x_kPow,
      ex_some, ex_none, ex_bind, seqK_nx, seqK_br, seqK_ct, seqK_rt, seqK_rn, seqK_rr, brk_nx, brk_ct, brk_br, brk_rt, brk_rn, brk_rr, finR_d, finR_n, retO, dAt, ownAny, ownNew, ownL, ownK, ownIn, res_v, res_r, res_i, isVal_v, isVal_r, isVal_i, resAll_n, valsOf_n, int1, int2,
      wide_10, wide_2, kFld_hit, kSl_l, kSl_t, kIsi_ll, kIsi_tt, kIsN_n, kNotN_n, isN_n, isN_i, isN_s, isN_t, cutL_map, cutL_1, zipD_map, zipM_l, kList_l, kTuple_l, kTuple_t, isS, putFD_n, keyOf_i, keyOf_s, kSorted_k0, kSorted_dset, dset_len, tupItems_t, tupItems_kt, lstItems_l, lstItems_sc, lstOnly_l, oneOpd_1, resOf_rt, resOf_rn, resOf_nx, resL_n, resL_d, isNon_d, isCls_c, insOf_i, insOk_i, conts_v, conts_r, conts_i, strOk_s, blOk_b, lfo_l, lfo_k, lfo_i, kRev_l, kInX_t, kNotInX_t, kInX_p, kNotInX_p, kEq_pd, kNe_pd, kEq_pp, kNe_pp, kEq_i, kNe_i, kEq_b, kNe_b, kEq_pn, kEq_nn, kNe_nn, kNe_pn, kIx_p0, kIx_p1, tupItems_p, lf_pair, kAny_bls, kAll_bls, kSorted_pairs, kSorted_ints, lfs_ints, lfs_bls, lfs_pairs, kAdd_i, kSub_i, kLt_i, kLe_i, kGt_i, kGe_i, kNeg_i, kInt_i, kInt_b, kAbs_i, kMax_i, kMin_i, kLen_l, kLen_t, kLen_k, kLen_s, kIx_t, kIx_k, kIx_l, kIx_s, atI_0, atI_1, atI_2, atI_3, ixN_0, ixN_1, ixN_2, ixN_3, isOwn, allVal, lf, lfs, lff, lfk, wipeE, Nat.reduceBEq, entry, L3.collect, resD_d, resD_n, argsOf, putOuts, ios, okOs, hasRef, isRef,
      List.getElem?_cons_zero, List.getElem?_cons_succ, List.getElem?_nil, List.set_cons_zero, List.set_cons_succ, List.length_cons, List.length_nil, List.replicate_succ, List.replicate_zero, List.nil_append, List.cons_append, List.append_nil, List.map_cons, List.map_nil, List.any_cons, List.any_nil, List.all_cons, List.all_nil, List.nodup_cons, List.nodup_nil, List.not_mem_nil, List.contains_nil, List.contains_cons, List.take_succ_cons, List.take_zero, List.length_append, List.length_map,
      D.bl.injEq, Res.d.injEq, D.int.injEq, exists_eq_left', exists_eq_left, true_and, and_true, and_self, or_true, true_or, false_or, or_false, if_true, if_false, ite_true, ite_false, true_implies, false_implies, not_true_eq_false, not_false_eq_true, eq_self, beq_self_eq_true, Bool.true_beq, beq_true, Bool.false_beq, beq_false, Bool.not_not, decide_true, decide_false, decide_eq_true_eq, decide_eq_false_iff_not, Bool.and_true, Bool.true_and, Bool.and_self, Bool.not_true, Bool.not_false, Bool.or_self, Bool.false_or, Bool.or_false, Bool.true_or, Bool.or_true, Bool.and_false, Bool.false_and, Option.bind_some, Option.bind_none, Bool.false_eq_true, false_and, and_false, reduceCtorEq, Nat.reduceAdd, Nat.reduceSub, Nat.reduceLT, Nat.reduceLeDiff, Int.reduceLE, Int.reduceLT, Int.reduceNeg, Int.reduceToNat, Int.reducePow, Int.reduceMul, Int.reduceAdd, Int.reduceSub, reduceIte, forall_const, not_and, Bool.not_eq_true, Bool.not_eq_false])
-- end of the rule
/-! ### items of any kind -/
inductive Wo | write | read | drain | stop | close | abort | done | fail
def Wo.str : Wo → PySem.Str
  | .write => Str.ofString "write"
  | .read => Str.ofString "read"
  | .drain => Str.ofString "drain"
  | .stop => Str.ofString "stop"
  | .close => Str.ofString "close"
  | .abort => Str.ofString "abort"
  | .done => Str.ofString "done"
  | .fail => Str.ofString "fail"
def Wo.sz : Wo → Nat
  | .write => 3
  | .read => 4
  | .drain => 2
  | _ => 1
def Wo.am : Wo → Bool
  | .write => true
  | .read => true
  | _ => false
def Wo.dr : Wo → Bool
  | .drain => true
  | _ => false
def Wo.en : Wo → Bool
  | .done => true
  | .fail => true
  | _ => false
def Wo.tat (k : Wo) : Nat := if k.dr = true then 1 else 2
def wos : List Wo := [.write, .read, .drain, .stop, .close, .abort, .done, .fail]
def w8 (x : PySem.Str) : Option Wo := wos.find? fun k => k.str == x
theorem w8_str {x : PySem.Str} {k : Wo} (h : w8 x = some k) : x = k.str := (eq_of_beq (List.find?_some (p := fun k : Wo => k.str == x) h)).symm
theorem in_words (x : PySem.Str) : kIn true (.str x) (.ktp [.str "write", .str "read", .str "drain", .str "stop", .str "close", .str "abort", .str "done", .str "fail"]) = some (.bl (!(w8 x).isSome)) := by
  have e : (wos.find? fun k => k.str == x).isSome = wos.any fun k => k.str == x := by
    generalize wos = l
    induction l with
    | nil => rfl
    | cons k l ih =>
      rw [List.find?_cons, List.any_cons]
      cases k.str == x with
      | true => rfl
      | false => rw [Bool.false_or, ← ih]
  unfold w8
  rw [e]
  rfl
theorem wo_sizes (k : Wo) : ((([("write", .int 3), ("read", .int 4), ("drain", .int 2)] : List (PySem.Str × D)).lookup k.str).getD (.int 1)) = .int (k.sz : Nat) := by cases k <;> kernel_rfl
theorem wo_am (k : Wo) : kIn false (.str k.str) (.tup [.str "write", .str "read"]) = some (.bl k.am) := by cases k <;> kernel_rfl
theorem wo_dr (k : Wo) : kEq (.str k.str) (.str "drain") = some (.bl k.dr) := by cases k <;> kernel_rfl
theorem wo_en (k : Wo) : kIn true (.str k.str) (.ktp [.str "done", .str "fail"]) = some (.bl (!k.en)) := by cases k <;> kernel_rfl
theorem wo_en' (k : Wo) : kIn false (.str k.str) (.tup [.str "done", .str "fail"]) = some (.bl k.en) := by cases k <;> kernel_rfl
def intB (d : D) (lo hi : Int) : Bool := match d with
  | .int i => decide (lo ≤ i) && decide (i ≤ hi)
  | _ => false
def txts : List PySem.Str := ["write", "read", "drain", "stop", "close", "abort", "done", "fail", "WRITE", "READ", "DRAIN", "STOP", "CLOSE", "ABORT", "DONE", "FAIL", "1"]
theorem txts_ok : ∀ x ∈ txts, PyData.strOk x = true ∧ (PyData.strOk (reprText x) = true ∧ (reprText x).length ≤ 41) ∧ x.length ≤ 5 ∧ PySem.Txt.upper x ∈ txts := by decide +kernel
inductive Atm : D → Prop
  | non : Atm .non
  | bl (b : Bool) : Atm (.bl b)
  | int (i : Int) : i.natAbs ≤ 10 ^ 20 → Atm (.int i)
  | str (x : PySem.Str) : x ∈ txts → Atm (.str x)
theorem isi_b {d : D} {n m : String} (ht : tyD d = some (.inl n)) (hm : m ∈ names7) {b : Bool} (hb : subN n m = b) : kIsi [] [d, .bty m] = some (.bl b) := by rw [kIsi_b ht hm, hb]
theorem integer_any {d : D} {lo hi : Int} {Q : Res × List D → Prop} (h : Atm d) (q : Q (.d (.bl (intB d lo hi)), [])) : Ex (f_is_integer [.v d, .v (.int lo), .v (.int hi)]) Q := by
  cases h with
  | int i hi0 => exact integer_ok q
  | non =>
    have e : kIsi [] [.non, .bty "int"] = some (.bl false) := isi_b (n := "NoneType") rfl (by decide) (by decide)
    unfold f_is_integer B_is_integer
    nofun
    refine ⟨_, e, ?_⟩
    nofun
    exact q
  | str x hx =>
    have e : kIsi [] [.str x, .bty "int"] = some (.bl false) := isi_b (n := "str") rfl (by decide) (by decide)
    unfold f_is_integer B_is_integer
    nofun
    refine ⟨_, e, ?_⟩
    nofun
    exact q
  | bl b =>
    have e : kIsi [] [.bl b, .bty "int"] = some (.bl true) := isi_b (n := "bool") rfl (by decide) (by decide)
    have e2 : kIsi [] [.bl b, .bty "bool"] = some (.bl true) := isi_b (n := "bool") rfl (by decide) (by decide)
    unfold f_is_integer B_is_integer
    nofun
    refine ⟨_, e, ?_⟩
    nofun
    refine ⟨_, e2, ?_⟩
    nofun
    exact q
theorem num_int (args : List A) : f_w_is_number args = f_is_integer args := rfl
def ItmN (n : Nat) (d : D) : Prop := Atm d ∨ ∃ l, (d = .tup l ∨ d = .lst l) ∧ l.length ≤ n ∧ ∀ a ∈ l, Atm a
abbrev Itm (d : D) : Prop := ItmN 100 d
theorem ItmN.le {n m : Nat} {d : D} (h : ItmN n d) (g : n ≤ m) : ItmN m d := h.imp id fun ⟨l, h1, h2, h3⟩ => ⟨l, h1, by omega, h3⟩
def rowK (k : Wo) (x : PySem.Str) (as : List D) (i n : Int) : Bool := decide (as.length + 1 = k.sz) && (!k.am || intB (as.headD .non) 1 1000000000000000000) && ((D.str x :: as).drop k.tat).all fun a => intB a (i + 1) (n - 1)
def rowW (x : PySem.Str) (as : List D) (i n : Int) : Bool := match w8 x with
  | some k => rowK k x as i n
  | none => false
def rowB (d : D) (i n : Int) : Bool := match d with
  | .tup (.str x :: as) => rowW x as i n
  | _ => false
theorem targets_any {k : Wo} {Q : Res × List D → Prop} (q : Q (.d (.int (k.tat : Nat)), [])) : Ex (f_targets_at [.v (.str k.str)]) Q := by
  unfold f_targets_at B_targets_at
  have e := wo_dr k
  generalize k.str = x at *
  unfold Wo.tat at q
  nofun
  refine ⟨_, e, ?_⟩
  nofun
  refine ⟨fun h => ?_, fun h => ?_⟩
  · rw [if_pos h] at q; exact q
  · rw [if_neg (by rw [h]; decide)] at q; exact q
theorem atm_str {d : D} (h : Atm d) : ∃ b, kIsi [] [d, .bty "str"] = some (.bl b) ∧ (b = true → ∃ x, d = .str x ∧ x ∈ txts) ∧ (b = false → ∀ x, d ≠ .str x) := by
  cases h with
  | non => exact ⟨false, isi_b (n := "NoneType") rfl (by decide) (by decide), (fun e => by cases e), (fun _ x e => by cases e)⟩
  | bl b => exact ⟨false, isi_b (n := "bool") rfl (by decide) (by decide), (fun e => by cases e), (fun _ x e => by cases e)⟩
  | int i _ => exact ⟨false, isi_b (n := "int") rfl (by decide) (by decide), (fun e => by cases e), (fun _ x e => by cases e)⟩
  | str x hx => exact ⟨true, kIsi_si, (fun _ => ⟨x, rfl, hx⟩), (fun e => by cases e)⟩
theorem itm_tup {n : Nat} {d : D} (h : ItmN n d) : ∃ b, kIsi [] [d, .bty "tuple"] = some (.bl b) ∧ (b = true → ∃ l, d = .tup l ∧ l.length ≤ n ∧ ∀ a ∈ l, Atm a) ∧ (b = false → ∀ l, d ≠ .tup l) := by
  rcases h with h | ⟨l, e | e, hl, ha⟩
  · cases h with
    | non => exact ⟨false, isi_b (n := "NoneType") rfl (by decide) (by decide), (fun e => by cases e), (fun _ x e => by cases e)⟩
    | bl b => exact ⟨false, isi_b (n := "bool") rfl (by decide) (by decide), (fun e => by cases e), (fun _ x e => by cases e)⟩
    | int i _ => exact ⟨false, isi_b (n := "int") rfl (by decide) (by decide), (fun e => by cases e), (fun _ x e => by cases e)⟩
    | str x hx => exact ⟨false, isi_b (n := "str") rfl (by decide) (by decide), (fun e => by cases e), (fun _ x e => by cases e)⟩
  · subst e; exact ⟨true, kIsi_tt, (fun _ => ⟨l, rfl, hl, ha⟩), (fun e => by cases e)⟩
  · subst e; exact ⟨false, isi_b (n := "list") rfl (by decide) (by decide), (fun e => by cases e), (fun _ x e => by cases e)⟩
theorem rowB_no {d : D} {i n : Int} (h : ∀ x as, d ≠ .tup (.str x :: as)) : rowB d i n = false := by
  unfold rowB
  split
  · rename_i x as
    exact absurd rfl (h x as)
  · rfl
theorem row_tail {k : Wo} {l : List D} {i n : Int} {QS : Out × L3.Env → Prop} (hl : l.length ≤ 100) (ha : ∀ a ∈ l, Atm a)
    (q : QS (.rt (.bl ((l.drop k.tat).all fun a => intB a (i + 1) (n - 1))), [some (.d (.tup l)), some (.d (.int i)), some (.d (.int n)), some (.d (.str k.str)), none])) :
    Ex (B_is_row_4 [some (.d (.tup l)), some (.d (.int i)), some (.d (.int n)), some (.d (.str k.str)), none]) QS := by
  have ft := fun Q q => targets_any (k := k) (Q := Q) q
  unfold B_is_row_4
  generalize k.str = x at *
  nofun
  refine ft _ ?_
  nofun
  rw [cutL_from]
  have hl2 : (l.drop k.tat).length ≤ 100 := by rw [List.length_drop]; omega
  refine ex_lcP (l.drop k.tat) id (fun a => some (intB a (i + 1) (n - 1))) D.bl (by rw [List.map_id]) (by omega) (fun a hm => ?_) fun ρ' hρ => ?_
  · have hA := ha a (List.mem_of_mem_drop hm)
    dsimp only [id]
    nofun
    refine integer_any hA ?_
    nofun
    exact ⟨_, rfl, rfl⟩
  · rw [fmap_some, putBack_wipe hρ]
    nofun
    rw [List.all_map]
    exact q
theorem is_row_any {d : D} {i n : Int} {Q : Res × List D → Prop} (h : Itm d) (q : Q (.d (.bl (rowB d i n)), [])) : Ex (f_is_row [.v d, .v (.int i), .v (.int n)]) Q := by
  obtain ⟨b, e1, t1, t2⟩ := itm_tup h
  unfold f_is_row B_is_row B_is_row_1 B_is_row_2 B_is_row_3
  cases b with
  | false =>
    rw [rowB_no fun x as => t2 rfl _] at q
    nofun
    refine ⟨_, e1, ?_⟩
    nofun
    exact q
  | true =>
    obtain ⟨l, rfl, hl, ha⟩ := t1 rfl
    cases l with
    | nil =>
      rw [rowB_no fun x as e => by cases e] at q
      nofun
      exact ⟨fun _ => q, fun g => absurd rfl g⟩
    | cons a as =>
      obtain ⟨b, e2, s1, s2⟩ := atm_str (ha a List.mem_cons_self)
      cases b with
      | false =>
        rw [rowB_no fun x as e => by cases e; exact s2 rfl _ rfl] at q
        nofun
        refine ⟨fun g => by omega, fun _ => ?_⟩
        refine ⟨_, e2, ?_⟩
        nofun
        exact q
      | true =>
        obtain ⟨x, rfl, hx⟩ := s1 rfl
        have e3 := in_words x
        have q : Q (.d (.bl (rowW x as i n)), []) := q
        unfold rowW at q
        cases hk : w8 x with
        | none =>
          rw [hk] at e3 q
          have e3 : kIn true (.str x) (.ktp [.str "write", .str "read", .str "drain", .str "stop", .str "close", .str "abort", .str "done", .str "fail"]) = some (.bl true) := e3
          nofun
          refine ⟨fun g => by omega, fun _ => ?_⟩
          refine ⟨_, e2, ?_⟩
          nofun
          refine ⟨_, e3, ?_⟩
          nofun
          exact q
        | some k =>
          rw [hk] at e3 q
          have e3 : kIn true (.str x) (.ktp [.str "write", .str "read", .str "drain", .str "stop", .str "close", .str "abort", .str "done", .str "fail"]) = some (.bl false) := e3
          have hx8 := w8_str hk
          have f1 := wo_sizes k
          have f2 := wo_am k
          have ft := fun Q q => targets_any (k := k) (Q := Q) q
          rw [← hx8] at f1 f2 ft
          dsimp only at q
          nofun
          refine ⟨fun g => by omega, fun _ => ?_⟩
          refine ⟨_, e2, ?_⟩
          nofun
          refine ⟨_, e3, ?_⟩
          nofun
          rw [f1]
          nofun
          refine ⟨fun g => ?_, fun g => ?_⟩
          · have g' : ¬ (((as.length + 1 : Nat) : Int) = (k.sz : Nat)) := by simpa using g
            unfold rowK at q
            rw [decide_eq_false (by omega), Bool.false_and, Bool.false_and] at q
            exact q
          · have g' : (((as.length + 1 : Nat) : Int) = (k.sz : Nat)) := by simpa using g
            have ez : as.length + 1 = k.sz := by omega
            unfold rowK at q
            rw [decide_eq_true ez, Bool.true_and] at q
            refine ⟨_, f2, ?_⟩
            clear e1 e2 e3 f1 f2 g g'
            have ni := fun d lo hi Q h q => integer_any (d := d) (lo := lo) (hi := hi) (Q := Q) h q
            have rt := fun QS q => row_tail (k := k) (l := .str x :: as) (i := i) (n := n) (QS := QS) hl ha q
            rw [← hx8] at rt
            generalize B_is_row_4 = B4 at rt ⊢
            cases hm : k.am with
            | false =>
              rw [hm, Bool.not_false, Bool.true_or, Bool.true_and] at q
              nofun
              refine rt _ ?_
              nofun
              exact q
            | true =>
              rw [hm, Bool.not_true, Bool.false_or] at q
              have sz3 : 3 ≤ k.sz := by cases k <;> first | (cases hm; done) | decide
              obtain ⟨a1, r, rfl⟩ : ∃ a1 r, as = a1 :: r := by
                cases as with
                | nil => simp at ez; omega
                | cons a1 r => exact ⟨a1, r, rfl⟩
              rw [List.headD_cons] at q
              have A1 := ha a1 (List.mem_cons_of_mem _ List.mem_cons_self)
              nofun
              refine ni a1 _ _ _ A1 ?_
              nofun
              cases hb : intB a1 1 1000000000000000000 with
              | false =>
                rw [hb, Bool.false_and] at q
                nofun
                exact q
              | true =>
                rw [hb, Bool.true_and] at q
                nofun
                refine rt _ ?_
                nofun
                exact q
theorem sizes8 : (putD (putD (putD (putD (putD (putD (putD (putD [] (Sum.inr (Str.ofString "write")) (D.int 3)) (Sum.inr (Str.ofString "read")) (D.int 4)) (Sum.inr (Str.ofString "drain")) (D.int 2)) (Sum.inr (Str.ofString "stop")) (D.int 1)) (Sum.inr (Str.ofString "close")) (D.int 1)) (Sum.inr (Str.ofString "abort")) (D.int 1)) (Sum.inr (Str.ofString "done")) (D.int 1)) (Sum.inr (Str.ofString "fail")) (D.int 1)) = wos.map fun k => (Sum.inr k.str, D.int (k.sz : Nat)) := by kernel_rfl
theorem valD_wo (x : PySem.Str) : valD (wos.map fun k => (Sum.inr k.str, D.int (k.sz : Nat))) (.inr x) = (w8 x).map fun k => D.int (k.sz : Nat) := by
  unfold valD w8
  generalize wos = l
  induction l with
  | nil => rfl
  | cons k l ih =>
    rw [List.map_cons, List.find?_cons, List.find?_cons]
    by_cases e : k.str = x
    · subst e
      rw [decide_eq_true rfl, beq_self_eq_true]
      rfl
    · rw [decide_eq_false (fun z => e (Sum.inr.inj z)), beq_eq_false_iff_ne.mpr e]
      exact ih
theorem bls_false (l : List Bool) : kIn true (.bl false) (.lst (l.map D.bl)) = some (.bl (l.all id)) := by
  have e : (l.map D.bl).all flatD = true ∧ ((l.map D.bl).any fun y => eqF y (.bl false)) = !(l.all id) := by
    induction l with
    | nil => exact ⟨rfl, rfl⟩
    | cons b l ih =>
      rw [List.map_cons, List.all_cons, List.any_cons, List.all_cons, ih.1, ih.2]
      cases b <;> exact ⟨rfl, by simp [eqF]⟩
  unfold kIn
  rw [show flats (.lst (l.map D.bl)) = some _ from if_pos e.1, Option.bind_some, e.2]
  show some (D.bl (!!(l.all id))) = _
  rw [Bool.not_not]
theorem wrow_tail {k : Wo} {l : List D} {i n : Int} {dk : D} {QS : Out × L3.Env → Prop} (hl : l.length ≤ 100) (ha : ∀ a ∈ l, Atm a)
    (q : QS (.rt (.bl ((l.drop k.tat).all fun a => intB a (i + 1) (n - 1))), [some (.d (.tup l)), some (.d (.int i)), some (.d (.int n)), some (.d dk), some (.d (.int (k.tat : Nat))), none])) :
    Ex (B_w_is_row_3 [some (.d (.tup l)), some (.d (.int i)), some (.d (.int n)), some (.d dk), some (.d (.int (k.tat : Nat))), none]) QS := by
  unfold B_w_is_row_3
  nofun
  rw [cutL_from]
  have hl2 : (l.drop k.tat).length ≤ 100 := by rw [List.length_drop]; omega
  refine ex_lcP (l.drop k.tat) id (fun a => some (intB a (i + 1) (n - 1))) D.bl (by rw [List.map_id]) (by omega) (fun a hm => ?_) fun ρ' hρ => ?_
  · have hA := ha a (List.mem_of_mem_drop hm)
    dsimp only [id]
    nofun
    rw [num_int]
    refine integer_any hA ?_
    nofun
    exact ⟨_, rfl, rfl⟩
  · rw [fmap_some, putBack_wipe hρ]
    nofun
    refine ⟨_, bls_false _, ?_⟩
    nofun
    rw [List.all_map]
    exact q
theorem w_is_row_any {d : D} {i n : Int} {Q : Res × List D → Prop} (h : Itm d) (q : Q (.d (.bl (rowB d i n)), [])) : Ex (f_w_is_row [.v d, .v (.int i), .v (.int n)]) Q := by
  obtain ⟨b, e1, t1, t2⟩ := itm_tup h
  unfold f_w_is_row B_w_is_row B_w_is_row_1 B_w_is_row_2
  have vd := valD_wo
  nofun
  rw [sizes8]
  generalize (wos.map fun k => (Sum.inr k.str, D.int (k.sz : Nat))) = T at vd ⊢
  refine ⟨_, e1, ?_⟩
  cases b with
  | false =>
    rw [rowB_no fun x as => t2 rfl _] at q
    nofun
    exact q
  | true =>
    obtain ⟨l, rfl, hl, ha⟩ := t1 rfl
    cases l with
    | nil =>
      rw [rowB_no fun x as e => by cases e] at q
      nofun
      exact ⟨fun _ => q, fun g => absurd rfl g⟩
    | cons a as =>
      obtain ⟨b, e2, s1, s2⟩ := atm_str (ha a List.mem_cons_self)
      cases b with
      | false =>
        rw [rowB_no fun x as e => by cases e; exact s2 rfl _ rfl] at q
        nofun
        refine ⟨fun g => by omega, fun _ => ?_⟩
        refine ⟨_, e2, ?_⟩
        nofun
        exact q
      | true =>
        obtain ⟨x, rfl, hx⟩ := s1 rfl
        have q : Q (.d (.bl (rowW x as i n)), []) := q
        unfold rowW at q
        have f0 : kInD true (.str x) (.dk T) = some (.bl (!(w8 x).isSome)) := by
          show some (D.bl (!(valD T (.inr x)).isSome)) = _
          rw [vd]
          cases w8 x <;> rfl
        have f1 : kGet (.dk T) (.str x) = (w8 x).map fun k => D.int (k.sz : Nat) := vd x
        cases hk : w8 x with
        | none =>
          rw [hk] at f0 q
          have f0 : kInD true (.str x) (.dk T) = some (.bl true) := f0
          nofun
          refine ⟨fun g => by omega, fun _ => ?_⟩
          refine ⟨_, e2, ?_⟩
          nofun
          refine ⟨_, f0, ?_⟩
          nofun
          exact q
        | some k =>
          rw [hk] at f0 f1 q
          have f0 : kInD true (.str x) (.dk T) = some (.bl false) := f0
          have f1 : kGet (.dk T) (.str x) = some (.int (k.sz : Nat)) := f1
          dsimp only at q
          have hx8 := w8_str hk
          have f2 := wo_am k
          have f3 := wo_dr k
          rw [← hx8] at f2 f3
          nofun
          refine ⟨fun g => by omega, fun _ => ?_⟩
          refine ⟨_, e2, ?_⟩
          nofun
          refine ⟨_, f0, ?_⟩
          nofun
          refine ⟨_, f1, ?_⟩
          nofun
          clear e1 e2 f0 f1 vd
          have wt : ∀ (QS : Out × L3.Env → Prop) (c : Int), c = (k.tat : Nat) → QS (.rt (.bl (((D.str x :: as).drop k.tat).all fun a => intB a (i + 1) (n - 1))), [some (.d (.tup (.str x :: as))), some (.d (.int i)), some (.d (.int n)), some (.d (.dk T)), some (.d (.int c)), none]) →
              Ex (B_w_is_row_3 [some (.d (.tup (.str x :: as))), some (.d (.int i)), some (.d (.int n)), some (.d (.dk T)), some (.d (.int c)), none]) QS := fun QS c hc q => by
            subst hc
            exact wrow_tail hl ha q
          generalize B_w_is_row_3 = B3 at wt ⊢
          have fin : ∀ {QS : Out × L3.Env → Prop}, (∀ c : Int, QS (.rt (.bl (((D.str x :: as).drop k.tat).all fun a => intB a (i + 1) (n - 1))), [some (.d (.tup (.str x :: as))), some (.d (.int i)), some (.d (.int n)), some (.d (.dk T)), some (.d (.int c)), none])) →
              Ex (sSeq (sSet 4 (eIf (tV (L3.e2 kEq (oV (L3.e2 kIx (oV (eV 0)) (oV (eC (.int 0))))) (oV (eC (.str "drain"))))) (eC (.int 1)) (eC (.int 2)))) B3 [some (.d (.tup (.str x :: as))), some (.d (.int i)), some (.d (.int n)), some (.d (.dk T)), none, none]) QS := fun {QS} q => by
            nofun
            refine ⟨_, f3, ?_⟩
            nofun
            refine ⟨fun hd => ?_, fun hd => ?_⟩
            · exact wt _ 1 (by unfold Wo.tat; rw [if_pos hd]; rfl) (q _)
            · exact wt _ 2 (by unfold Wo.tat; rw [if_neg (by rw [hd]; decide)]; rfl) (q _)
          generalize sSeq (sSet 4 (eIf (tV (L3.e2 kEq (oV (L3.e2 kIx (oV (eV 0)) (oV (eC (.int 0))))) (oV (eC (.str "drain"))))) (eC (.int 1)) (eC (.int 2)))) B3 = S3 at fin ⊢
          refine ⟨fun g => ?_, fun g => ?_⟩
          · have g' : ¬ (((as.length + 1 : Nat) : Int) = (k.sz : Nat)) := by simpa using g
            unfold rowK at q
            rw [decide_eq_false (by omega), Bool.false_and, Bool.false_and] at q
            exact q
          · have g' : (((as.length + 1 : Nat) : Int) = (k.sz : Nat)) := by simpa using g
            have ez : as.length + 1 = k.sz := by omega
            unfold rowK at q
            rw [decide_eq_true ez, Bool.true_and] at q
            refine ⟨_, f2, ?_⟩
            clear f2 g g'
            have ni := fun d lo hi Q h q => integer_any (d := d) (lo := lo) (hi := hi) (Q := Q) h q
            cases hm : k.am with
            | false =>
              rw [hm, Bool.not_false, Bool.true_or, Bool.true_and] at q
              nofun
              refine fin fun c => ?_
              nofun
              exact q
            | true =>
              rw [hm, Bool.not_true, Bool.false_or] at q
              have sz3 : 3 ≤ k.sz := by cases k <;> first | (cases hm; done) | decide
              obtain ⟨a1, r, rfl⟩ : ∃ a1 r, as = a1 :: r := by
                cases as with
                | nil => simp at ez; omega
                | cons a1 r => exact ⟨a1, r, rfl⟩
              rw [List.headD_cons] at q
              have A1 := ha a1 (List.mem_cons_of_mem _ List.mem_cons_self)
              nofun
              rw [num_int]
              refine ni a1 _ _ _ A1 ?_
              nofun
              cases hb : intB a1 1 1000000000000000000 with
              | false =>
                rw [hb, Bool.false_and] at q
                nofun
                exact q
              | true =>
                rw [hb, Bool.true_and] at q
                nofun
                refine fin fun c => ?_
                nofun
                exact q
/-! ### programs of any kind -/
def oD : Option Int → D
  | some i => .int i
  | none => .non
def wrong1 (l : List D) : Option Nat := (List.range l.length).find? fun i => !rowB (l.getD i .non) (0 + (i : Int)) l.length
def endB (d : D) : Bool := match d with
  | .tup (.str x :: _) => match w8 x with
    | some k => k.en
    | none => false
  | _ => false
def progL (l : List D) : Option Int := if 1 ≤ l.length ∧ l.length ≤ 24 then match wrong1 l with
    | some i => some (0 + (i : Int))
    | none => if endB (l.getLastD .non) = true then none else some l.length
  else some (-1)
def progO : D → Option Int
  | .lst l => progL l
  | .tup l => progL l
  | _ => some (-1)
/-- a list or a tuple of such items -/
structure Seq (v : D) (l : List D) : Prop where
  isi : kIsiT [] [v, .tup [.bty "list", .bty "tuple"]] = some (.bl true)
  len : kLen [v] = some (.int l.length)
  enu : enumA [.val v] = some l
  ix : ∀ i, kIx v (.int i) = atI l i
  tpl : kTuple [v] = some (.tup l)
  o : progO v = progL l
  b : l.length ≤ 100
  itm : ∀ x ∈ l, Itm x
theorem seq_l {l : List D} (h1 : l.length ≤ 100) (h2 : ∀ x ∈ l, Itm x) : Seq (.lst l) l := ⟨kIsiT_l, kLen_l, enumA_l, fun _ => rfl, kTuple_l, rfl, h1, h2⟩
theorem seq_t {l : List D} (h1 : l.length ≤ 100) (h2 : ∀ x ∈ l, Itm x) : Seq (.tup l) l := ⟨kIsiT_t, kLen_t, enumA_t, fun _ => rfl, kTuple_t, rfl, h1, h2⟩
theorem not_seq {v : D} (h : Atm v) : kIsiT [] [v, .tup [.bty "list", .bty "tuple"]] = some (.bl false) ∧ progO v = some (-1) := by
  cases h with
  | non =>
    refine ⟨?_, rfl⟩
    unfold kIsiT
    show (if inCs [] (.inl "NoneType") = true then (isiAny [] (.inl "NoneType") [.bty "list", .bty "tuple"]).bind fun b => some (D.bl b) else none) = _
    rfl
  | bl b =>
    refine ⟨?_, rfl⟩
    unfold kIsiT
    show (if inCs [] (.inl "bool") = true then (isiAny [] (.inl "bool") [.bty "list", .bty "tuple"]).bind fun b => some (D.bl b) else none) = _
    rfl
  | int i _ =>
    refine ⟨?_, rfl⟩
    unfold kIsiT
    show (if inCs [] (.inl "int") = true then (isiAny [] (.inl "int") [.bty "list", .bty "tuple"]).bind fun b => some (D.bl b) else none) = _
    rfl
  | str x _ =>
    refine ⟨?_, rfl⟩
    unfold kIsiT
    show (if inCs [] (.inl "str") = true then (isiAny [] (.inl "str") [.bty "list", .bty "tuple"]).bind fun b => some (D.bl b) else none) = _
    rfl
def VOk (v : D) : Prop := Atm v ∨ ∃ l, Seq v l
def badI (l : List D) (i : Nat) : Option Nat := if rowB (l.getD i .non) (0 + (i : Int)) l.length = true then none else some i
theorem bad_head (l : List D) : ((List.range l.length).filterMap (badI l)).head? = wrong1 l := by
  unfold wrong1 badI
  generalize l.length = n
  generalize List.range n = r
  induction r with
  | nil => rfl
  | cons i r ih =>
    rw [List.filterMap_cons, List.find?_cons]
    cases rowB (l.getD i .non) (0 + (i : Int)) n with
    | true => exact ih
    | false => rfl
theorem ne_nil (l : List Nat) : kNe (.lst (l.map fun (i : Nat) => D.int (0 + (i : Int)))) (.lst []) = some (.bl (!l.isEmpty)) := by
  have hs : sh 64 (.lst (l.map fun (i : Nat) => D.int (0 + (i : Int)))) = true := by
    unfold sh
    rw [List.all_map, List.all_eq_true]
    intro i _
    rfl
  rw [kNe_sh hs (by unfold sh; rfl)]
  cases l with
  | nil => simp only [List.map_nil, dEq, dEqs]; rfl
  | cons c r => simp only [List.map_cons, dEq, dEqs]; rfl
theorem at_i {l : List D} {i : Nat} (h : i < l.length) : atI l (0 + (i : Int)) = some (l.getD i .non) := by
  rw [atI_at (by omega) (by omega), show (0 + (i : Int)).toNat = i by omega, List.getD_eq_getElem?_getD, List.getElem?_eq_getElem h]
  rfl
theorem rowB_end {d : D} {i n : Int} (h : rowB d i n = true) : ∃ k as, d = .tup (.str (Wo.str k) :: as) ∧ endB d = k.en := by
  unfold rowB at h
  split at h
  · rename_i x as
    unfold rowW at h
    split at h
    · rename_i k hk
      refine ⟨k, as, by rw [w8_str hk], ?_⟩
      show (match w8 x with
        | some k => k.en
        | none => false) = _
      rw [hk]
    · cases h
  · cases h
theorem last_at {l : List D} (h : 1 ≤ l.length) : atI l ((l.length : Int) - 1) = some (l.getLastD .non) ∧ atI l (-1) = some (l.getLastD .non) ∧ l.getLastD .non = l.getD (l.length - 1) .non := by
  have ne : l ≠ [] := by intro e; rw [e] at h; simp at h
  have e0 : l.getLast? = some (l.getLastD .non) := by
    rw [List.getLastD_eq_getLast?, List.getLast?_eq_some_getLast ne]; rfl
  have e1 : l.getLast? = l[l.length - 1]? := List.getLast?_eq_getElem? ..
  refine ⟨?_, ?_, ?_⟩
  · rw [atI_at (by omega) (by omega), show ((l.length : Int) - 1).toNat = l.length - 1 by omega, ← e1, e0]
  · rw [atI_last ne, e0]
  · rw [List.getD_eq_getElem?_getD, ← e1, e0]; rfl
theorem all_of_none {l : List D} (h : wrong1 l = none) : ∀ i, i < l.length → rowB (l.getD i .non) (0 + (i : Int)) l.length = true := fun i hi => by
  have := List.find?_eq_none.mp h i (List.mem_range.mpr hi)
  simpa using this
theorem due_any {v : D} {Q : Res × List D → Prop} (h : VOk v) (q : Q (.d (oD (progO v)), [])) : Ex (f_w_due [.v v]) Q := by
  unfold f_w_due B_w_due B_w_due_1
  rcases h with h | ⟨l, S⟩
  · obtain ⟨e1, e2⟩ := not_seq h
    rw [e2] at q
    nofun
    refine ⟨_, e1, ?_⟩
    nofun
    exact q
  · rw [S.o] at q
    have lb := S.b
    nofun
    refine ⟨_, S.isi, ?_⟩
    nofun
    refine ⟨_, S.len, ?_⟩
    nofun
    unfold progL at q
    refine ⟨fun g => ?_, fun g => ?_⟩
    · by_cases g2 : l.length ≤ 24
      · rw [if_pos ⟨by omega, g2⟩] at q
        rw [decide_eq_true (show (l.length : Int) ≤ 24 by omega)]
        nofun
        refine ⟨_, S.len, ?_⟩
        nofun
        refine ⟨decide_eq_true (by omega), ?_⟩
        refine ex_lcP (List.range l.length) (fun i => .int (0 + (i : Int))) (badI l) (fun i => .int (0 + (i : Int))) rfl (by unfold rng; rw [List.length_map, List.length_range]; omega) (fun i hi => ?_) fun ρ' hρ => ?_
        · have hi := List.mem_range.mp hi
          have e1 := S.ix (0 + (i : Int))
          rw [at_i hi] at e1
          have hI : Itm (l.getD i .non) := by
            rw [List.getD_eq_getElem?_getD, List.getElem?_eq_getElem hi]
            exact S.itm _ (List.getElem_mem hi)
          have ra := fun Q q => w_is_row_any (d := l.getD i .non) (i := 0 + (i : Int)) (n := (l.length : Int)) (Q := Q) hI q
          unfold badI
          generalize l.getD i .non = d at *
          generalize hz : (0 + (i : Int)) = I at *
          nofun
          refine ⟨_, e1, ?_⟩
          nofun
          refine ⟨_, S.len, ?_⟩
          nofun
          refine ra _ ?_
          nofun
          cases rowB d I l.length with
          | true => exact ⟨fun e => Bool.noConfusion e, fun _ => rfl⟩
          | false => exact ⟨fun _ => ⟨i, rfl, hz.symm⟩, fun e => Bool.noConfusion e⟩
        · rw [putBack_wipe hρ]
          have hh := bad_head l
          have hn := ne_nil ((List.range l.length).filterMap (badI l))
          generalize hF : (List.range l.length).filterMap (badI l) = F at *
          rw [← hh] at q
          rw [show putBack [some (L3.S.d v), none, none] [some (L3.S.d v), none, none] [2] = [some (L3.S.d v), none, none] from rfl]
          cases F with
          | cons i r =>
            nofun
            refine ⟨_, hn, ?_⟩
            nofun
            exact ⟨fun _ => q, fun e => Bool.noConfusion e⟩
          | nil =>
            have hw : wrong1 l = none := hh.symm
            have l1 : 1 ≤ l.length := by omega
            obtain ⟨a1, a2, a3⟩ := last_at l1
            have lo := all_of_none hw (l.length - 1) (by omega)
            rw [← a3] at lo
            obtain ⟨k, as, ed, ee⟩ := rowB_end lo
            have q : Q (.d (oD (if endB (l.getLastD .non) = true then none else some (l.length : Int))), []) := q
            rw [ee] at q
            have e1 := S.ix ((l.length : Int) - 1)
            rw [a1, ed] at e1
            have e2 := wo_en' k
            nofun
            refine ⟨_, S.len, ?_⟩
            nofun
            refine ⟨_, e1, ?_⟩
            nofun
            refine ⟨_, e2, ?_⟩
            cases hk : k.en with
            | true =>
              rw [hk] at q
              nofun
              exact q
            | false =>
              rw [hk] at q
              nofun
              refine ⟨_, S.len, ?_⟩
              nofun
              exact q
      · rw [if_neg (fun z => g2 z.2)] at q
        rw [decide_eq_false (show ¬ (l.length : Int) ≤ 24 by omega)]
        nofun
        exact q
    · rw [if_neg (by omega)] at q
      exact q
theorem wrong1_some {l : List D} {j : Nat} (hj : j < l.length) (h0 : rowB (l.getD j .non) (0 + (j : Int)) l.length = false) (h : ∀ i, i < j → rowB (l.getD i .non) (0 + (i : Int)) l.length = true) : wrong1 l = some j := by
  unfold wrong1
  rw [List.find?_range_eq_some]
  refine ⟨by rw [h0]; rfl, List.mem_range.mpr hj, fun i hi => by rw [h i hi]; rfl⟩
theorem wrong1_none {l : List D} (h : ∀ i, i < l.length → rowB (l.getD i .non) (0 + (i : Int)) l.length = true) : wrong1 l = none := by
  unfold wrong1
  rw [List.find?_eq_none]
  intro i hi
  rw [h i (List.mem_range.mp hi)]
  decide
theorem told_any {C CP : Addr} {v : D} {Q : Res × List D → Prop} (h : VOk v) (q : Q (.d (oD (progO v)), [])) : Ex (f_w_told C CP [.v v]) Q := by
  unfold f_w_told B_w_told f_c_Program_init B_c_Program_init
  rcases h with h | ⟨l, S⟩
  · obtain ⟨e1, e2⟩ := not_seq h
    rw [e2] at q
    nofun
    refine ⟨_, e1, ?_⟩
    nofun
    exact q
  · rw [S.o] at q
    have lb := S.b
    nofun
    refine ⟨_, S.isi, ?_⟩
    nofun
    refine ⟨_, S.len, ?_⟩
    nofun
    unfold progL at q
    refine ⟨fun g => ?_, fun g => ?_⟩
    · by_cases g2 : l.length ≤ 24
      · rw [if_pos ⟨by omega, g2⟩] at q
        rw [decide_eq_true (show (l.length : Int) ≤ 24 by omega)]
        nofun
        refine ⟨_, S.enu, ?_⟩
        show Ex (loopX _ _ (enumD l) _) _
        refine ex_loopX (enumD l) (fun j ρ => (∃ x2 x3, ρ = [some (L3.S.own (some 0) (D.ins CP [])), some (L3.S.d v), x2, x3]) ∧ ∀ i, i < j → rowB (l.getD i .non) (0 + (i : Int)) l.length = true) ⟨⟨_, _, rfl⟩, fun i hi => absurd hi (by omega)⟩ ?_ ?_
        · rintro j x ρ hx ⟨⟨x2, x3, rfl⟩, hall⟩
          have hj : j < l.length := by
            have := (List.getElem?_eq_some_iff.mp hx).1
            rw [enumD_len] at this
            exact this
          rw [enumD_get (x := l[j]) (List.getElem?_eq_getElem hj)] at hx
          cases hx
          have eg : l.getD j .non = l[j] := by rw [List.getD_eq_getElem?_getD, List.getElem?_eq_getElem hj]; rfl
          have hI := S.itm _ (List.getElem_mem hj)
          have wz := wrong1_some (l := l) (j := j) hj
          rw [eg, Int.zero_add] at wz
          have step : rowB l[j] (j : Int) l.length = true → ∀ i, i < j + 1 → rowB (l.getD i .non) (0 + (i : Int)) l.length = true := fun hr i hi => by
            by_cases e : i = j
            · subst e
              rw [eg, Int.zero_add]
              exact hr
            · exact hall i (by omega)
          generalize l[j] = d at *
          have ra := fun Q (q : Q (Res.d (.bl (rowB d (j : Int) l.length)), [])) => is_row_any (d := d) (i := (j : Int)) (n := (l.length : Int)) (Q := Q) hI q
          nofun
          refine ⟨_, S.len, ?_⟩
          nofun
          refine ra _ ?_
          nofun
          cases hr : rowB d (j : Int) l.length with
          | true =>
            nofun
            exact ⟨⟨_, _, rfl⟩, step hr⟩
          | false =>
            have q : Q (.d (oD (some (0 + (j : Int)))), []) := by
              rw [wz hr hall] at q
              exact q
            rw [Int.zero_add] at q
            nofun
            exact q
        · rintro ρ ⟨⟨x2, x3, rfl⟩, hall⟩
          rw [enumD_len] at hall
          have hw := wrong1_none hall
          have l1 : 1 ≤ l.length := by omega
          obtain ⟨a1, a2, a3⟩ := last_at l1
          have lo := hall (l.length - 1) (by omega)
          rw [← a3] at lo
          obtain ⟨k, as, ed, ee⟩ := rowB_end lo
          rw [hw] at q
          have q : Q (.d (oD (if endB (l.getLastD .non) = true then none else some (l.length : Int))), []) := q
          rw [ee] at q
          have e1 := S.ix (-1)
          rw [a2, ed] at e1
          have e2 := wo_en k
          nofun
          refine ⟨_, e1, ?_⟩
          nofun
          refine ⟨_, e2, ?_⟩
          cases hk : k.en with
          | false =>
            rw [hk] at q
            nofun
            refine ⟨_, S.len, ?_⟩
            nofun
            exact q
          | true =>
            rw [hk] at q
            nofun
            refine ⟨_, S.tpl, ?_⟩
            nofun
            exact q
      · rw [if_neg (fun z => g2 z.2)] at q
        rw [decide_eq_false (show ¬ (l.length : Int) ≤ 24 by omega)]
        nofun
        exact q
    · rw [if_neg (by omega)] at q
      exact q
end My

namespace My
open PySem L2 L3
local macro_rules
  | `(tactic| nofun) => `(tactic| simp only [↓x_eC, ↓x_eIxO, intD_i, ↓x_sDrop, datR_d, ↓x_eJs, ↓x_jsC, ↓x_jsN, x_fmtI, x_fmtS, strD_s, ↓x_eV, ↓x_oV, ↓x_oR, ↓x_oI, ↓x_fin, ↓x_finN, ↓x_e1, ↓x_e2, ↓x_eL, ↓x_nL, ↓x_aN, ↓x_aC, ↓x_resAll, ↓x_valsOf, ↓x_tV, ↓x_tNt, ↓x_tAn, ↓x_tOr, ↓x_tYs, ↓x_eB, ↓x_eIf, ↓x_eAnd, ↓x_eOr, ↓x_eNot, ↓x_eTup, ↓x_nLst, ↓x_eChain,
      ↓x_sNx, ↓x_xFor, ↓x_makX, makR_l, makR_z, nonO_n, brkX_nx, brkX_ct, brkX_br, brkX_rt, brkX_z, ↓x_xL, ↓x_xSeq, ↓x_xIf, ↓x_xRai, ↓x_xTryR, ↓x_evX, ↓x_xRetC, ↓x_xSetC, ↓x_xExC, ↓x_mkX, seqX_nx, seqX_rt, seqX_rn, seqX_z, mkK_l, mkK_z, evK_l, evK_z, retK_l, retK_z, setK_l, setK_z, exK_l, exK_z, tryK_l, tryK_z, noS_y, outsX_l, outsX_z, ↓x_eM0, ↓x_sStar, ↓x_itZM, zipN_t, zipN_k, ↓x1L_c, ↓x_itEA, enumA_l, enumA_t, enumA_k, ↓x_sSeq, ↓x_sRet, ↓x_sRetN, ↓x_sRetO, ↓x_sIf, ↓x_sSet, ↓x_sSetN, ↓x_sOwn, ↓x_sEx, ↓x_sFrz, ↓x_sBr, ↓x_sCt, ↓x_sAsg, ↓x_gN, ↓x_gTp, ↓x_gsN, ↓x_gsC, ↓x_sPar2, two_2, ↓x_sApp, ↓x_sPutL, ↓x_sPutD, ↓x_itV, ↓x_itT, ↓x_itR1, ↓x_itR2, ↓x_sFor, ↓x_nLc,
      ↓x_mkF, ↓x_callO, ↓x_eCall, ↓x_eCallS, ↓x_nCall, ↓x_eMeth, ↓x_eProp, ↓x_eCMeth, ↓x_nMake, ↓x_nMakeL, ↓x_eInO, ↓x_sFld, ↓x_loop_n, ↓x_loop_c, ↓x_nDsp, ↓x_dspN, ↓x_dspC, ↓x_kAddL, ↓x_kAddT, ↓x_eSl, ↓x_bN, ↓x_bS, ↓x_itZ, ↓x_itE, ↓x_nMeth, ↓x_nLcO, ↓x_eFldR, ↓x_sLst0, ↓x_eM1, ↓x_eUnO, ↓x_eBinO, ↓x_eNeO, ↓x_nLc2, ↓x_eKGet, ↓x_eKIn, ↓x_eDGet2, ↓x_aS, ↓x_eTupS, ↓x_nLstS, ↓x_valsApp, strO_s, dkD_k, seqItems_t, seqItems_kt, seqItems_l, ↓x_sParN, ↓x_sParE, ↓x_sParB, ↓x_lcLoop_n, ↓x_lcLoop_c, ↓x_gTl, ↓x_kMul, ↓x_kFdiv, ↓x_kMod, ↓x_kPow,
      ex_some, ex_none, ex_bind, seqK_nx, seqK_br, seqK_ct, seqK_rt, seqK_rn, seqK_rr, brk_nx, brk_ct, brk_br, brk_rt, brk_rn, brk_rr, finR_d, finR_n, retO, dAt, ownAny, ownNew, ownL, ownK, ownIn, res_v, res_r, res_i, isVal_v, isVal_r, isVal_i, resAll_n, valsOf_n, int1, int2,
      wide_10, wide_2, kFld_hit, kSl_l, kSl_t, kIsi_ll, kIsi_tt, kIsN_n, kNotN_n, isN_n, isN_i, isN_s, isN_t, cutL_map, cutL_1, zipD_map, zipM_l, kList_l, kTuple_l, kTuple_t, isS, putFD_n, keyOf_i, keyOf_s, kSorted_k0, kSorted_dset, dset_len, tupItems_t, tupItems_kt, lstItems_l, lstItems_sc, lstOnly_l, oneOpd_1, resOf_rt, resOf_rn, resOf_nx, resL_n, resL_d, isNon_d, isCls_c, insOf_i, insOk_i, conts_v, conts_r, conts_i, strOk_s, blOk_b, lfo_l, lfo_k, lfo_i, kRev_l, kInX_t, kNotInX_t, kInX_p, kNotInX_p, kEq_pd, kNe_pd, kEq_pp, kNe_pp, kEq_i, kNe_i, kEq_b, kNe_b, kEq_pn, kEq_nn, kNe_nn, kNe_pn, kIx_p0, kIx_p1, tupItems_p, lf_pair, kAny_bls, kAll_bls, kSorted_pairs, kSorted_ints, lfs_ints, lfs_bls, lfs_pairs, kAdd_i, kSub_i, kLt_i, kLe_i, kGt_i, kGe_i, kNeg_i, kInt_i, kInt_b, kAbs_i, kMax_i, kMin_i, kLen_l, kLen_t, kLen_k, kLen_s, kIx_t, kIx_k, kIx_l, kIx_s, atI_0, atI_1, atI_2, atI_3, ixN_0, ixN_1, ixN_2, ixN_3, isOwn, allVal, lf, lfs, lff, lfk, wipeE, Nat.reduceBEq, entry, L3.collect, resD_d, resD_n, argsOf, putOuts, ios, okOs, hasRef, isRef,
      List.getElem?_cons_zero, List.getElem?_cons_succ, List.getElem?_nil, List.set_cons_zero, List.set_cons_succ, List.length_cons, List.length_nil, List.replicate_succ, List.replicate_zero, List.nil_append, List.cons_append, List.append_nil, List.map_cons, List.map_nil, List.any_cons, List.any_nil, List.all_cons, List.all_nil, List.nodup_cons, List.nodup_nil, List.not_mem_nil, List.contains_nil, List.contains_cons, List.take_succ_cons, List.take_zero, List.length_append, List.length_map,
      D.bl.injEq, Res.d.injEq, D.int.injEq, exists_eq_left', exists_eq_left, true_and, and_true, and_self, or_true, true_or, false_or, or_false, if_true, if_false, ite_true, ite_false, true_implies, false_implies, not_true_eq_false, not_false_eq_true, eq_self, beq_self_eq_true, Bool.true_beq, beq_true, Bool.false_beq, beq_false, Bool.not_not, decide_true, decide_false, decide_eq_true_eq, decide_eq_false_iff_not, Bool.and_true, Bool.true_and, Bool.and_self, Bool.not_true, Bool.not_false, Bool.or_self, Bool.false_or, Bool.or_false, Bool.true_or, Bool.or_true, Bool.and_false, Bool.false_and, Option.bind_some, Option.bind_none, Bool.false_eq_true, false_and, and_false, reduceCtorEq, Nat.reduceAdd, Nat.reduceSub, Nat.reduceLT, Nat.reduceLeDiff, Int.reduceLE, Int.reduceLT, Int.reduceNeg, Int.reduceToNat, Int.reducePow, Int.reduceMul, Int.reduceAdd, Int.reduceSub, reduceIte, forall_const, not_and, Bool.not_eq_true, Bool.not_eq_false])
-- end of the rule
theorem cutL_to {α : Type} {l : List α} {k : Nat} (h : k ≤ l.length) : cutL l none (some (k : Int)) = l.take k := by
  unfold cutL
  have e1 : HT.sIx l.length 0 none = 0 := rfl
  have e2 : HT.sIx l.length l.length (some (k : Int)) = k := by
    unfold HT.sIx
    simp
    rw [if_neg (by omega)]
    omega
  rw [e1, e2, List.drop_zero, Nat.sub_zero]
theorem cut_a {l : List D} {k : Nat} (h : k < l.length) : cutL l none (some (k : Int)) = l.take k := cutL_to (by omega)
theorem cut_b {α : Type} {l : List α} {k : Nat} : cutL l (some ((k : Int) + 1)) none = l.drop (k + 1) := by rw [show ((k : Int) + 1) = ((k + 1 : Nat) : Int) by omega, cutL_from]
structure Rws (n m : Nat) (l : List D) : Prop where
  len : l.length = n
  itm : ∀ x ∈ l, ItmN m x
theorem Rws.put {n m k : Nat} {l : List D} {x : D} (h : Rws n m l) (hk : k < n) (hx : ItmN (m + 1) x) : Rws n (m + 1) (l.take k ++ [x] ++ l.drop (k + 1)) := by
  refine ⟨by have := h.len; simp; omega, fun y hy => ?_⟩
  rcases List.mem_append.mp hy with hy | hy
  · rcases List.mem_append.mp hy with hy | hy
    · exact (h.itm y (List.mem_of_mem_take hy)).le (by omega)
    · rw [List.mem_singleton.mp hy]; exact hx
  · exact (h.itm y (List.mem_of_mem_drop hy)).le (by omega)
theorem atm_int {i : Int} (h : i.natAbs ≤ 10 ^ 20) : Atm (.int i) := .int i h
theorem itm_atm {n : Nat} {d : D} (h : Atm d) : ItmN n d := .inl h
theorem itm_t {n : Nat} {l : List D} (h : l.length ≤ n) (ha : ∀ a ∈ l, Atm a) : ItmN n (.tup l) := .inr ⟨l, .inl rfl, h, ha⟩
theorem itm_l {n : Nat} {l : List D} (h : l.length ≤ n) (ha : ∀ a ∈ l, Atm a) : ItmN n (.lst l) := .inr ⟨l, .inr rfl, h, ha⟩
theorem one_atm {x : D} (h : Atm x) : ∀ a ∈ [x], Atm a := fun a ha => by rw [List.mem_singleton.mp ha]; exact h
theorem app_atm {l m : List D} (h : ∀ a ∈ l, Atm a) (g : ∀ a ∈ m, Atm a) : ∀ a ∈ l ++ m, Atm a := fun a ha => (List.mem_append.mp ha).elim (h a) (g a)
theorem tx (s : String) (h : Str.ofString s ∈ txts := by decide +kernel) : Atm (.str s) := .str _ h
theorem odd4_ok {i : Int} {Q : D → Prop} (h0 : 0 ≤ i) (h5 : i < 4) (k : ∀ x, ItmN 1 x → Q x) : Ex (atI [D.tup [D.str "stop"], D.non, D.int 3, D.str "done"] i) Q := by
  refine ex_mem h0 (by simp only [List.length_cons, List.length_nil]; omega) fun x hx => k x ?_
  simp only [List.mem_cons, List.not_mem_nil, or_false] at hx
  rcases hx with e | e | e | e <;> subst e
  · exact itm_t (by decide) (one_atm (tx "stop"))
  · exact itm_atm .non
  · exact itm_atm (atm_int (by decide))
  · exact itm_atm (tx "done")
theorem spoil2_ok {t n m k : Nat} {d : D} {l z : List D} {nb x4 x7 : D} {r3 : Int} {QS : Out × L3.Env → Prop} (hs : Src t d) (ht : t < 2 ^ 31) (hr : Rws n m l) (h2 : n ≤ 100) (hk : k < l.length) (zl : z.length ≤ m) (hm : m ≤ 20) (za : ∀ a ∈ z, Atm a) (hnb : Atm nb) (a3 : 0 ≤ r3) (b3 : r3 < 3)
    (q1 : ∀ d' l', Src (t + 1) d' → Rws n (m + 1) l' → QS (.rt (.lst l'), [some (.own (some 0) d'), some (.d (.lst l)), some (.d (.int k)), some (.d (.tup z)), some (.d x4), some (.d nb), some (.d (.int (1 + r3))), some (.d x7)]))
    (q2 : ∀ d', Src (t + 1) d' → QS (.nx, [some (.own (some 0) d'), some (.d (.lst l)), some (.d (.int k)), some (.d (.tup z)), some (.d x4), some (.d nb), some (.d (.int (1 + r3))), some (.d x7)])) :
    Ex (B_w_spoiled_2 [some (.own (some 0) d), some (.d (.lst l)), some (.d (.int k)), some (.d (.tup z)), some (.d x4), some (.d nb), some (.d (.int (1 + r3))), some (.d x7)]) QS := by
  have hl := hr.len
  obtain ⟨p, hp⟩ : ∃ p : Nat, 1 + r3 = (p : Nat) := ⟨(1 + r3).toNat, by omega⟩
  rw [hp] at q1 q2 ⊢
  have c1 : (cutL l none (some (k : Int))).length ≤ 100 := by rw [cut_a hk, List.length_take]; omega
  have c2 : (cutL l (some ((k : Int) + 1)) none).length ≤ 100 := by rw [cut_b, List.length_drop]; omega
  have c3 : ∀ x, ItmN (m + 1) x → Rws n (m + 1) (cutL l none (some (k : Int)) ++ [x] ++ cutL l (some ((k : Int) + 1)) none) := fun x hx => by
    rw [cut_a hk, cut_b]
    exact hr.put (by omega) hx
  unfold B_w_spoiled_2
  nofun
  refine ⟨fun g => ?_, fun g => ?_⟩
  · refine draw_ok hs (by omega) (by decide) (by decide) fun r4 d4 a4 b4 s4 => ?_
    nofun
    refine ⟨fun g2 => ?_, fun g2 => ?_⟩
    · have hpz : p < z.length := by omega
      have e1 : (cutL z none (some (p : Int))).length ≤ m := by rw [cut_a hpz, List.length_take]; omega
      have e2 : (cutL z (some ((p : Int) + 1)) none).length ≤ m := by rw [cut_b, List.length_drop]; omega
      have e3 : ItmN (m + 1) (.tup (cutL z none (some (p : Int)) ++ [nb] ++ cutL z (some ((p : Int) + 1)) none)) := by
        rw [cut_a hpz, cut_b]
        refine itm_t (by simp only [List.length_append, List.length_cons, List.length_nil, List.length_take, List.length_drop]; omega) (app_atm (app_atm (fun a ha => za a (List.mem_of_mem_take ha)) (one_atm hnb)) fun a ha => za a (List.mem_of_mem_drop ha))
      exact ⟨by omega, by omega, by omega, by omega, q1 _ _ s4 (c3 _ e3)⟩
    · exact q2 _ s4
  · exact q2 _ (hs.le (by omega))
theorem spoiled_ok {t n m : Nat} {d : D} {l : List D} {Q : Res × List D → Prop} (hs : Src t d) (ht : t < 2 ^ 30) (hr : Rws n m l) (h1 : 1 ≤ n) (h2 : n ≤ 100) (hm : 1 ≤ m ∧ m ≤ 20) (q : ∀ d' l', Src (t + 8) d' → Rws n (m + 1) l' → Q (.d (.lst l'), [d'])) : Ex (f_w_spoiled [.io d, .v (.lst l)]) Q := by
  have hl := hr.len
  unfold f_w_spoiled B_w_spoiled B_w_spoiled_1
  nofun
  refine draw_ok hs (by omega) (by omega) (by omega) fun r1 d1 a1 b1 s1 => ?_
  obtain ⟨k, rfl⟩ := Int.eq_ofNat_of_zero_le a1
  have hk : k < l.length := by omega
  nofun
  rw [atI_at (by omega) (by omega), show ((k : Int)).toNat = k from Int.toNat_natCast k, List.getElem?_eq_getElem hk]
  have hI := hr.itm _ (List.getElem_mem hk)
  generalize l[k] = row at hI ⊢
  have hk0 : (0 : Int) ≤ k := by omega
  have c1 : (cutL l none (some (k : Int))).length ≤ 100 := by rw [cut_a hk, List.length_take]; omega
  have c2 : (cutL l (some ((k : Int) + 1)) none).length ≤ 100 := by rw [cut_b, List.length_drop]; omega
  have c3 : ∀ x, ItmN (m + 1) x → Rws n (m + 1) (cutL l none (some (k : Int)) ++ [x] ++ cutL l (some ((k : Int) + 1)) none) := fun x hx => by
    rw [cut_a hk, cut_b]
    exact hr.put (by omega) hx
  -- the odd item, where the row is no row
  have early : ∀ {ρ6 ρ7 : Option S}, Ex (sRet (e2 kAdd (oV (e2 kAdd (oV (eSl (oV (eV 1)) (bN) (bS (eV 2)))) (oV (nLst (aC (oV (e2 kIx (oV (nLst (aC (oV (eTup (aC (oV (eC (.str "stop"))) (aN)))) (aC (oV (eC .non)) (aC (oV (eC (.int 3))) (aC (oV (eC (.str "done"))) (aN))))))) (oV (eCall (f_w_draw) [] (aC (oI 0) (aC (oV (eC (.int 4))) (aN))))))) (aN)))))) (oV (eSl (oV (eV 1)) (bS (e2 kAdd (oV (eV 2)) (oV (eC (.int 1))))) (bN)))) [some (.own (some 0) d1), some (.d (.lst l)), some (.d (.int k)), some (.d row), none, none, ρ6, ρ7])
      fun p => ∃ l' d', p = (.rt (.lst l'), [some (.own (some 0) d'), some (.d (.lst l)), some (.d (.int k)), some (.d row), none, none, ρ6, ρ7]) ∧ Src (t + 8) d' ∧ Rws n (m + 1) l' := fun {ρ6 ρ7} => by
    nofun
    refine draw_ok s1 (by omega) (by decide) (by decide) fun r2 d2 a2 b2 s2 => ?_
    nofun
    refine odd4_ok a2 b2 fun x hx => ?_
    nofun
    exact ⟨by omega, by omega, _, _, rfl, s2.le (by omega), c3 x (hx.le (by omega))⟩
  generalize hE : sRet (e2 kAdd (oV (e2 kAdd (oV (eSl (oV (eV 1)) (bN) (bS (eV 2)))) (oV (nLst (aC (oV (e2 kIx (oV (nLst (aC (oV (eTup (aC (oV (eC (.str "stop"))) (aN)))) (aC (oV (eC .non)) (aC (oV (eC (.int 3))) (aC (oV (eC (.str "done"))) (aN))))))) (oV (eCall (f_w_draw) [] (aC (oI 0) (aC (oV (eC (.int 4))) (aN))))))) (aN)))))) (oV (eSl (oV (eV 1)) (bS (e2 kAdd (oV (eV 2)) (oV (eC (.int 1))))) (bN)))) = E at early ⊢
  obtain ⟨b, e1, t1, t2⟩ := itm_tup hI
  cases b with
  | false =>
    nofun
    refine ⟨_, e1, ?_⟩
    nofun
    refine Ex.mono early ?_
    rintro _ ⟨l', d', rfl, s', h'⟩
    nofun
    exact q _ _ s' h'
  | true =>
    obtain ⟨z, rfl, zl, za⟩ := t1 rfl
    cases z with
    | nil =>
      nofun
      refine ⟨fun _ => ?_, fun g => absurd rfl g⟩
      refine Ex.mono early ?_
      rintro _ ⟨l', d', rfl, s', h'⟩
      nofun
      exact q _ _ s' h'
    | cons a as =>
      obtain ⟨b, e2, x1, x2⟩ := atm_str (za a List.mem_cons_self)
      cases b with
      | false =>
        nofun
        refine ⟨fun g => by omega, fun _ => ?_⟩
        refine ⟨_, e2, ?_⟩
        nofun
        refine Ex.mono early ?_
        rintro _ ⟨l', d', rfl, s', h'⟩
        nofun
        exact q _ _ s' h'
      | true =>
        obtain ⟨x, rfl, hx⟩ := x1 rfl
        clear early t1 t2 x1 x2 e1
        nofun
        refine ⟨fun g => by omega, fun _ => ?_⟩
        refine ⟨_, e2, ?_⟩
        nofun
        have cNL : ∀ y ∈ [D.int 0, D.int (-1), D.int k, D.int (k + 1), D.int l.length, D.int ((l.length : Int) - 1), D.bl true, D.bl false, D.non, D.str "1", D.int 1000000000000000000, D.int 1000000000000000001, D.int 2], Atm y := fun y hy => by
          simp only [List.mem_cons, List.not_mem_nil, or_false] at hy
          have e20 : (10 : Nat) ^ 20 = 100000000000000000000 := by decide
          rcases hy with e | e | e | e | e | e | e | e | e | e | e | e | e <;> subst e
          · exact .int _ (by omega)
          · exact .int _ (by omega)
          · exact .int _ (by omega)
          · exact .int _ (by omega)
          · exact .int _ (by omega)
          · exact .int _ (by omega)
          · exact .bl _
          · exact .bl _
          · exact .non
          · exact tx "1"
          · exact .int _ (by omega)
          · exact .int _ (by omega)
          · exact .int _ (by omega)
        have lNL : [D.int 0, D.int (-1), D.int k, D.int (k + 1), D.int l.length, D.int ((l.length : Int) - 1), D.bl true, D.bl false, D.non, D.str "1", D.int 1000000000000000000, D.int 1000000000000000001, D.int 2].length = 13 := rfl
        generalize [D.int 0, D.int (-1), D.int k, D.int (k + 1), D.int l.length, D.int ((l.length : Int) - 1), D.bl true, D.bl false, D.non, D.str "1", D.int 1000000000000000000, D.int 1000000000000000001, D.int 2] = NL at cNL lNL ⊢
        refine draw_ok s1 (by omega) (by decide) (by decide) fun r2 d2 a2 b2 s2 => ?_
        nofun
        refine ex_mem a2 (by omega) fun nb hnb => ?_
        have hnb := cNL nb hnb
        nofun
        refine draw_ok s2 (by omega) (by decide) (by decide) fun r3 d3 a3 b3 s3 => ?_
        nofun
        have eL : kList [D.tup (D.str x :: as)] = some (.lst (D.str x :: as)) := rfl
        have xs := txts_ok x hx
        have eU : kUpp (.str x) = some (.str (PySem.Txt.upper x)) := if_pos (by omega)
        refine ⟨_, eL, ?_⟩
        nofun
        have al : as.length ≤ 99 := by have := zl; simp only [List.length_cons] at this; omega
        refine ⟨by omega, _, eU, ?_⟩
        nofun
        have zl' : as.length + 1 ≤ m := by have := zl; simp only [List.length_cons] at this; omega
        have asA : ∀ a ∈ as, Atm a := fun a ha => za a (List.mem_cons_of_mem _ ha)
        have cA : cutL (D.str x :: as) (some 1) none = as := cutL_1
        have hcut : ∀ a ∈ cutL (D.str x :: as) none (some ((as.length + 1 : Nat) - 1 : Int)), Atm a := fun a ha => by
          rw [show (((as.length + 1 : Nat) : Int) - 1) = (as.length : Nat) by omega, cutL_to (by simp)] at ha
          exact za a (List.mem_of_mem_take ha)
        have lcut : (cutL (D.str x :: as) none (some ((as.length + 1 : Nat) - 1 : Int))).length ≤ m := by
          rw [show (((as.length + 1 : Nat) : Int) - 1) = (as.length : Nat) by omega, cutL_to (by simp), List.length_take]
          omega
        refine ⟨by show 1 + as.length ≤ _; omega, by show 1 + as.length ≤ _; omega, ?_⟩
        refine draw_ok s3 (by omega) (by decide) (by decide) fun r4 d4 a4 b4 s4 => ?_
        nofun
        refine ex_mem a4 (by simp only [List.length_cons, List.length_nil]; omega) fun w3 hw3 => ?_
        have hw : Atm w3 := by
          simp only [List.mem_cons, List.not_mem_nil, or_false] at hw3
          rcases hw3 with e | e | e <;> subst e
          · exact tx "read"
          · exact tx "write"
          · exact tx "drain"
        nofun
        refine ⟨by show 1 + as.length ≤ _; omega, ?_⟩
        refine spoil2_ok s4 (by omega) hr h2 hk zl (by omega) za hnb a3 b3 (fun d5 l' s5 h5 => ?_) fun d5 s5 => ?_
        · nofun
          exact q _ _ (s5.le (by omega)) h5
        · nofun
          refine draw_ok s5 (by omega) (by decide) (by decide) fun r6 d6 a6 b6 s6 => ?_
          nofun
          refine ex_mem a6 (by simp only [List.length_cons, List.length_nil]; omega) fun y hy => ?_
          have hy : ItmN (m + 1) y := by
            have dA : List.drop 1 (D.str x :: as) = as := rfl
            rw [dA] at hy
            simp only [List.mem_cons, List.not_mem_nil, or_false] at hy
            have tA : ∀ w : D, Atm w → ItmN (m + 1) (.tup (w :: as)) := fun w hw => itm_t (by simp only [List.length_cons]; omega) (fun a ha => by
                rcases List.mem_cons.mp ha with e | e
                · rw [e]; exact hw
                · exact asA a e)
            rcases hy with e | e | e | e | e | e | e | e | e | e <;> rw [e]
            · exact itm_atm .non
            · exact itm_t (by simp) (fun a ha => by simp at ha)
            · exact itm_l (by simp) (fun a ha => by simp at ha)
            · exact itm_atm (.str x hx)
            · exact itm_l (by simp only [List.length_cons]; omega) za
            · exact itm_t (by simp only [List.length_cons, List.length_append, List.length_nil]; omega) (app_atm za (one_atm hnb))
            · exact itm_t (by omega) hcut
            · exact tA _ (.str _ xs.2.2.2)
            · exact tA _ .non
            · exact tA _ hw
          nofun
          exact ⟨by omega, by omega, q _ _ (s6.le (by omega)) (c3 y hy)⟩
theorem tf_ok {n : Nat} : ∀ (ts : List PySem.Str) (k : Nat) (acc : PySem.Str), PyData.strOk acc = true → (∀ t ∈ ts, PyData.strOk t = true ∧ t.length ≤ n) → PyData.strOk (textFrom k acc ts) = true ∧ (textFrom k acc ts).length ≤ acc.length + (n + 2) * ts.length
  | [], k, acc, h, _ => ⟨h, by show acc.length ≤ _; omega⟩
  | t :: ts, k, acc, h, g => by
    obtain ⟨t1, t2⟩ := g t List.mem_cons_self
    have sep : PyData.strOk (Str.ofString (if k > 0 then ", " else "")) = true := okT_of _
    have sl : (Str.ofString (if k > 0 then ", " else "")).length ≤ 2 := by rw [ofS_len]; split <;> decide
    have ih := tf_ok ts (k + 1) (acc ++ Str.ofString (if k > 0 then ", " else "") ++ t) (okT_app (okT_app h sep) t1) fun u hu => g u (List.mem_cons_of_mem _ hu)
    refine ⟨ih.1, Nat.le_trans ih.2 ?_⟩
    rw [Str.length_append, Str.length_append, List.length_cons, Nat.mul_succ]
    omega
theorem shw_lst {n k : Nat} {l : List D} (h : ∀ d ∈ l, Shw n k d) : Shw ((n + 2) * l.length + 3) (k + 1) (.lst l) := by
  obtain ⟨xs, e, b1, b2, b3, b4, b5⟩ := shws h
  have j := tf_ok (PyData.shownAll xs) 0 (Str.ofString "[") (okT_of _) b5
  rw [shownAll_len, b4] at j
  refine ⟨.list xs, by simp only [toPy, e, Option.bind_some], by simp only [PyData.showable, b1], by simp only [PyData.hasDict, b2], by unfold PyData.depth; omega, ?_, ?_⟩
  · simp only [PyData.shown]
    unfold listText
    exact okT_app j.1 (okT_of _)
  · simp only [PyData.shown]
    unfold listText
    rw [Str.length_append]
    have e1 : (Str.ofString "[").length = 1 := by rw [ofS_len]; rfl
    have e2 : (Str.ofString "]").length = 1 := by rw [ofS_len]; rfl
    show (textFrom 0 (Str.ofString "[") (PyData.shownAll xs)).length + (Str.ofString "]").length ≤ _
    omega
theorem shw_atm {d : D} (h : Atm d) : Shw 41 0 d := by
  cases h with
  | non => exact shw_non.le (by decide) (by decide)
  | bl b =>
    refine ⟨.bool b, rfl, by simp only [PyData.showable], by simp only [PyData.hasDict], by unfold PyData.depth; omega, ?_, ?_⟩
    · simp only [PyData.shown]; split <;> exact okT_of _
    · simp only [PyData.shown]; split <;> decide
  | int i hi =>
    have e : (10 : Nat) ^ 20 < 10 ^ 40 := by decide
    exact shw_int (by omega)
  | str x hx => exact shw_str (txts_ok x hx).2.1.1 (txts_ok x hx).2.1.2
theorem shw_itm {m : Nat} {d : D} (hm : m ≤ 100) (h : ItmN m d) : Shw 4400 1 d := by
  rcases h with h | ⟨l, e | e, hl, ha⟩
  · exact (shw_atm h).le (by decide) (by decide)
  · rw [e]; exact (shw_tup fun x hx => shw_atm (ha x hx)).le (by omega) (by decide)
  · rw [e]; exact (shw_lst fun x hx => shw_atm (ha x hx)).le (by omega) (by decide)
theorem shw_rows {n m : Nat} {l : List D} (h : Rws n m l) (hn : n ≤ 100) (hm : m ≤ 100) : Shw 441000 2 (.lst l) ∧ Shw 441000 2 (.tup l) := by
  have hl := h.len
  exact ⟨(shw_lst fun x hx => shw_itm hm (h.itm x hx)).le (by omega) (by decide), (shw_tup fun x hx => shw_itm hm (h.itm x hx)).le (by omega) (by decide)⟩
theorem shw_o (o : Option Int) (h : ∀ i, o = some i → i.natAbs < 10 ^ 40) : Shw 41 0 (oD o) := by
  cases o with
  | none => exact shw_non.le (by decide) (by decide)
  | some i => exact shw_int (h i rfl)
theorem progL_small {l : List D} {i : Int} (hl : l.length ≤ 100) (h : progL l = some i) : i.natAbs < 10 ^ 40 := by
  have e : 1000 < 10 ^ 40 := by decide
  unfold progL at h
  split at h
  · split at h
    · rename_i j hj
      cases h
      have := List.mem_range.mp (List.mem_of_find?_eq_some hj)
      omega
    · split at h
      · cases h
      · cases h; omega
  · cases h; omega
theorem row_itm {n i : Int} {r : Row} (h : RowOk n i r) (h0 : 0 ≤ i) (hn : n ≤ 100) : ItmN 4 (rowD r) := by
  have e20 : (10 : Nat) ^ 20 = 100000000000000000000 := by decide
  have ti : ∀ t ∈ r.targets, Atm (.int t) := fun t ht => .int t (by have := h.1 t ht; omega)
  have am : ∀ a, r.amount = some a → Atm (.int a) := fun a ha => .int a (by have := h.2 a ha; omega)
  cases r with
  | write a t => exact itm_t (by simp) (fun x hx => by
      simp only [List.mem_cons, List.not_mem_nil, or_false] at hx
      rcases hx with e | e | e <;> subst e
      · exact tx "write"
      · exact am _ rfl
      · exact ti _ (by simp [Row.targets]))
  | read a e o => exact itm_t (by simp) (fun x hx => by
      simp only [List.mem_cons, List.not_mem_nil, or_false] at hx
      rcases hx with e | e | e | e <;> subst e
      · exact tx "read"
      · exact am _ rfl
      · exact ti _ (by simp [Row.targets])
      · exact ti _ (by simp [Row.targets]))
  | drain t => exact itm_t (by simp) (fun x hx => by
      simp only [List.mem_cons, List.not_mem_nil, or_false] at hx
      rcases hx with e | e <;> subst e
      · exact tx "drain"
      · exact ti _ (by simp [Row.targets]))
  | one w => cases w <;> exact itm_t (by decide) (one_atm (tx _))
theorem rows_rws {rs : List Row} (h : ProgOk rs) : Rws rs.length 4 (rs.map rowD) := by
  refine ⟨List.length_map _, fun x hx => ?_⟩
  obtain ⟨r, hr, rfl⟩ := List.mem_map.mp hx
  obtain ⟨i, hi, e⟩ := List.getElem_of_mem hr
  have l2 := h.l2
  exact row_itm (h.rows i r (by rw [List.getElem?_eq_getElem hi, e])) (by omega) (by omega)
theorem law1_ok {t n : Nat} {d : D} {l : List D} {x0 x1 x3 x5 x6 x7 x8 x9 : Option S} {R : Out × L3.Env → Prop} (hs : Src t d) (ht : t < 2 ^ 28) (hr : Rws n 4 l) (h1 : 1 ≤ n) (h2 : n ≤ 100)
    (q : ∀ d' l' y5, Src (t + 20) d' → Rws n 6 l' → R (.nx, [x0, x1, some (.own none d'), x3, some (.d (.lst l')), y5, x6, x7, x8, x9])) :
    Ex (B_law_1 [x0, x1, some (.own none d), x3, some (.d (.lst l)), x5, x6, x7, x8, x9]) R := by
  unfold B_law_1
  nofun
  refine draw_ok hs (by omega) (by decide) (by decide) fun r1 d1 a1 b1 s1 => ?_
  nofun
  refine ⟨decide_eq_true (by omega), ?_⟩
  refine ex_loop _ (fun i ρ => ∃ (d' : D) (l' : List D) (y5 : Option S), Src (t + 1 + 8 * i) d' ∧ Rws n (4 + i) l' ∧ ρ = [x0, x1, some (.own none d'), x3, some (.d (.lst l')), y5, x6, x7, x8, x9]) ⟨_, _, _, s1, hr, rfl⟩ ?_ ?_
  · rintro i x ρ hx ⟨d', l', y5, s', h', rfl⟩
    obtain ⟨rfl, hi⟩ := rng_get hx
    have hi2 : i < 2 := Nat.lt_of_lt_of_le hi (by omega)
    nofun
    refine spoiled_ok s' (by omega) h' h1 h2 (by omega) fun d2 l2 s2 g2 => ?_
    nofun
    exact ⟨_, _, _, s2.le (by omega), g2, rfl⟩
  · rintro ρ ⟨d', l', y5, s', h', rfl⟩
    have hl : (rng 0 r1.toNat).length ≤ 2 := by unfold rng; rw [List.length_map, List.length_range]; omega
    exact q _ _ _ (s'.le (by omega)) ⟨h'.len, fun x hx => (h'.itm x hx).le (by omega)⟩
theorem law2_ok {t n : Nat} {d : D} {l : List D} {x0 x1 x3 x5 x6 x7 x8 x9 : Option S} {R : Out × L3.Env → Prop} (hs : Src t d) (ht : t < 2 ^ 28) (hr : Rws n 6 l) (h2 : n ≤ 90)
    (q : ∀ d' l' n', n' ≤ 100 → Src (t + 2) d' → Rws n' 6 l' → R (.nx, [x0, x1, some (.own none d'), x3, some (.d (.lst l')), x5, x6, x7, x8, x9])) :
    Ex (B_law_2 [x0, x1, some (.own none d), x3, some (.d (.lst l)), x5, x6, x7, x8, x9]) R := by
  have hl := hr.len
  unfold B_law_2
  nofun
  refine draw_ok hs (by omega) (by decide) (by decide) fun r1 d1 a1 b1 s1 => ?_
  nofun
  refine ⟨fun g => ?_, fun g => ?_⟩
  · refine draw_ok s1 (by omega) (by decide) (by decide) fun r2 d2 a2 b2 s2 => ?_
    nofun
    obtain ⟨p, hp⟩ : ∃ p : Nat, 1 + r2 = (p : Nat) := ⟨(1 + r2).toNat, by omega⟩
    rw [hp]
    have i3 : ∀ x ∈ [D.tup [D.str "stop"], D.tup [D.str "close"], D.tup [D.str "read", D.int 1, D.int l.length, D.int l.length]], ItmN 6 x := fun x hx => by
      have e20 : (10 : Nat) ^ 20 = 100000000000000000000 := by decide
      simp only [List.mem_cons, List.not_mem_nil, or_false] at hx
      rcases hx with e | e | e <;> subst e
      · exact itm_t (by simp) (one_atm (tx "stop"))
      · exact itm_t (by simp) (one_atm (tx "close"))
      · refine itm_t (by simp) (fun a ha => ?_)
        simp only [List.mem_cons, List.not_mem_nil, or_false] at ha
        rcases ha with e | e | e | e <;> subst e
        · exact tx "read"
        · exact .int _ (by omega)
        · exact .int _ (by omega)
        · exact .int _ (by omega)
    generalize hM : [D.tup [D.str "stop"], D.tup [D.str "close"], D.tup [D.str "read", D.int 1, D.int l.length, D.int l.length]] = M at i3 ⊢
    have lM : M.length = 3 := by rw [← hM]; rfl
    have lc : (cutL M none (some (p : Int))).length ≤ 3 := by rw [cutL_to (by omega), List.length_take]; omega
    have ic : ∀ x ∈ cutL M none (some (p : Int)), ItmN 6 x := fun x hx => by
      rw [cutL_to (by omega)] at hx
      exact i3 x (List.mem_of_mem_take hx)
    refine ⟨by omega, q _ _ (n + (cutL M none (some (p : Int))).length) (by omega) (s2.le (by omega)) ⟨by rw [List.length_append, hl], fun x hx => ?_⟩⟩
    rcases List.mem_append.mp hx with h | h
    · exact hr.itm x h
    · exact ic x h
  · exact q _ _ _ (by omega) (s1.le (by omega)) hr
theorem law3_ok {C CP : Addr} {v s : D} {x0 x1 x2 x3 x4 x5 x8 x9 : Option S} {R : Out × L3.Env → Prop} (h : VOk v) (ho : ∃ w, kRepr [oD (progO v)] = some (.str w) ∧ kNe (.str w) (.str w) = some (.bl false)) (hv : kRepr [v] = some s ∧ kNe s s = some (.bl false))
    (q : R (.nx, [x0, x1, x2, x3, x4, x5, some (.d v), some (.d s), x8, x9])) : Ex (B_law_3 C CP [x0, x1, x2, x3, x4, x5, some (.d v), some (.d s), x8, x9]) R := by
  obtain ⟨w, e1, e2⟩ := ho
  unfold B_law_3
  have td := fun Q q => told_any (C := C) (CP := CP) (v := v) (Q := Q) h q
  have du := fun Q q => due_any (v := v) (Q := Q) h q
  nofun
  refine td _ ?_
  nofun
  refine ⟨_, e1, ?_⟩
  nofun
  refine du _ ?_
  nofun
  refine ⟨_, e1, ?_⟩
  nofun
  refine ⟨_, e2, ?_⟩
  nofun
  refine ⟨_, hv.1, ?_⟩
  nofun
  refine ⟨_, hv.2, ?_⟩
  nofun
  exact q
theorem progO_repr {v : D} (h : VOk v) : ∃ w, kRepr [oD (progO v)] = some (.str w) ∧ kNe (.str w) (.str w) = some (.bl false) := by
  have hs : Shw 41 0 (oD (progO v)) := by
    rcases h with h | ⟨l, S⟩
    · rw [(not_seq h).2]; exact shw_int (by decide)
    · rw [S.o]; exact shw_o _ fun i hi => progL_small S.b hi
  obtain ⟨w, e1, e2, _⟩ := repr_ne hs (by decide) (by decide)
  exact ⟨w, e1, e2⟩
theorem law4_ok {t : Nat} {d : D} {C CP : Addr} {x0 x1 x3 x4 x5 x6 x7 x8 x9 : Option S} {R : Out × L3.Env → Prop} (hs : Src t d) (ht : t < 2 ^ 27)
    (q : ∀ d' y4 y5 y6 y7, Src (t + 140) d' → R (.nx, [x0, x1, some (.own none d'), x3, y4, y5, y6, y7, x8, x9])) :
    Ex (B_law_4 C CP [x0, x1, some (.own none d), x3, x4, x5, x6, x7, x8, x9]) R := by
  unfold B_law_4
  nofun
  refine draw_ok hs (by omega) (by decide) (by decide) fun r1 d1 a1 b1 s1 => ?_
  nofun
  refine ex_mem a1 (by simp only [List.length_cons, List.length_nil]; omega) fun m hm => ?_
  obtain ⟨m, rfl, m1, m2⟩ : ∃ i : Int, m = .int i ∧ 2 ≤ i ∧ i ≤ 24 := by
    simp only [List.mem_cons, List.not_mem_nil, or_false] at hm
    rcases hm with e | e <;> exact ⟨_, e, by decide, by decide⟩
  nofun
  refine draw_ok s1 (by omega) (by decide) (by decide) fun r2 d2 a2 b2 s2 => ?_
  nofun
  refine ex_mem a2 (by simp only [List.length_cons, List.length_nil]; omega) fun z hz => ?_
  obtain ⟨z, rfl, z1, z2⟩ : ∃ i : Int, z = .int i ∧ 1 ≤ i ∧ i ≤ 1000000000000000000 := by
    simp only [List.mem_cons, List.not_mem_nil, or_false] at hz
    rcases hz with e | e <;> exact ⟨_, e, by decide, by decide⟩
  nofun
  refine law_rows_ok s2 (by omega) m1 m2 z1 z2 fun rs d3 hp hle h2 s3 => ?_
  have hr := rows_rws hp
  have l2 := hp.l2
  generalize rs.map rowD = l at hr ⊢
  nofun
  refine law1_ok s3 (by omega) hr (by omega) (by omega) fun d4 l4 y5 s4 h4 => ?_
  nofun
  refine law2_ok s4 (by omega) h4 (by omega) fun d5 l5 n5 hn5 s5 h5 => ?_
  nofun
  refine draw_ok s5 (by omega) (by decide) (by decide) fun r6 d6 a6 b6 s6 => ?_
  nofun
  refine ex_mem a6 (by simp only [List.length_cons, List.length_nil]; omega) fun v hv => ?_
  have hl5 := h5.len
  obtain ⟨sl, st⟩ := shw_rows h5 hn5 (by decide)
  have itm5 : ∀ x ∈ l5, Itm x := fun x hx => (h5.itm x hx).le (by decide)
  have hv2 : VOk v ∧ Shw 441000 2 v := by
    simp only [List.mem_cons, List.not_mem_nil, or_false] at hv
    rcases hv with e | e <;> subst e
    · exact ⟨.inr ⟨_, seq_l (by omega) itm5⟩, sl⟩
    · exact ⟨.inr ⟨_, seq_t (by omega) itm5⟩, st⟩
  obtain ⟨w, e1, e2, _⟩ := repr_ne hv2.2 (by decide) (by decide)
  have l3 := fun R q => law3_ok (C := C) (CP := CP) (v := v) (s := .str w) (x0 := x0) (x1 := x1) (x2 := some (.own none d6)) (x3 := x3) (x4 := some (.d (.lst l5))) (x5 := y5) (x8 := x8) (x9 := x9) (R := R) hv2.1 (progO_repr hv2.1) ⟨e1, e2⟩ q
  generalize B_law_3 C CP = B3 at l3 ⊢
  nofun
  refine ⟨_, e1, ?_⟩
  nofun
  refine l3 _ ?_
  exact q _ _ _ _ _ (s6.le (by omega))
theorem told_kept {C CP : Addr} {v : D} {Q : Res × List D → Prop} (h : VOk v) (q : Q (.d (oD (progO v)), [])) : Ex (f_w_told C CP [.v v]) Q := told_any h q
theorem odds_ok {i : Int} {Q : D → Prop} (h0 : 0 ≤ i) (h5 : i < 9) (k : ∀ v, VOk v → Q v) : Ex (atI [D.lst [], D.tup [], D.non, D.int 7, D.str "done", D.bl true, D.tup [D.str "done"], D.lst [D.tup [D.str "done"], D.lst []], D.lst [D.lst [D.str "done"]]] i) Q := by
  refine ex_mem h0 (by simp only [List.length_cons, List.length_nil]; omega) fun x hx => k x ?_
  simp only [List.mem_cons, List.not_mem_nil, or_false] at hx
  rcases hx with e | e | e | e | e | e | e | e | e <;> subst e
  · exact .inr ⟨_, seq_l (by simp) fun x hx => by simp at hx⟩
  · exact .inr ⟨_, seq_t (by simp) fun x hx => by simp at hx⟩
  · exact .inl .non
  · exact .inl (.int _ (by decide))
  · exact .inl (tx "done")
  · exact .inl (.bl _)
  · exact .inr ⟨_, seq_t (by simp) fun x hx => by rw [List.mem_singleton.mp hx]; exact itm_atm (tx "done")⟩
  · refine .inr ⟨_, seq_l (by simp) fun x hx => ?_⟩
    simp only [List.mem_cons, List.not_mem_nil, or_false] at hx
    rcases hx with e | e <;> subst e
    · exact itm_t (by simp) (one_atm (tx "done"))
    · exact itm_l (by simp) fun a ha => by simp at ha
  · exact .inr ⟨_, seq_l (by simp) fun x hx => by rw [List.mem_singleton.mp hx]; exact itm_l (by simp) (one_atm (tx "done"))⟩
theorem stops_itm (n : Nat) : ∀ x ∈ List.replicate n (D.tup [D.str "stop"]) ++ [D.tup [D.str "done"]], Itm x := fun x hx => by
  rcases List.mem_append.mp hx with h | h
  · rw [List.eq_of_mem_replicate h]; exact itm_t (by simp) (one_atm (tx "stop"))
  · rw [List.mem_singleton.mp h]; exact itm_t (by simp) (one_atm (tx "done"))
theorem stops23 : progL (List.replicate 23 (D.tup [D.str "stop"]) ++ [D.tup [D.str "done"]]) = none := by kernel_rfl
theorem stopsN {n : Nat} (h : 24 ≤ n) : progL (List.replicate n (D.tup [D.str "stop"]) ++ [D.tup [D.str "done"]]) = some (-1) := by
  unfold progL
  rw [if_neg (by simp; omega)]
theorem law5_ok {C CP : Addr} {r : Int} {x0 x1 x2 x3 x4 x5 x6 x7 x9 : Option S} {R : Out × L3.Env → Prop} (h0 : 0 ≤ r) (h4 : r < 4)
    (q : R (.nx, [x0, x1, x2, x3, x4, x5, x6, x7, some (.d (.int (23 + r))), x9])) : Ex (B_law_5 C CP [x0, x1, x2, x3, x4, x5, x6, x7, some (.d (.int (23 + r))), x9]) R := by
  obtain ⟨n, hn, n1, n2⟩ : ∃ n : Nat, 23 + r = (n : Nat) ∧ 23 ≤ n ∧ n ≤ 26 := ⟨(23 + r).toNat, by omega, by omega, by omega⟩
  rw [hn] at q ⊢
  unfold B_law_5
  have e0 : kRep (.lst [D.tup [D.str "stop"]]) (.int n) = some (.lst (List.replicate n (D.tup [D.str "stop"]))) := by
    have ef : (List.replicate ((n : Int)).toNat [D.tup [D.str "stop"]]).flatten = List.replicate n (D.tup [D.str "stop"]) := by
      rw [Int.toNat_natCast]
      clear n1 n2 hn q
      induction n with
      | zero => rfl
      | succ n ih => rw [List.replicate_succ, List.replicate_succ, List.flatten_cons, ih]; rfl
    unfold kRep
    dsimp only
    rw [if_pos ⟨by omega, by omega, by simp only [List.length_cons, List.length_nil]; omega⟩, ef]
  have im := stops_itm n
  have hlen : (List.replicate n (D.tup [D.str "stop"])).length = n := List.length_replicate
  have ho : oD (progL (List.replicate n (D.tup [D.str "stop"]) ++ [D.tup [D.str "done"]])) = if 23 < n then .int (-1) else .non := by
    by_cases g : 23 < n
    · rw [if_pos g, stopsN (by omega)]; rfl
    · have : n = 23 := by omega
      subst this
      rw [if_neg g, stops23]; rfl
  generalize hL : List.replicate n (D.tup [D.str "stop"]) = L at *
  have S := seq_l (l := L ++ [D.tup [D.str "done"]]) (by simp only [List.length_append, List.length_cons, List.length_nil]; omega) im
  have V : VOk (.lst (L ++ [D.tup [D.str "done"]])) := .inr ⟨_, S⟩
  have td := fun Q q => told_any (C := C) (CP := CP) (Q := Q) V q
  rw [S.o, ho] at td
  nofun
  refine ⟨_, e0, ?_⟩
  nofun
  refine ⟨by omega, ?_⟩
  refine td _ ?_
  obtain ⟨s1, a1, a2, _⟩ := repr_ne (d := .non) shw_non (by decide) (by decide)
  obtain ⟨s2, b1, b2, _⟩ := repr_ne (d := .int (-1)) (shw_int (by decide)) (by decide) (by decide)
  by_cases g : 23 < n
  · rw [if_pos g]
    nofun
    refine ⟨_, b1, ?_⟩
    nofun
    have ea : atI [D.non, D.int (-1)] (if 23 < (n : Int) then 1 else 0) = some (.int (-1)) := by rw [if_pos (by omega), atI_1]
    refine ⟨_, ea, ?_⟩
    nofun
    refine ⟨_, b1, ?_⟩
    nofun
    refine ⟨_, b2, ?_⟩
    nofun
    exact q
  · rw [if_neg g]
    nofun
    refine ⟨_, a1, ?_⟩
    nofun
    have ea : atI [D.non, D.int (-1)] (if 23 < (n : Int) then 1 else 0) = some .non := by rw [if_neg (by omega), atI_0]
    refine ⟨_, ea, ?_⟩
    nofun
    refine ⟨_, a1, ?_⟩
    nofun
    refine ⟨_, a2, ?_⟩
    nofun
    exact q
theorem law6_ok {C CP : Addr} {v : D} {x0 x1 x2 x3 x4 x5 x6 x7 x8 : Option S} {R : Out × L3.Env → Prop} (h : VOk v)
    (q : R (.nx, [x0, x1, x2, x3, x4, x5, x6, x7, x8, some (.d v)])) : Ex (B_law_6 C CP [x0, x1, x2, x3, x4, x5, x6, x7, x8, some (.d v)]) R := by
  obtain ⟨w, e1, e2⟩ := progO_repr h
  unfold B_law_6
  have td := fun Q q => told_any (C := C) (CP := CP) (v := v) (Q := Q) h q
  have du := fun Q q => due_any (v := v) (Q := Q) h q
  nofun
  refine td _ ?_
  nofun
  refine ⟨_, e1, ?_⟩
  nofun
  refine du _ ?_
  nofun
  refine ⟨_, e1, ?_⟩
  nofun
  refine ⟨_, e2, ?_⟩
  nofun
  exact q
theorem law_ok (ns : List Int) (hl : ns.length ≤ 63) (C CP : Addr) : Ex (f_law C CP [.v (.scr ns)]) fun r => r = (.d (.bl true), []) := by
  unfold f_law B_law B_law_8
  nofun
  refine ⟨decide_eq_true (by split <;> split <;> omega), ?_⟩
  refine ex_loop _ (fun i ρ => ∃ x1 x2 x3 x4 x5 x6 x7 x8 x9 : Option S, ρ = [some (.d (.scr ns)), x1, x2, x3, x4, x5, x6, x7, x8, x9]) ⟨none, none, none, none, none, none, none, none, none, rfl⟩ ?_ ?_
  · rintro i x ρ hx ⟨x1, x2, x3, x4, x5, x6, x7, x8, x9, rfl⟩
    obtain ⟨rfl, hi⟩ := rng_get hx
    have hi4 : i < 4 := by
      refine Nat.lt_of_lt_of_le hi ?_
      split <;> split <;> omega
    unfold B_law_7
    nofun
    refine source_ok (by omega) (by omega) fun d hs => ?_
    nofun
    refine ⟨decide_eq_true (by omega), ?_⟩
    refine ex_loop _ (fun j ρ => ∃ (d : D) (y1 y3 y4 y5 y6 y7 y8 y9 : Option S), Src (140 * j) d ∧ ρ = [some (.d (.scr ns)), y1, some (.own none d), y3, y4, y5, y6, y7, y8, y9]) ⟨d, _, _, _, _, _, _, _, _, hs, rfl⟩ ?_ ?_
    · rintro j x ρ hx ⟨d, y1, y3, y4, y5, y6, y7, y8, y9, hs, rfl⟩
      obtain ⟨rfl, hj⟩ := rng_get hx
      have hj4 : j < 4 := Nat.lt_of_lt_of_le hj (by decide)
      nofun
      refine law4_ok hs (by omega) fun d' y4 y5 y6 y7 s' => ?_
      nofun
      exact ⟨d', _, _, _, _, _, _, _, _, s', rfl⟩
    · rintro ρ ⟨d, y1, y3, y4, y5, y6, y7, y8, y9, hs, rfl⟩
      have h4 : (rng 0 (4 : Int).toNat).length ≤ 4 := by decide
      have h4' : (rng 0 4).length ≤ 4 := by decide
      nofun
      refine draw_ok hs (by omega) (by decide) (by decide) fun r2 d2 a2 b2 s2 => ?_
      nofun
      refine law5_ok a2 b2 ?_
      nofun
      refine draw_ok s2 (by omega) (by decide) (by decide) fun r3 d3 a3 b3 s3 => ?_
      nofun
      refine odds_ok a3 b3 fun v hv => ?_
      nofun
      refine law6_ok hv ?_
      nofun
      exact ⟨_, _, _, _, _, _, _, _, _, rfl⟩
  · rintro ρ ⟨x1, x2, x3, x4, x5, x6, x7, x8, x9, rfl⟩
    nofun
theorem law_true (ns : List Int) (hl : ns.length ≤ 63) (C CP : Addr) : f_law C CP [.v (.scr ns)] = some (.d (.bl true), []) := (law_ok ns hl C CP).to
end My

namespace My
open PySem PySem.Spec PyProof.Rows L2 L3


abbrev R : PySem.W.OpenRow := PySem.W.OpenLaw.row PySem.Challenge.rw_lastbytes_k03_programs_refused
abbrev hk : PySem.W.Hook := hookE 6 faL fxL fnL tbL
end My
open PySem PySem.W PySem.Calls PyProof.Rows in
set_option maxRecDepth 100000 in
set_option maxHeartbeats 0 in
theorem PySem.Challenge.cw_lastbytes_k03_programs_refused_holds : PySem.Challenge.rw_lastbytes_k03_programs_refused.Holds := by
  w_on; o_law
  o_head My.hk
  case hw => w_witness2
  case hc =>
    refine L3.walk_ofEG (l := PySem.Challenge.rw_lastbytes_k03_programs_refused) (n := 63) (k := 6) (x := "_law_script") (CX := L2.CX0) rfl (by decide) (by kernel_rfl) ⟨rfl, by decide, by decide⟩ ?F (fun _ _ _ _ z => z)
    intro w mg fa h Y G hmg0
    obtain ⟨K, KX, c⟩ := Y
    have hmg : mg ("law" : PySem.Str) = some (.ref fa) := hmg0
    obtain ⟨fd, hb, hF⟩ := My.facts (P := (PySem.Challenge.rw_lastbytes_k03_programs_refused).prog) (w := w) KX G hmg c
    exact ⟨K, fd, L3.spF K (My.f_law (He.ga K "BadProgram") (He.ga K "Program")), KX, hb, fun H a ns hl _ hS => L3.law_end hS (My.law_true ns hl (He.ga K "BadProgram") (He.ga K "Program")), hF⟩

